import PyProof.Rows.All
import Wide.All
import OpenK.AllK
import Wide.FinOn
import PySem.Challenge.RW_nt0558_01
set_option Elab.async false
namespace Mine
section
open PySem PySem.W PyProof.Rows
set_option maxRecDepth 100000
set_option maxHeartbeats 8000000
noncomputable def VV : Program := view PySem.Challenge.rw_nt0558_01.row.prog [1, 2, 4, 5, 6, 7, 8, 9, 10, 11, 12, 14, 15, 16, 17, 18, 19, 20, 21, 22, 23, 24, 25, 26, 27, 28, 29, 30, 31, 32, 33, 34, 35, 36, 37, 39, 40, 41, 42, 43, 44, 45, 46, 47, 48, 49, 50]
noncomputable def bodyP : List Stmt := PySem.Challenge.rw_nt0558_01.row.prog.main.body
noncomputable def dTop (i : Nat) : Option Stmt := bodyP[i]?
noncomputable def dCls (i j : Nat) : Option Stmt := match bodyP[i]? with | some (.ClassDef _ _ _ b _ _ _ _ _ _ _) => b[j]? | _ => none
noncomputable def fdOf (st : Option Stmt) (q : Str) (dV kV doc pm : Value) (an : Option Addr) (cd ct : Value) : Data := match st with
  | some (.FunctionDef n a b _ _ _ sc _ _ _) => .func { name := n, qualname := q, params := a, body := .stmts b, scope := sc, globals := mainGlobals, closure := [], defaults := dV, kwdefaults := kV, doc := doc, pyModule := pm, annotations := an, code := cd, closureTuple := ct, builtins := builtinsNs }
  | _ => .plain
noncomputable def KK (P : Params) : Frag :=
  (nat_lit 2, ⟨.none, none, (.dict #[⟨PyData.keyHash P (Str.ofString "type.__subclasses__.Exception.0"), (.str (Str.ofString "type.__subclasses__.Exception.0") 214), (.int (31) 0)⟩, ⟨PyData.keyHash P (Str.ofString "type.__subclasses__.Exception.n"), (.str (Str.ofString "type.__subclasses__.Exception.n") 215), (.int (1) 0)⟩] 2), #[]⟩) ::
  (nat_lit 3, ⟨(.type "dict"), none, (.dict #[⟨PyData.keyHash P (Str.ofString "__name__"), (.str (Str.ofString "__name__") 165), (.str (Str.ofString "law_nt0558_01") 600)⟩, ⟨PyData.keyHash P (Str.ofString "__doc__"), (.str (Str.ofString "__doc__") 166), .none⟩, ⟨PyData.keyHash P (Str.ofString "__package__"), (.str (Str.ofString "__package__") 167), .none⟩, ⟨PyData.keyHash P (Str.ofString "__loader__"), (.str (Str.ofString "__loader__") 168), (.builtin "__main__.__loader__#opaque")⟩, ⟨PyData.keyHash P (Str.ofString "__spec__"), (.str (Str.ofString "__spec__") 169), .none⟩, ⟨PyData.keyHash P (Str.ofString "__annotations__"), (.str (Str.ofString "__annotations__") 170), (.ref 6)⟩, ⟨PyData.keyHash P (Str.ofString "__builtins__"), (.str (Str.ofString "__builtins__") 171), (.ref 4)⟩, ⟨PyData.keyHash P (Str.ofString "__file__"), (.str (Str.ofString "__file__") 173), (.str (Str.ofString "/claim/cut.py") 172)⟩, ⟨PyData.keyHash P (Str.ofString "__cached__"), (.str (Str.ofString "__cached__") 174), .none⟩, ⟨PyData.keyHash P (Str.ofString "PressError"), (.str (Str.ofString "PressError") 217), (.ref 31)⟩, ⟨PyData.keyHash P (Str.ofString "RangeError"), (.str (Str.ofString "RangeError") 233), (.ref 44)⟩, ⟨PyData.keyHash P (Str.ofString "Plane"), (.str (Str.ofString "Plane") 287), (.ref 77)⟩, ⟨PyData.keyHash P (Str.ofString "Picture"), (.str (Str.ofString "Picture") 339), (.ref 115)⟩, ⟨PyData.keyHash P (Str.ofString "kept_in"), (.str (Str.ofString "kept_in") 347), (.ref 126)⟩, ⟨PyData.keyHash P (Str.ofString "greatest_sample"), (.str (Str.ofString "greatest_sample") 354), (.ref 133)⟩, ⟨PyData.keyHash P (Str.ofString "middle_sample"), (.str (Str.ofString "middle_sample") 361), (.ref 140)⟩, ⟨PyData.keyHash P (Str.ofString "clamped"), (.str (Str.ofString "clamped") 369), (.ref 147)⟩, ⟨PyData.keyHash P (Str.ofString "copied_plane"), (.str (Str.ofString "copied_plane") 375), (.ref 152)⟩, ⟨PyData.keyHash P (Str.ofString "same_plane"), (.str (Str.ofString "same_plane") 383), (.ref 159)⟩, ⟨PyData.keyHash P (Str.ofString "same_picture"), (.str (Str.ofString "same_picture") 389), (.ref 164)⟩, ⟨PyData.keyHash P (Str.ofString "SCALE_BITS"), (.str (Str.ofString "SCALE_BITS") 393), (.int (16) 392)⟩, ⟨PyData.keyHash P (Str.ofString "HALF"), (.str (Str.ofString "HALF") 397), (.int (32768) 396)⟩, ⟨PyData.keyHash P (Str.ofString "Y_PARTS"), (.str (Str.ofString "Y_PARTS") 401), (.ref 165)⟩, ⟨PyData.keyHash P (Str.ofString "CB_PARTS"), (.str (Str.ofString "CB_PARTS") 407), (.ref 166)⟩, ⟨PyData.keyHash P (Str.ofString "CR_PARTS"), (.str (Str.ofString "CR_PARTS") 413), (.ref 167)⟩, ⟨PyData.keyHash P (Str.ofString "RED_BY_CR"), (.str (Str.ofString "RED_BY_CR") 415), (.int (91881) 414)⟩, ⟨PyData.keyHash P (Str.ofString "GREEN_BY_CB"), (.str (Str.ofString "GREEN_BY_CB") 417), (.int (22553) 416)⟩, ⟨PyData.keyHash P (Str.ofString "GREEN_BY_CR"), (.str (Str.ofString "GREEN_BY_CR") 419), (.int (46802) 418)⟩, ⟨PyData.keyHash P (Str.ofString "BLUE_BY_CB"), (.str (Str.ofString "BLUE_BY_CB") 421), (.int (116130) 420)⟩, ⟨PyData.keyHash P (Str.ofString "weighed"), (.str (Str.ofString "weighed") 431), (.ref 174)⟩, ⟨PyData.keyHash P (Str.ofString "to_ycc"), (.str (Str.ofString "to_ycc") 445), (.ref 181)⟩, ⟨PyData.keyHash P (Str.ofString "to_rgb"), (.str (Str.ofString "to_rgb") 462), (.ref 188)⟩, ⟨PyData.keyHash P (Str.ofString "to_ycck"), (.str (Str.ofString "to_ycck") 477), (.ref 195)⟩, ⟨PyData.keyHash P (Str.ofString "to_cmyk"), (.str (Str.ofString "to_cmyk") 492), (.ref 202)⟩, ⟨PyData.keyHash P (Str.ofString "to_light"), (.str (Str.ofString "to_light") 501), (.ref 209)⟩, ⟨PyData.keyHash P (Str.ofString "Turning"), (.str (Str.ofString "Turning") 542), (.ref 233)⟩, ⟨PyData.keyHash P (Str.ofString "is_turning"), (.str (Str.ofString "is_turning") 551), (.ref 244)⟩, ⟨PyData.keyHash P (Str.ofString "turned_planes"), (.str (Str.ofString "turned_planes") 557), (.ref 249)⟩, ⟨PyData.keyHash P (Str.ofString "grey_planes"), (.str (Str.ofString "grey_planes") 563), (.ref 254)⟩, ⟨PyData.keyHash P (Str.ofString "turned_picture"), (.str (Str.ofString "turned_picture") 569), (.ref 259)⟩, ⟨PyData.keyHash P (Str.ofString "inverted_picture"), (.str (Str.ofString "inverted_picture") 575), (.ref 264)⟩, ⟨PyData.keyHash P (Str.ofString "file_model"), (.str (Str.ofString "file_model") 582), (.ref 271)⟩, ⟨PyData.keyHash P (Str.ofString "shown_model"), (.str (Str.ofString "shown_model") 589), (.ref 278)⟩, ⟨PyData.keyHash P (Str.ofString "guessed_model"), (.str (Str.ofString "guessed_model") 599), (.ref 285)⟩, ⟨PyData.keyHash P (Str.ofString "_law_pool"), (.str (Str.ofString "_law_pool") 612), (.ref 292)⟩, ⟨PyData.keyHash P (Str.ofString "_law_take"), (.str (Str.ofString "_law_take") 621), (.ref 299)⟩, ⟨PyData.keyHash P (Str.ofString "_law_one"), (.str (Str.ofString "_law_one") 629), (.ref 306)⟩, ⟨PyData.keyHash P (Str.ofString "_law_guess"), (.str (Str.ofString "_law_guess") 639), (.ref 313)⟩, ⟨PyData.keyHash P (Str.ofString "_law_guess_right"), (.str (Str.ofString "_law_guess_right") 645), (.ref 318)⟩, ⟨PyData.keyHash P (Str.ofString "_law_models_right"), (.str (Str.ofString "_law_models_right") 653), (.ref 325)⟩, ⟨PyData.keyHash P (Str.ofString "_law_picture"), (.str (Str.ofString "_law_picture") 659), (.ref 330)⟩, ⟨PyData.keyHash P (Str.ofString "_law_rows"), (.str (Str.ofString "_law_rows") 665), (.ref 335)⟩, ⟨PyData.keyHash P (Str.ofString "_law_inverted_right"), (.str (Str.ofString "_law_inverted_right") 671), (.ref 340)⟩, ⟨PyData.keyHash P (Str.ofString "_law_turned_right"), (.str (Str.ofString "_law_turned_right") 677), (.ref 345)⟩, ⟨PyData.keyHash P (Str.ofString "_law_refused"), (.str (Str.ofString "_law_refused") 687), (.ref 352)⟩, ⟨PyData.keyHash P (Str.ofString "law"), (.str (Str.ofString "law") 701), (.ref 359)⟩] 56), #[]⟩) ::
  (nat_lit 15, ⟨(.type "tuple"), none, (.seq #[(.type "Exception")] 0), #[]⟩) ::
  (nat_lit 22, ⟨(.type "tuple"), none, (.seq #[] 0), #[]⟩) ::
  (nat_lit 24, ⟨(.type "tuple"), none, (.seq #[(.str (Str.ofString "self") 204), (.str (Str.ofString "message") 205)] 0), #[]⟩) ::
  (nat_lit 25, ⟨(.type "tuple"), none, (.seq #[] 0), #[]⟩) ::
  (nat_lit 27, ⟨(.type "code"), none, (.fields #[(.str (Str.ofString "__init__") 201), (.str (Str.ofString "PressError.__init__") 202), (.str (Str.ofString "/claim/cut.py") 203), (.int (4) 0), (.int (2) 0), (.int (0) 0), (.int (0) 0), (.int (3) 0), (.ref 22), (.bool true), (.int (181) 0), (.ref 23), .none, (.ref 24), (.ref 25), (.ref 26), (.int (206) 0), (.int (4) 0), (.str (Str.ofString "/claim/cut.py") 207)]), #[]⟩) ::
  (nat_lit 28, ⟨(.type "function"), none, (fdOf (dCls 1 0) (Str.ofString "PressError.__init__") .none .none .none (.str (Str.ofString "pixelpress.errors") 187) none (.ref 27) .none), #[]⟩) ::
  (nat_lit 29, ⟨(.type "tuple"), none, (.seq #[(.str (Str.ofString "message") 209)] 0), #[]⟩) ::
  (nat_lit 30, ⟨(.type "dict"), none, (.dict #[⟨PyData.keyHash P (Str.ofString "__module__"), (.str (Str.ofString "__module__") 196), (.str (Str.ofString "pixelpress.errors") 187)⟩, ⟨PyData.keyHash P (Str.ofString "__firstlineno__"), (.str (Str.ofString "__firstlineno__") 200), (.int (2) 199)⟩, ⟨PyData.keyHash P (Str.ofString "__init__"), (.str (Str.ofString "__init__") 208), (.ref 28)⟩, ⟨PyData.keyHash P (Str.ofString "__static_attributes__"), (.str (Str.ofString "__static_attributes__") 210), (.ref 29)⟩, ⟨PyData.keyHash P (Str.ofString "__weakref__"), (.str (Str.ofString "__weakref__") 212), (.ref 32)⟩, ⟨PyData.keyHash P (Str.ofString "__doc__"), (.str (Str.ofString "__doc__") 213), .none⟩] 3), #[]⟩) ::
  (nat_lit 31, ⟨(.type "type"), none, (.cls ⟨(Str.ofString "PressError"), [(.type "Exception")], [(.ref 31), (.type "Exception"), (.type "BaseException"), (.type "object")], 30, (Str.ofString "PressError"), true, [], [(.ref 44)], false, none, false⟩), #[(some (.ref 15)), none, (some (.str (Str.ofString "PressError") 189)), (some (.str (Str.ofString "PressError") 197)), (some (.builtin "Exception.__new__")), (some (.bool true))]⟩) ::
  (nat_lit 32, ⟨(.type "getset_descriptor"), none, (.fields #[(.str (Str.ofString "__weakref__") 211), (.ref 31), (.builtin "ExceptionGroup.__weakref__"), .none]), #[]⟩) ::
  (nat_lit 35, ⟨(.type "tuple"), none, (.seq #[(.ref 31)] 0), #[]⟩) ::
  (nat_lit 42, ⟨(.type "tuple"), none, (.seq #[] 0), #[]⟩) ::
  (nat_lit 43, ⟨(.type "dict"), none, (.dict #[⟨PyData.keyHash P (Str.ofString "__module__"), (.str (Str.ofString "__module__") 225), (.str (Str.ofString "pixelpress.errors") 187)⟩, ⟨PyData.keyHash P (Str.ofString "__firstlineno__"), (.str (Str.ofString "__firstlineno__") 229), (.int (7) 228)⟩, ⟨PyData.keyHash P (Str.ofString "__static_attributes__"), (.str (Str.ofString "__static_attributes__") 230), (.ref 42)⟩, ⟨PyData.keyHash P (Str.ofString "__doc__"), (.str (Str.ofString "__doc__") 231), .none⟩] 2), #[]⟩) ::
  (nat_lit 44, ⟨(.type "type"), none, (.cls ⟨(Str.ofString "RangeError"), [(.ref 31)], [(.ref 44), (.ref 31), (.type "Exception"), (.type "BaseException"), (.type "object")], 43, (Str.ofString "RangeError"), true, [], [], false, none, false⟩), #[(some (.ref 35)), none, (some (.str (Str.ofString "RangeError") 218)), (some (.str (Str.ofString "RangeError") 226)), (some (.builtin "Exception.__new__")), (some (.bool true))]⟩) ::
  (nat_lit 54, ⟨(.type "tuple"), none, (.seq #[] 0), #[]⟩) ::
  (nat_lit 56, ⟨(.type "tuple"), none, (.seq #[(.str (Str.ofString "self") 251), (.str (Str.ofString "width") 252), (.str (Str.ofString "height") 253), (.str (Str.ofString "rows") 254)] 0), #[]⟩) ::
  (nat_lit 57, ⟨(.type "tuple"), none, (.seq #[] 0), #[]⟩) ::
  (nat_lit 59, ⟨(.type "code"), none, (.fields #[(.str (Str.ofString "__init__") 248), (.str (Str.ofString "Plane.__init__") 249), (.str (Str.ofString "/claim/cut.py") 250), (.int (12) 0), (.int (4) 0), (.int (0) 0), (.int (0) 0), (.int (3) 0), (.ref 54), (.bool true), (.int (181) 0), (.ref 55), .none, (.ref 56), (.ref 57), (.ref 58), (.int (255) 0), (.int (12) 0), (.str (Str.ofString "/claim/cut.py") 256)]), #[]⟩) ::
  (nat_lit 60, ⟨(.type "function"), none, (fdOf (dCls 4 0) (Str.ofString "Plane.__init__") .none .none .none (.str (Str.ofString "pixelpress.planes") 234) none (.ref 59) .none), #[]⟩) ::
  (nat_lit 61, ⟨(.type "tuple"), none, (.seq #[] 0), #[]⟩) ::
  (nat_lit 63, ⟨(.type "tuple"), none, (.seq #[(.str (Str.ofString "self") 261), (.str (Str.ofString "x") 262), (.str (Str.ofString "y") 263)] 0), #[]⟩) ::
  (nat_lit 64, ⟨(.type "tuple"), none, (.seq #[] 0), #[]⟩) ::
  (nat_lit 66, ⟨(.type "code"), none, (.fields #[(.str (Str.ofString "at") 258), (.str (Str.ofString "Plane.at") 259), (.str (Str.ofString "/claim/cut.py") 260), (.int (17) 0), (.int (3) 0), (.int (0) 0), (.int (0) 0), (.int (3) 0), (.ref 61), (.bool true), (.int (181) 0), (.ref 62), .none, (.ref 63), (.ref 64), (.ref 65), (.int (264) 0), (.int (17) 0), (.str (Str.ofString "/claim/cut.py") 265)]), #[]⟩) ::
  (nat_lit 67, ⟨(.type "function"), none, (fdOf (dCls 4 1) (Str.ofString "Plane.at") .none .none .none (.str (Str.ofString "pixelpress.planes") 234) none (.ref 66) .none), #[]⟩) ::
  (nat_lit 68, ⟨(.type "tuple"), none, (.seq #[] 0), #[]⟩) ::
  (nat_lit 70, ⟨(.type "tuple"), none, (.seq #[(.str (Str.ofString "self") 270), (.str (Str.ofString "x") 271), (.str (Str.ofString "y") 272), (.str (Str.ofString "value") 273)] 0), #[]⟩) ::
  (nat_lit 71, ⟨(.type "tuple"), none, (.seq #[] 0), #[]⟩) ::
  (nat_lit 73, ⟨(.type "code"), none, (.fields #[(.str (Str.ofString "put") 267), (.str (Str.ofString "Plane.put") 268), (.str (Str.ofString "/claim/cut.py") 269), (.int (20) 0), (.int (4) 0), (.int (0) 0), (.int (0) 0), (.int (3) 0), (.ref 68), (.bool true), (.int (181) 0), (.ref 69), .none, (.ref 70), (.ref 71), (.ref 72), (.int (274) 0), (.int (20) 0), (.str (Str.ofString "/claim/cut.py") 275)]), #[]⟩) ::
  (nat_lit 74, ⟨(.type "function"), none, (fdOf (dCls 4 2) (Str.ofString "Plane.put") .none .none .none (.str (Str.ofString "pixelpress.planes") 234) none (.ref 73) .none), #[]⟩) ::
  (nat_lit 75, ⟨(.type "tuple"), none, (.seq #[(.str (Str.ofString "height") 277), (.str (Str.ofString "rows") 278), (.str (Str.ofString "width") 279)] 0), #[]⟩) ::
  (nat_lit 76, ⟨(.type "dict"), none, (.dict #[⟨PyData.keyHash P (Str.ofString "__module__"), (.str (Str.ofString "__module__") 243), (.str (Str.ofString "pixelpress.planes") 234)⟩, ⟨PyData.keyHash P (Str.ofString "__firstlineno__"), (.str (Str.ofString "__firstlineno__") 247), (.int (10) 246)⟩, ⟨PyData.keyHash P (Str.ofString "__init__"), (.str (Str.ofString "__init__") 257), (.ref 60)⟩, ⟨PyData.keyHash P (Str.ofString "at"), (.str (Str.ofString "at") 266), (.ref 67)⟩, ⟨PyData.keyHash P (Str.ofString "put"), (.str (Str.ofString "put") 276), (.ref 74)⟩, ⟨PyData.keyHash P (Str.ofString "__static_attributes__"), (.str (Str.ofString "__static_attributes__") 280), (.ref 75)⟩, ⟨PyData.keyHash P (Str.ofString "__dict__"), (.str (Str.ofString "__dict__") 282), (.ref 78)⟩, ⟨PyData.keyHash P (Str.ofString "__weakref__"), (.str (Str.ofString "__weakref__") 284), (.ref 79)⟩, ⟨PyData.keyHash P (Str.ofString "__doc__"), (.str (Str.ofString "__doc__") 285), .none⟩] 4), #[]⟩) ::
  (nat_lit 77, ⟨(.type "type"), none, (.cls ⟨(Str.ofString "Plane"), [(.type "object")], [(.ref 77), (.type "object")], 76, (Str.ofString "Plane"), true, [], [], false, none, false⟩), #[none, none, (some (.str (Str.ofString "Plane") 236)), (some (.str (Str.ofString "Plane") 244)), (some (.builtin "object.__new__")), (some (.bool true))]⟩) ::
  (nat_lit 78, ⟨(.type "getset_descriptor"), none, (.fields #[(.str (Str.ofString "__dict__") 281), (.ref 77), (.builtin "function.__dict__"), (.builtin "function.__dict__#set")]), #[]⟩) ::
  (nat_lit 79, ⟨(.type "getset_descriptor"), none, (.fields #[(.str (Str.ofString "__weakref__") 283), (.ref 77), (.builtin "ExceptionGroup.__weakref__"), .none]), #[]⟩) ::
  (nat_lit 89, ⟨(.type "tuple"), none, (.seq #[] 0), #[]⟩) ::
  (nat_lit 91, ⟨(.type "tuple"), none, (.seq #[(.str (Str.ofString "self") 303), (.str (Str.ofString "model") 304), (.str (Str.ofString "precision") 305), (.str (Str.ofString "planes") 306)] 0), #[]⟩) ::
  (nat_lit 92, ⟨(.type "tuple"), none, (.seq #[] 0), #[]⟩) ::
  (nat_lit 94, ⟨(.type "code"), none, (.fields #[(.str (Str.ofString "__init__") 300), (.str (Str.ofString "Picture.__init__") 301), (.str (Str.ofString "/claim/cut.py") 302), (.int (25) 0), (.int (4) 0), (.int (0) 0), (.int (0) 0), (.int (3) 0), (.ref 89), (.bool true), (.int (181) 0), (.ref 90), .none, (.ref 91), (.ref 92), (.ref 93), (.int (307) 0), (.int (25) 0), (.str (Str.ofString "/claim/cut.py") 308)]), #[]⟩) ::
  (nat_lit 95, ⟨(.type "function"), none, (fdOf (dCls 5 0) (Str.ofString "Picture.__init__") .none .none .none (.str (Str.ofString "pixelpress.planes") 234) none (.ref 94) .none), #[]⟩) ::
  (nat_lit 96, ⟨(.type "tuple"), none, (.seq #[] 0), #[]⟩) ::
  (nat_lit 99, ⟨(.type "code"), none, (.fields #[(.str (Str.ofString "width") 310), (.str (Str.ofString "Picture.width") 311), (.str (Str.ofString "/claim/cut.py") 312), (.int (30) 0), (.int (1) 0), (.int (0) 0), (.int (0) 0), (.int (3) 0), (.ref 96), (.bool true), (.int (181) 0), (.ref 97), .none, .none, .none, (.ref 98), (.int (313) 0), (.int (30) 0), (.str (Str.ofString "/claim/cut.py") 314)]), #[]⟩) ::
  (nat_lit 100, ⟨(.type "function"), none, (fdOf (dCls 5 1) (Str.ofString "Picture.width") .none .none .none (.str (Str.ofString "pixelpress.planes") 234) none (.ref 99) .none), #[]⟩) ::
  (nat_lit 101, ⟨(.type "tuple"), none, (.seq #[] 0), #[]⟩) ::
  (nat_lit 104, ⟨(.type "code"), none, (.fields #[(.str (Str.ofString "height") 316), (.str (Str.ofString "Picture.height") 317), (.str (Str.ofString "/claim/cut.py") 318), (.int (33) 0), (.int (1) 0), (.int (0) 0), (.int (0) 0), (.int (3) 0), (.ref 101), (.bool true), (.int (181) 0), (.ref 102), .none, .none, .none, (.ref 103), (.int (319) 0), (.int (33) 0), (.str (Str.ofString "/claim/cut.py") 320)]), #[]⟩) ::
  (nat_lit 105, ⟨(.type "function"), none, (fdOf (dCls 5 2) (Str.ofString "Picture.height") .none .none .none (.str (Str.ofString "pixelpress.planes") 234) none (.ref 104) .none), #[]⟩) ::
  (nat_lit 106, ⟨(.type "tuple"), none, (.seq #[] 0), #[]⟩) ::
  (nat_lit 108, ⟨(.type "tuple"), none, (.seq #[(.str (Str.ofString "self") 325)] 0), #[]⟩) ::
  (nat_lit 109, ⟨(.type "tuple"), none, (.seq #[] 0), #[]⟩) ::
  (nat_lit 111, ⟨(.type "code"), none, (.fields #[(.str (Str.ofString "most") 322), (.str (Str.ofString "Picture.most") 323), (.str (Str.ofString "/claim/cut.py") 324), (.int (36) 0), (.int (1) 0), (.int (0) 0), (.int (0) 0), (.int (3) 0), (.ref 106), (.bool true), (.int (181) 0), (.ref 107), .none, (.ref 108), (.ref 109), (.ref 110), (.int (326) 0), (.int (36) 0), (.str (Str.ofString "/claim/cut.py") 327)]), #[]⟩) ::
  (nat_lit 112, ⟨(.type "function"), none, (fdOf (dCls 5 3) (Str.ofString "Picture.most") .none .none .none (.str (Str.ofString "pixelpress.planes") 234) none (.ref 111) .none), #[]⟩) ::
  (nat_lit 113, ⟨(.type "tuple"), none, (.seq #[(.str (Str.ofString "model") 329), (.str (Str.ofString "planes") 330), (.str (Str.ofString "precision") 331)] 0), #[]⟩) ::
  (nat_lit 114, ⟨(.type "dict"), none, (.dict #[⟨PyData.keyHash P (Str.ofString "__module__"), (.str (Str.ofString "__module__") 295), (.str (Str.ofString "pixelpress.planes") 234)⟩, ⟨PyData.keyHash P (Str.ofString "__firstlineno__"), (.str (Str.ofString "__firstlineno__") 299), (.int (23) 298)⟩, ⟨PyData.keyHash P (Str.ofString "__init__"), (.str (Str.ofString "__init__") 309), (.ref 95)⟩, ⟨PyData.keyHash P (Str.ofString "width"), (.str (Str.ofString "width") 315), (.ref 100)⟩, ⟨PyData.keyHash P (Str.ofString "height"), (.str (Str.ofString "height") 321), (.ref 105)⟩, ⟨PyData.keyHash P (Str.ofString "most"), (.str (Str.ofString "most") 328), (.ref 112)⟩, ⟨PyData.keyHash P (Str.ofString "__static_attributes__"), (.str (Str.ofString "__static_attributes__") 332), (.ref 113)⟩, ⟨PyData.keyHash P (Str.ofString "__dict__"), (.str (Str.ofString "__dict__") 334), (.ref 116)⟩, ⟨PyData.keyHash P (Str.ofString "__weakref__"), (.str (Str.ofString "__weakref__") 336), (.ref 117)⟩, ⟨PyData.keyHash P (Str.ofString "__doc__"), (.str (Str.ofString "__doc__") 337), .none⟩] 4), #[]⟩) ::
  (nat_lit 115, ⟨(.type "type"), none, (.cls ⟨(Str.ofString "Picture"), [(.type "object")], [(.ref 115), (.type "object")], 114, (Str.ofString "Picture"), true, [], [], false, none, false⟩), #[none, none, (some (.str (Str.ofString "Picture") 288)), (some (.str (Str.ofString "Picture") 296)), (some (.builtin "object.__new__")), (some (.bool true))]⟩) ::
  (nat_lit 116, ⟨(.type "getset_descriptor"), none, (.fields #[(.str (Str.ofString "__dict__") 333), (.ref 115), (.builtin "function.__dict__"), (.builtin "function.__dict__#set")]), #[]⟩) ::
  (nat_lit 117, ⟨(.type "getset_descriptor"), none, (.fields #[(.str (Str.ofString "__weakref__") 335), (.ref 115), (.builtin "ExceptionGroup.__weakref__"), .none]), #[]⟩) ::
  (nat_lit 120, ⟨(.type "tuple"), none, (.seq #[] 0), #[]⟩) ::
  (nat_lit 122, ⟨(.type "tuple"), none, (.seq #[(.str (Str.ofString "place") 343), (.str (Str.ofString "size") 344)] 0), #[]⟩) ::
  (nat_lit 123, ⟨(.type "tuple"), none, (.seq #[] 0), #[]⟩) ::
  (nat_lit 125, ⟨(.type "code"), none, (.fields #[(.str (Str.ofString "kept_in") 340), (.str (Str.ofString "kept_in") 341), (.str (Str.ofString "/claim/cut.py") 342), (.int (38) 0), (.int (2) 0), (.int (0) 0), (.int (0) 0), (.int (3) 0), (.ref 120), (.bool true), (.int (181) 0), (.ref 121), .none, (.ref 122), (.ref 123), (.ref 124), (.int (345) 0), (.int (38) 0), (.str (Str.ofString "/claim/cut.py") 346)]), #[]⟩) ::
  (nat_lit 126, ⟨(.type "function"), none, (fdOf (dTop 6) (Str.ofString "kept_in") .none .none .none (.str (Str.ofString "pixelpress.planes") 234) none (.ref 125) .none), #[]⟩) ::
  (nat_lit 127, ⟨(.type "tuple"), none, (.seq #[] 0), #[]⟩) ::
  (nat_lit 129, ⟨(.type "tuple"), none, (.seq #[(.str (Str.ofString "precision") 351)] 0), #[]⟩) ::
  (nat_lit 130, ⟨(.type "tuple"), none, (.seq #[] 0), #[]⟩) ::
  (nat_lit 132, ⟨(.type "code"), none, (.fields #[(.str (Str.ofString "greatest_sample") 348), (.str (Str.ofString "greatest_sample") 349), (.str (Str.ofString "/claim/cut.py") 350), (.int (42) 0), (.int (1) 0), (.int (0) 0), (.int (0) 0), (.int (3) 0), (.ref 127), (.bool true), (.int (181) 0), (.ref 128), .none, (.ref 129), (.ref 130), (.ref 131), (.int (352) 0), (.int (42) 0), (.str (Str.ofString "/claim/cut.py") 353)]), #[]⟩) ::
  (nat_lit 133, ⟨(.type "function"), none, (fdOf (dTop 7) (Str.ofString "greatest_sample") .none .none .none (.str (Str.ofString "pixelpress.planes") 234) none (.ref 132) .none), #[]⟩) ::
  (nat_lit 134, ⟨(.type "tuple"), none, (.seq #[] 0), #[]⟩) ::
  (nat_lit 136, ⟨(.type "tuple"), none, (.seq #[(.str (Str.ofString "precision") 358)] 0), #[]⟩) ::
  (nat_lit 137, ⟨(.type "tuple"), none, (.seq #[] 0), #[]⟩) ::
  (nat_lit 139, ⟨(.type "code"), none, (.fields #[(.str (Str.ofString "middle_sample") 355), (.str (Str.ofString "middle_sample") 356), (.str (Str.ofString "/claim/cut.py") 357), (.int (44) 0), (.int (1) 0), (.int (0) 0), (.int (0) 0), (.int (3) 0), (.ref 134), (.bool true), (.int (181) 0), (.ref 135), .none, (.ref 136), (.ref 137), (.ref 138), (.int (359) 0), (.int (44) 0), (.str (Str.ofString "/claim/cut.py") 360)]), #[]⟩) ::
  (nat_lit 140, ⟨(.type "function"), none, (fdOf (dTop 8) (Str.ofString "middle_sample") .none .none .none (.str (Str.ofString "pixelpress.planes") 234) none (.ref 139) .none), #[]⟩) ::
  (nat_lit 141, ⟨(.type "tuple"), none, (.seq #[] 0), #[]⟩) ::
  (nat_lit 143, ⟨(.type "tuple"), none, (.seq #[(.str (Str.ofString "value") 365), (.str (Str.ofString "most") 366)] 0), #[]⟩) ::
  (nat_lit 144, ⟨(.type "tuple"), none, (.seq #[] 0), #[]⟩) ::
  (nat_lit 146, ⟨(.type "code"), none, (.fields #[(.str (Str.ofString "clamped") 362), (.str (Str.ofString "clamped") 363), (.str (Str.ofString "/claim/cut.py") 364), (.int (46) 0), (.int (2) 0), (.int (0) 0), (.int (0) 0), (.int (3) 0), (.ref 141), (.bool true), (.int (181) 0), (.ref 142), .none, (.ref 143), (.ref 144), (.ref 145), (.int (367) 0), (.int (46) 0), (.str (Str.ofString "/claim/cut.py") 368)]), #[]⟩) ::
  (nat_lit 147, ⟨(.type "function"), none, (fdOf (dTop 9) (Str.ofString "clamped") .none .none .none (.str (Str.ofString "pixelpress.planes") 234) none (.ref 146) .none), #[]⟩) ::
  (nat_lit 148, ⟨(.type "tuple"), none, (.seq #[] 0), #[]⟩) ::
  (nat_lit 151, ⟨(.type "code"), none, (.fields #[(.str (Str.ofString "copied_plane") 370), (.str (Str.ofString "copied_plane") 371), (.str (Str.ofString "/claim/cut.py") 372), (.int (50) 0), (.int (1) 0), (.int (0) 0), (.int (0) 0), (.int (3) 0), (.ref 148), (.bool true), (.int (181) 0), (.ref 149), .none, .none, .none, (.ref 150), (.int (373) 0), (.int (50) 0), (.str (Str.ofString "/claim/cut.py") 374)]), #[]⟩) ::
  (nat_lit 152, ⟨(.type "function"), none, (fdOf (dTop 10) (Str.ofString "copied_plane") .none .none .none (.str (Str.ofString "pixelpress.planes") 234) none (.ref 151) .none), #[]⟩) ::
  (nat_lit 153, ⟨(.type "tuple"), none, (.seq #[] 0), #[]⟩) ::
  (nat_lit 155, ⟨(.type "tuple"), none, (.seq #[(.str (Str.ofString "one") 379), (.str (Str.ofString "other") 380)] 0), #[]⟩) ::
  (nat_lit 156, ⟨(.type "tuple"), none, (.seq #[] 0), #[]⟩) ::
  (nat_lit 158, ⟨(.type "code"), none, (.fields #[(.str (Str.ofString "same_plane") 376), (.str (Str.ofString "same_plane") 377), (.str (Str.ofString "/claim/cut.py") 378), (.int (52) 0), (.int (2) 0), (.int (0) 0), (.int (0) 0), (.int (3) 0), (.ref 153), (.bool true), (.int (181) 0), (.ref 154), .none, (.ref 155), (.ref 156), (.ref 157), (.int (381) 0), (.int (52) 0), (.str (Str.ofString "/claim/cut.py") 382)]), #[]⟩) ::
  (nat_lit 159, ⟨(.type "function"), none, (fdOf (dTop 11) (Str.ofString "same_plane") .none .none .none (.str (Str.ofString "pixelpress.planes") 234) none (.ref 158) .none), #[]⟩) ::
  (nat_lit 160, ⟨(.type "tuple"), none, (.seq #[] 0), #[]⟩) ::
  (nat_lit 163, ⟨(.type "code"), none, (.fields #[(.str (Str.ofString "same_picture") 384), (.str (Str.ofString "same_picture") 385), (.str (Str.ofString "/claim/cut.py") 386), (.int (54) 0), (.int (2) 0), (.int (0) 0), (.int (0) 0), (.int (3) 0), (.ref 160), (.bool true), (.int (181) 0), (.ref 161), .none, .none, .none, (.ref 162), (.int (387) 0), (.int (54) 0), (.str (Str.ofString "/claim/cut.py") 388)]), #[]⟩) ::
  (nat_lit 164, ⟨(.type "function"), none, (fdOf (dTop 12) (Str.ofString "same_picture") .none .none .none (.str (Str.ofString "pixelpress.planes") 234) none (.ref 163) .none), #[]⟩) ::
  (nat_lit 165, ⟨(.type "tuple"), none, (.seq #[(.int (19595) 398), (.int (38470) 399), (.int (7471) 400)] 0), #[]⟩) ::
  (nat_lit 166, ⟨(.type "tuple"), none, (.seq #[(.int (-11058) 403), (.int (-21710) 405), (.int (32768) 406)] 0), #[]⟩) ::
  (nat_lit 167, ⟨(.type "tuple"), none, (.seq #[(.int (32768) 408), (.int (-27439) 410), (.int (-5329) 412)] 0), #[]⟩) ::
  (nat_lit 168, ⟨(.type "tuple"), none, (.seq #[] 0), #[]⟩) ::
  (nat_lit 170, ⟨(.type "tuple"), none, (.seq #[(.str (Str.ofString "parts") 425), (.str (Str.ofString "r") 426), (.str (Str.ofString "g") 427), (.str (Str.ofString "b") 428)] 0), #[]⟩) ::
  (nat_lit 171, ⟨(.type "tuple"), none, (.seq #[] 0), #[]⟩) ::
  (nat_lit 173, ⟨(.type "code"), none, (.fields #[(.str (Str.ofString "weighed") 422), (.str (Str.ofString "weighed") 423), (.str (Str.ofString "/claim/cut.py") 424), (.int (68) 0), (.int (4) 0), (.int (0) 0), (.int (0) 0), (.int (3) 0), (.ref 168), (.bool true), (.int (181) 0), (.ref 169), .none, (.ref 170), (.ref 171), (.ref 172), (.int (429) 0), (.int (68) 0), (.str (Str.ofString "/claim/cut.py") 430)]), #[]⟩) ::
  (nat_lit 174, ⟨(.type "function"), none, (fdOf (dTop 23) (Str.ofString "weighed") .none .none .none (.str (Str.ofString "pixelpress.colour") 390) none (.ref 173) .none), #[]⟩) ::
  (nat_lit 175, ⟨(.type "tuple"), none, (.seq #[] 0), #[]⟩) ::
  (nat_lit 177, ⟨(.type "tuple"), none, (.seq #[(.str (Str.ofString "r") 435), (.str (Str.ofString "g") 436), (.str (Str.ofString "b") 437), (.str (Str.ofString "precision") 438), (.str (Str.ofString "middle") 439), (.str (Str.ofString "y") 440), (.str (Str.ofString "cb") 441), (.str (Str.ofString "cr") 442)] 0), #[]⟩) ::
  (nat_lit 178, ⟨(.type "tuple"), none, (.seq #[] 0), #[]⟩) ::
  (nat_lit 180, ⟨(.type "code"), none, (.fields #[(.str (Str.ofString "to_ycc") 432), (.str (Str.ofString "to_ycc") 433), (.str (Str.ofString "/claim/cut.py") 434), (.int (70) 0), (.int (4) 0), (.int (0) 0), (.int (0) 0), (.int (3) 0), (.ref 175), (.bool true), (.int (181) 0), (.ref 176), .none, (.ref 177), (.ref 178), (.ref 179), (.int (443) 0), (.int (70) 0), (.str (Str.ofString "/claim/cut.py") 444)]), #[]⟩) ::
  (nat_lit 181, ⟨(.type "function"), none, (fdOf (dTop 24) (Str.ofString "to_ycc") .none .none .none (.str (Str.ofString "pixelpress.colour") 390) none (.ref 180) .none), #[]⟩) ::
  (nat_lit 182, ⟨(.type "tuple"), none, (.seq #[] 0), #[]⟩) ::
  (nat_lit 184, ⟨(.type "tuple"), none, (.seq #[(.str (Str.ofString "y") 449), (.str (Str.ofString "cb") 450), (.str (Str.ofString "cr") 451), (.str (Str.ofString "precision") 452), (.str (Str.ofString "most") 453), (.str (Str.ofString "middle") 454), (.str (Str.ofString "blue") 455), (.str (Str.ofString "red") 456), (.str (Str.ofString "r") 457), (.str (Str.ofString "g") 458), (.str (Str.ofString "b") 459)] 0), #[]⟩) ::
  (nat_lit 185, ⟨(.type "tuple"), none, (.seq #[] 0), #[]⟩) ::
  (nat_lit 187, ⟨(.type "code"), none, (.fields #[(.str (Str.ofString "to_rgb") 446), (.str (Str.ofString "to_rgb") 447), (.str (Str.ofString "/claim/cut.py") 448), (.int (76) 0), (.int (4) 0), (.int (0) 0), (.int (0) 0), (.int (3) 0), (.ref 182), (.bool true), (.int (181) 0), (.ref 183), .none, (.ref 184), (.ref 185), (.ref 186), (.int (460) 0), (.int (76) 0), (.str (Str.ofString "/claim/cut.py") 461)]), #[]⟩) ::
  (nat_lit 188, ⟨(.type "function"), none, (fdOf (dTop 25) (Str.ofString "to_rgb") .none .none .none (.str (Str.ofString "pixelpress.colour") 390) none (.ref 187) .none), #[]⟩) ::
  (nat_lit 189, ⟨(.type "tuple"), none, (.seq #[] 0), #[]⟩) ::
  (nat_lit 191, ⟨(.type "tuple"), none, (.seq #[(.str (Str.ofString "c") 466), (.str (Str.ofString "m") 467), (.str (Str.ofString "y") 468), (.str (Str.ofString "k") 469), (.str (Str.ofString "precision") 470), (.str (Str.ofString "most") 471), (.str (Str.ofString "light") 472), (.str (Str.ofString "cb") 473), (.str (Str.ofString "cr") 474)] 0), #[]⟩) ::
  (nat_lit 192, ⟨(.type "tuple"), none, (.seq #[] 0), #[]⟩) ::
  (nat_lit 194, ⟨(.type "code"), none, (.fields #[(.str (Str.ofString "to_ycck") 463), (.str (Str.ofString "to_ycck") 464), (.str (Str.ofString "/claim/cut.py") 465), (.int (83) 0), (.int (5) 0), (.int (0) 0), (.int (0) 0), (.int (3) 0), (.ref 189), (.bool true), (.int (181) 0), (.ref 190), .none, (.ref 191), (.ref 192), (.ref 193), (.int (475) 0), (.int (83) 0), (.str (Str.ofString "/claim/cut.py") 476)]), #[]⟩) ::
  (nat_lit 195, ⟨(.type "function"), none, (fdOf (dTop 26) (Str.ofString "to_ycck") .none .none .none (.str (Str.ofString "pixelpress.colour") 390) none (.ref 194) .none), #[]⟩) ::
  (nat_lit 196, ⟨(.type "tuple"), none, (.seq #[] 0), #[]⟩) ::
  (nat_lit 198, ⟨(.type "tuple"), none, (.seq #[(.str (Str.ofString "light") 481), (.str (Str.ofString "cb") 482), (.str (Str.ofString "cr") 483), (.str (Str.ofString "k") 484), (.str (Str.ofString "precision") 485), (.str (Str.ofString "most") 486), (.str (Str.ofString "r") 487), (.str (Str.ofString "g") 488), (.str (Str.ofString "b") 489)] 0), #[]⟩) ::
  (nat_lit 199, ⟨(.type "tuple"), none, (.seq #[] 0), #[]⟩) ::
  (nat_lit 201, ⟨(.type "code"), none, (.fields #[(.str (Str.ofString "to_cmyk") 478), (.str (Str.ofString "to_cmyk") 479), (.str (Str.ofString "/claim/cut.py") 480), (.int (87) 0), (.int (5) 0), (.int (0) 0), (.int (0) 0), (.int (3) 0), (.ref 196), (.bool true), (.int (181) 0), (.ref 197), .none, (.ref 198), (.ref 199), (.ref 200), (.int (490) 0), (.int (87) 0), (.str (Str.ofString "/claim/cut.py") 491)]), #[]⟩) ::
  (nat_lit 202, ⟨(.type "function"), none, (fdOf (dTop 27) (Str.ofString "to_cmyk") .none .none .none (.str (Str.ofString "pixelpress.colour") 390) none (.ref 201) .none), #[]⟩) ::
  (nat_lit 203, ⟨(.type "tuple"), none, (.seq #[] 0), #[]⟩) ::
  (nat_lit 205, ⟨(.type "tuple"), none, (.seq #[(.str (Str.ofString "r") 496), (.str (Str.ofString "g") 497), (.str (Str.ofString "b") 498)] 0), #[]⟩) ::
  (nat_lit 206, ⟨(.type "tuple"), none, (.seq #[] 0), #[]⟩) ::
  (nat_lit 208, ⟨(.type "code"), none, (.fields #[(.str (Str.ofString "to_light") 493), (.str (Str.ofString "to_light") 494), (.str (Str.ofString "/claim/cut.py") 495), (.int (91) 0), (.int (3) 0), (.int (0) 0), (.int (0) 0), (.int (3) 0), (.ref 203), (.bool true), (.int (181) 0), (.ref 204), .none, (.ref 205), (.ref 206), (.ref 207), (.int (499) 0), (.int (91) 0), (.str (Str.ofString "/claim/cut.py") 500)]), #[]⟩) ::
  (nat_lit 209, ⟨(.type "function"), none, (fdOf (dTop 28) (Str.ofString "to_light") .none .none .none (.str (Str.ofString "pixelpress.colour") 390) none (.ref 208) .none), #[]⟩) ::
  (nat_lit 217, ⟨(.type "tuple"), none, (.seq #[] 0), #[]⟩) ::
  (nat_lit 219, ⟨(.type "tuple"), none, (.seq #[(.str (Str.ofString "self") 517), (.str (Str.ofString "source") 518), (.str (Str.ofString "goal") 519), (.str (Str.ofString "precision") 520)] 0), #[]⟩) ::
  (nat_lit 220, ⟨(.type "tuple"), none, (.seq #[] 0), #[]⟩) ::
  (nat_lit 222, ⟨(.type "code"), none, (.fields #[(.str (Str.ofString "__init__") 514), (.str (Str.ofString "Turning.__init__") 515), (.str (Str.ofString "/claim/cut.py") 516), (.int (95) 0), (.int (4) 0), (.int (0) 0), (.int (0) 0), (.int (3) 0), (.ref 217), (.bool true), (.int (181) 0), (.ref 218), .none, (.ref 219), (.ref 220), (.ref 221), (.int (521) 0), (.int (95) 0), (.str (Str.ofString "/claim/cut.py") 522)]), #[]⟩) ::
  (nat_lit 223, ⟨(.type "function"), none, (fdOf (dCls 29 0) (Str.ofString "Turning.__init__") .none .none .none (.str (Str.ofString "pixelpress.colour") 390) none (.ref 222) .none), #[]⟩) ::
  (nat_lit 224, ⟨(.type "tuple"), none, (.seq #[] 0), #[]⟩) ::
  (nat_lit 226, ⟨(.type "tuple"), none, (.seq #[(.str (Str.ofString "self") 527), (.str (Str.ofString "values") 528)] 0), #[]⟩) ::
  (nat_lit 227, ⟨(.type "tuple"), none, (.seq #[] 0), #[]⟩) ::
  (nat_lit 229, ⟨(.type "code"), none, (.fields #[(.str (Str.ofString "samples") 524), (.str (Str.ofString "Turning.samples") 525), (.str (Str.ofString "/claim/cut.py") 526), (.int (100) 0), (.int (2) 0), (.int (0) 0), (.int (0) 0), (.int (3) 0), (.ref 224), (.bool true), (.int (181) 0), (.ref 225), .none, (.ref 226), (.ref 227), (.ref 228), (.int (529) 0), (.int (100) 0), (.str (Str.ofString "/claim/cut.py") 530)]), #[]⟩) ::
  (nat_lit 230, ⟨(.type "function"), none, (fdOf (dCls 29 1) (Str.ofString "Turning.samples") .none .none .none (.str (Str.ofString "pixelpress.colour") 390) none (.ref 229) .none), #[]⟩) ::
  (nat_lit 231, ⟨(.type "tuple"), none, (.seq #[(.str (Str.ofString "goal") 532), (.str (Str.ofString "precision") 533), (.str (Str.ofString "source") 534)] 0), #[]⟩) ::
  (nat_lit 232, ⟨(.type "dict"), none, (.dict #[⟨PyData.keyHash P (Str.ofString "__module__"), (.str (Str.ofString "__module__") 509), (.str (Str.ofString "pixelpress.colour") 390)⟩, ⟨PyData.keyHash P (Str.ofString "__firstlineno__"), (.str (Str.ofString "__firstlineno__") 513), (.int (93) 512)⟩, ⟨PyData.keyHash P (Str.ofString "__init__"), (.str (Str.ofString "__init__") 523), (.ref 223)⟩, ⟨PyData.keyHash P (Str.ofString "samples"), (.str (Str.ofString "samples") 531), (.ref 230)⟩, ⟨PyData.keyHash P (Str.ofString "__static_attributes__"), (.str (Str.ofString "__static_attributes__") 535), (.ref 231)⟩, ⟨PyData.keyHash P (Str.ofString "__dict__"), (.str (Str.ofString "__dict__") 537), (.ref 234)⟩, ⟨PyData.keyHash P (Str.ofString "__weakref__"), (.str (Str.ofString "__weakref__") 539), (.ref 235)⟩, ⟨PyData.keyHash P (Str.ofString "__doc__"), (.str (Str.ofString "__doc__") 540), .none⟩] 4), #[]⟩) ::
  (nat_lit 233, ⟨(.type "type"), none, (.cls ⟨(Str.ofString "Turning"), [(.type "object")], [(.ref 233), (.type "object")], 232, (Str.ofString "Turning"), true, [], [], false, none, false⟩), #[none, none, (some (.str (Str.ofString "Turning") 502)), (some (.str (Str.ofString "Turning") 510)), (some (.builtin "object.__new__")), (some (.bool true))]⟩) ::
  (nat_lit 234, ⟨(.type "getset_descriptor"), none, (.fields #[(.str (Str.ofString "__dict__") 536), (.ref 233), (.builtin "function.__dict__"), (.builtin "function.__dict__#set")]), #[]⟩) ::
  (nat_lit 235, ⟨(.type "getset_descriptor"), none, (.fields #[(.str (Str.ofString "__weakref__") 538), (.ref 233), (.builtin "ExceptionGroup.__weakref__"), .none]), #[]⟩) ::
  (nat_lit 238, ⟨(.type "tuple"), none, (.seq #[] 0), #[]⟩) ::
  (nat_lit 240, ⟨(.type "tuple"), none, (.seq #[(.str (Str.ofString "source") 546), (.str (Str.ofString "goal") 547), (.str (Str.ofString "pairs") 548)] 0), #[]⟩) ::
  (nat_lit 241, ⟨(.type "tuple"), none, (.seq #[] 0), #[]⟩) ::
  (nat_lit 243, ⟨(.type "code"), none, (.fields #[(.str (Str.ofString "is_turning") 543), (.str (Str.ofString "is_turning") 544), (.str (Str.ofString "/claim/cut.py") 545), (.int (112) 0), (.int (2) 0), (.int (0) 0), (.int (0) 0), (.int (3) 0), (.ref 238), (.bool true), (.int (181) 0), (.ref 239), .none, (.ref 240), (.ref 241), (.ref 242), (.int (549) 0), (.int (112) 0), (.str (Str.ofString "/claim/cut.py") 550)]), #[]⟩) ::
  (nat_lit 244, ⟨(.type "function"), none, (fdOf (dTop 30) (Str.ofString "is_turning") .none .none .none (.str (Str.ofString "pixelpress.colour") 390) none (.ref 243) .none), #[]⟩) ::
  (nat_lit 245, ⟨(.type "tuple"), none, (.seq #[] 0), #[]⟩) ::
  (nat_lit 248, ⟨(.type "code"), none, (.fields #[(.str (Str.ofString "turned_planes") 552), (.str (Str.ofString "turned_planes") 553), (.str (Str.ofString "/claim/cut.py") 554), (.int (115) 0), (.int (2) 0), (.int (0) 0), (.int (0) 0), (.int (3) 0), (.ref 245), (.bool true), (.int (181) 0), (.ref 246), .none, .none, .none, (.ref 247), (.int (555) 0), (.int (115) 0), (.str (Str.ofString "/claim/cut.py") 556)]), #[]⟩) ::
  (nat_lit 249, ⟨(.type "function"), none, (fdOf (dTop 31) (Str.ofString "turned_planes") .none .none .none (.str (Str.ofString "pixelpress.colour") 390) none (.ref 248) .none), #[]⟩) ::
  (nat_lit 250, ⟨(.type "tuple"), none, (.seq #[] 0), #[]⟩) ::
  (nat_lit 253, ⟨(.type "code"), none, (.fields #[(.str (Str.ofString "grey_planes") 558), (.str (Str.ofString "grey_planes") 559), (.str (Str.ofString "/claim/cut.py") 560), (.int (123) 0), (.int (2) 0), (.int (0) 0), (.int (0) 0), (.int (3) 0), (.ref 250), (.bool true), (.int (181) 0), (.ref 251), .none, .none, .none, (.ref 252), (.int (561) 0), (.int (123) 0), (.str (Str.ofString "/claim/cut.py") 562)]), #[]⟩) ::
  (nat_lit 254, ⟨(.type "function"), none, (fdOf (dTop 32) (Str.ofString "grey_planes") .none .none .none (.str (Str.ofString "pixelpress.colour") 390) none (.ref 253) .none), #[]⟩) ::
  (nat_lit 255, ⟨(.type "tuple"), none, (.seq #[] 0), #[]⟩) ::
  (nat_lit 258, ⟨(.type "code"), none, (.fields #[(.str (Str.ofString "turned_picture") 564), (.str (Str.ofString "turned_picture") 565), (.str (Str.ofString "/claim/cut.py") 566), (.int (129) 0), (.int (2) 0), (.int (0) 0), (.int (0) 0), (.int (3) 0), (.ref 255), (.bool true), (.int (181) 0), (.ref 256), .none, .none, .none, (.ref 257), (.int (567) 0), (.int (129) 0), (.str (Str.ofString "/claim/cut.py") 568)]), #[]⟩) ::
  (nat_lit 259, ⟨(.type "function"), none, (fdOf (dTop 33) (Str.ofString "turned_picture") .none .none .none (.str (Str.ofString "pixelpress.colour") 390) none (.ref 258) .none), #[]⟩) ::
  (nat_lit 260, ⟨(.type "tuple"), none, (.seq #[] 0), #[]⟩) ::
  (nat_lit 263, ⟨(.type "code"), none, (.fields #[(.str (Str.ofString "inverted_picture") 570), (.str (Str.ofString "inverted_picture") 571), (.str (Str.ofString "/claim/cut.py") 572), (.int (140) 0), (.int (1) 0), (.int (0) 0), (.int (0) 0), (.int (3) 0), (.ref 260), (.bool true), (.int (181) 0), (.ref 261), .none, .none, .none, (.ref 262), (.int (573) 0), (.int (140) 0), (.str (Str.ofString "/claim/cut.py") 574)]), #[]⟩) ::
  (nat_lit 264, ⟨(.type "function"), none, (fdOf (dTop 34) (Str.ofString "inverted_picture") .none .none .none (.str (Str.ofString "pixelpress.colour") 390) none (.ref 263) .none), #[]⟩) ::
  (nat_lit 265, ⟨(.type "tuple"), none, (.seq #[] 0), #[]⟩) ::
  (nat_lit 267, ⟨(.type "tuple"), none, (.seq #[(.str (Str.ofString "model") 579)] 0), #[]⟩) ::
  (nat_lit 268, ⟨(.type "tuple"), none, (.seq #[] 0), #[]⟩) ::
  (nat_lit 270, ⟨(.type "code"), none, (.fields #[(.str (Str.ofString "file_model") 576), (.str (Str.ofString "file_model") 577), (.str (Str.ofString "/claim/cut.py") 578), (.int (146) 0), (.int (1) 0), (.int (0) 0), (.int (0) 0), (.int (3) 0), (.ref 265), (.bool true), (.int (181) 0), (.ref 266), .none, (.ref 267), (.ref 268), (.ref 269), (.int (580) 0), (.int (146) 0), (.str (Str.ofString "/claim/cut.py") 581)]), #[]⟩) ::
  (nat_lit 271, ⟨(.type "function"), none, (fdOf (dTop 35) (Str.ofString "file_model") .none .none .none (.str (Str.ofString "pixelpress.colour") 390) none (.ref 270) .none), #[]⟩) ::
  (nat_lit 272, ⟨(.type "tuple"), none, (.seq #[] 0), #[]⟩) ::
  (nat_lit 274, ⟨(.type "tuple"), none, (.seq #[(.str (Str.ofString "model") 586)] 0), #[]⟩) ::
  (nat_lit 275, ⟨(.type "tuple"), none, (.seq #[] 0), #[]⟩) ::
  (nat_lit 277, ⟨(.type "code"), none, (.fields #[(.str (Str.ofString "shown_model") 583), (.str (Str.ofString "shown_model") 584), (.str (Str.ofString "/claim/cut.py") 585), (.int (148) 0), (.int (1) 0), (.int (0) 0), (.int (0) 0), (.int (3) 0), (.ref 272), (.bool true), (.int (181) 0), (.ref 273), .none, (.ref 274), (.ref 275), (.ref 276), (.int (587) 0), (.int (148) 0), (.str (Str.ofString "/claim/cut.py") 588)]), #[]⟩) ::
  (nat_lit 278, ⟨(.type "function"), none, (fdOf (dTop 36) (Str.ofString "shown_model") .none .none .none (.str (Str.ofString "pixelpress.colour") 390) none (.ref 277) .none), #[]⟩) ::
  (nat_lit 279, ⟨(.type "tuple"), none, (.seq #[] 0), #[]⟩) ::
  (nat_lit 281, ⟨(.type "tuple"), none, (.seq #[(.str (Str.ofString "many") 593), (.str (Str.ofString "idents") 594), (.str (Str.ofString "has_jfif") 595), (.str (Str.ofString "transform") 596)] 0), #[]⟩) ::
  (nat_lit 282, ⟨(.type "tuple"), none, (.seq #[] 0), #[]⟩) ::
  (nat_lit 284, ⟨(.type "code"), none, (.fields #[(.str (Str.ofString "guessed_model") 590), (.str (Str.ofString "guessed_model") 591), (.str (Str.ofString "/claim/cut.py") 592), (.int (150) 0), (.int (4) 0), (.int (0) 0), (.int (0) 0), (.int (3) 0), (.ref 279), (.bool true), (.int (181) 0), (.ref 280), .none, (.ref 281), (.ref 282), (.ref 283), (.int (597) 0), (.int (150) 0), (.str (Str.ofString "/claim/cut.py") 598)]), #[]⟩) ::
  (nat_lit 285, ⟨(.type "function"), none, (fdOf (dTop 37) (Str.ofString "guessed_model") .none .none .none (.str (Str.ofString "pixelpress.colour") 390) none (.ref 284) .none), #[]⟩) ::
  (nat_lit 286, ⟨(.type "tuple"), none, (.seq #[] 0), #[]⟩) ::
  (nat_lit 288, ⟨(.type "tuple"), none, (.seq #[(.str (Str.ofString "script") 605), (.str (Str.ofString "k") 606), (.str (Str.ofString "cell") 607), (.str (Str.ofString "big") 608), (.str (Str.ofString "mixed") 609)] 0), #[]⟩) ::
  (nat_lit 289, ⟨(.type "tuple"), none, (.seq #[] 0), #[]⟩) ::
  (nat_lit 291, ⟨(.type "code"), none, (.fields #[(.str (Str.ofString "_law_pool") 602), (.str (Str.ofString "_law_pool") 603), (.str (Str.ofString "/claim/cut.py") 604), (.int (163) 0), (.int (2) 0), (.int (0) 0), (.int (0) 0), (.int (3) 0), (.ref 286), (.bool true), (.int (181) 0), (.ref 287), .none, (.ref 288), (.ref 289), (.ref 290), (.int (610) 0), (.int (163) 0), (.str (Str.ofString "/claim/cut.py") 611)]), #[]⟩) ::
  (nat_lit 292, ⟨(.type "function"), none, (fdOf (dTop 39) (Str.ofString "_law_pool") .none .none .none (.str (Str.ofString "law_nt0558_01") 600) none (.ref 291) .none), #[]⟩) ::
  (nat_lit 293, ⟨(.type "tuple"), none, (.seq #[] 0), #[]⟩) ::
  (nat_lit 295, ⟨(.type "tuple"), none, (.seq #[(.str (Str.ofString "source") 616), (.str (Str.ofString "top") 617), (.str (Str.ofString "digit") 618)] 0), #[]⟩) ::
  (nat_lit 296, ⟨(.type "tuple"), none, (.seq #[] 0), #[]⟩) ::
  (nat_lit 298, ⟨(.type "code"), none, (.fields #[(.str (Str.ofString "_law_take") 613), (.str (Str.ofString "_law_take") 614), (.str (Str.ofString "/claim/cut.py") 615), (.int (170) 0), (.int (2) 0), (.int (0) 0), (.int (0) 0), (.int (3) 0), (.ref 293), (.bool true), (.int (181) 0), (.ref 294), .none, (.ref 295), (.ref 296), (.ref 297), (.int (619) 0), (.int (170) 0), (.str (Str.ofString "/claim/cut.py") 620)]), #[]⟩) ::
  (nat_lit 299, ⟨(.type "function"), none, (fdOf (dTop 40) (Str.ofString "_law_take") .none .none .none (.str (Str.ofString "law_nt0558_01") 600) none (.ref 298) .none), #[]⟩) ::
  (nat_lit 300, ⟨(.type "tuple"), none, (.seq #[] 0), #[]⟩) ::
  (nat_lit 302, ⟨(.type "tuple"), none, (.seq #[(.str (Str.ofString "source") 625), (.str (Str.ofString "things") 626)] 0), #[]⟩) ::
  (nat_lit 303, ⟨(.type "tuple"), none, (.seq #[] 0), #[]⟩) ::
  (nat_lit 305, ⟨(.type "code"), none, (.fields #[(.str (Str.ofString "_law_one") 622), (.str (Str.ofString "_law_one") 623), (.str (Str.ofString "/claim/cut.py") 624), (.int (177) 0), (.int (2) 0), (.int (0) 0), (.int (0) 0), (.int (3) 0), (.ref 300), (.bool true), (.int (181) 0), (.ref 301), .none, (.ref 302), (.ref 303), (.ref 304), (.int (627) 0), (.int (177) 0), (.str (Str.ofString "/claim/cut.py") 628)]), #[]⟩) ::
  (nat_lit 306, ⟨(.type "function"), none, (fdOf (dTop 41) (Str.ofString "_law_one") .none .none .none (.str (Str.ofString "law_nt0558_01") 600) none (.ref 305) .none), #[]⟩) ::
  (nat_lit 307, ⟨(.type "tuple"), none, (.seq #[] 0), #[]⟩) ::
  (nat_lit 309, ⟨(.type "tuple"), none, (.seq #[(.str (Str.ofString "many") 633), (.str (Str.ofString "numbers") 634), (.str (Str.ofString "is_jfif") 635), (.str (Str.ofString "adobe") 636)] 0), #[]⟩) ::
  (nat_lit 310, ⟨(.type "tuple"), none, (.seq #[] 0), #[]⟩) ::
  (nat_lit 312, ⟨(.type "code"), none, (.fields #[(.str (Str.ofString "_law_guess") 630), (.str (Str.ofString "_law_guess") 631), (.str (Str.ofString "/claim/cut.py") 632), (.int (179) 0), (.int (4) 0), (.int (0) 0), (.int (0) 0), (.int (3) 0), (.ref 307), (.bool true), (.int (181) 0), (.ref 308), .none, (.ref 309), (.ref 310), (.ref 311), (.int (637) 0), (.int (179) 0), (.str (Str.ofString "/claim/cut.py") 638)]), #[]⟩) ::
  (nat_lit 313, ⟨(.type "function"), none, (fdOf (dTop 42) (Str.ofString "_law_guess") .none .none .none (.str (Str.ofString "law_nt0558_01") 600) none (.ref 312) .none), #[]⟩) ::
  (nat_lit 314, ⟨(.type "tuple"), none, (.seq #[] 0), #[]⟩) ::
  (nat_lit 317, ⟨(.type "code"), none, (.fields #[(.str (Str.ofString "_law_guess_right") 640), (.str (Str.ofString "_law_guess_right") 641), (.str (Str.ofString "/claim/cut.py") 642), (.int (189) 0), (.int (1) 0), (.int (0) 0), (.int (0) 0), (.int (3) 0), (.ref 314), (.bool true), (.int (181) 0), (.ref 315), .none, .none, .none, (.ref 316), (.int (643) 0), (.int (189) 0), (.str (Str.ofString "/claim/cut.py") 644)]), #[]⟩) ::
  (nat_lit 318, ⟨(.type "function"), none, (fdOf (dTop 43) (Str.ofString "_law_guess_right") .none .none .none (.str (Str.ofString "law_nt0558_01") 600) none (.ref 317) .none), #[]⟩) ::
  (nat_lit 319, ⟨(.type "tuple"), none, (.seq #[] 0), #[]⟩) ::
  (nat_lit 321, ⟨(.type "tuple"), none, (.seq #[(.str (Str.ofString "name") 649), (.str (Str.ofString "due") 650)] 0), #[]⟩) ::
  (nat_lit 322, ⟨(.type "tuple"), none, (.seq #[] 0), #[]⟩) ::
  (nat_lit 324, ⟨(.type "code"), none, (.fields #[(.str (Str.ofString "_law_models_right") 646), (.str (Str.ofString "_law_models_right") 647), (.str (Str.ofString "/claim/cut.py") 648), (.int (194) 0), (.int (0) 0), (.int (0) 0), (.int (0) 0), (.int (3) 0), (.ref 319), (.bool true), (.int (181) 0), (.ref 320), .none, (.ref 321), (.ref 322), (.ref 323), (.int (651) 0), (.int (194) 0), (.str (Str.ofString "/claim/cut.py") 652)]), #[]⟩) ::
  (nat_lit 325, ⟨(.type "function"), none, (fdOf (dTop 44) (Str.ofString "_law_models_right") .none .none .none (.str (Str.ofString "law_nt0558_01") 600) none (.ref 324) .none), #[]⟩) ::
  (nat_lit 326, ⟨(.type "tuple"), none, (.seq #[] 0), #[]⟩) ::
  (nat_lit 329, ⟨(.type "code"), none, (.fields #[(.str (Str.ofString "_law_picture") 654), (.str (Str.ofString "_law_picture") 655), (.str (Str.ofString "/claim/cut.py") 656), (.int (202) 0), (.int (3) 0), (.int (0) 0), (.int (0) 0), (.int (3) 0), (.ref 326), (.bool true), (.int (181) 0), (.ref 327), .none, .none, .none, (.ref 328), (.int (657) 0), (.int (202) 0), (.str (Str.ofString "/claim/cut.py") 658)]), #[]⟩) ::
  (nat_lit 330, ⟨(.type "function"), none, (fdOf (dTop 45) (Str.ofString "_law_picture") .none .none .none (.str (Str.ofString "law_nt0558_01") 600) none (.ref 329) .none), #[]⟩) ::
  (nat_lit 331, ⟨(.type "tuple"), none, (.seq #[] 0), #[]⟩) ::
  (nat_lit 334, ⟨(.type "code"), none, (.fields #[(.str (Str.ofString "_law_rows") 660), (.str (Str.ofString "_law_rows") 661), (.str (Str.ofString "/claim/cut.py") 662), (.int (209) 0), (.int (1) 0), (.int (0) 0), (.int (0) 0), (.int (3) 0), (.ref 331), (.bool true), (.int (181) 0), (.ref 332), .none, .none, .none, (.ref 333), (.int (663) 0), (.int (209) 0), (.str (Str.ofString "/claim/cut.py") 664)]), #[]⟩) ::
  (nat_lit 335, ⟨(.type "function"), none, (fdOf (dTop 46) (Str.ofString "_law_rows") .none .none .none (.str (Str.ofString "law_nt0558_01") 600) none (.ref 334) .none), #[]⟩) ::
  (nat_lit 336, ⟨(.type "tuple"), none, (.seq #[] 0), #[]⟩) ::
  (nat_lit 339, ⟨(.type "code"), none, (.fields #[(.str (Str.ofString "_law_inverted_right") 666), (.str (Str.ofString "_law_inverted_right") 667), (.str (Str.ofString "/claim/cut.py") 668), (.int (211) 0), (.int (2) 0), (.int (0) 0), (.int (0) 0), (.int (3) 0), (.ref 336), (.bool true), (.int (181) 0), (.ref 337), .none, .none, .none, (.ref 338), (.int (669) 0), (.int (211) 0), (.str (Str.ofString "/claim/cut.py") 670)]), #[]⟩) ::
  (nat_lit 340, ⟨(.type "function"), none, (fdOf (dTop 47) (Str.ofString "_law_inverted_right") .none .none .none (.str (Str.ofString "law_nt0558_01") 600) none (.ref 339) .none), #[]⟩) ::
  (nat_lit 341, ⟨(.type "tuple"), none, (.seq #[] 0), #[]⟩) ::
  (nat_lit 344, ⟨(.type "code"), none, (.fields #[(.str (Str.ofString "_law_turned_right") 672), (.str (Str.ofString "_law_turned_right") 673), (.str (Str.ofString "/claim/cut.py") 674), (.int (219) 0), (.int (3) 0), (.int (0) 0), (.int (0) 0), (.int (3) 0), (.ref 341), (.bool true), (.int (181) 0), (.ref 342), .none, .none, .none, (.ref 343), (.int (675) 0), (.int (219) 0), (.str (Str.ofString "/claim/cut.py") 676)]), #[]⟩) ::
  (nat_lit 345, ⟨(.type "function"), none, (fdOf (dTop 48) (Str.ofString "_law_turned_right") .none .none .none (.str (Str.ofString "law_nt0558_01") 600) none (.ref 344) .none), #[]⟩) ::
  (nat_lit 346, ⟨(.type "tuple"), none, (.seq #[] 0), #[]⟩) ::
  (nat_lit 348, ⟨(.type "tuple"), none, (.seq #[(.str (Str.ofString "picture") 681), (.str (Str.ofString "model") 682), (.str (Str.ofString "before") 683), (.str (Str.ofString "e") 684)] 0), #[]⟩) ::
  (nat_lit 349, ⟨(.type "tuple"), none, (.seq #[] 0), #[]⟩) ::
  (nat_lit 351, ⟨(.type "code"), none, (.fields #[(.str (Str.ofString "_law_refused") 678), (.str (Str.ofString "_law_refused") 679), (.str (Str.ofString "/claim/cut.py") 680), (.int (246) 0), (.int (2) 0), (.int (0) 0), (.int (0) 0), (.int (3) 0), (.ref 346), (.bool true), (.int (181) 0), (.ref 347), .none, (.ref 348), (.ref 349), (.ref 350), (.int (685) 0), (.int (246) 0), (.str (Str.ofString "/claim/cut.py") 686)]), #[]⟩) ::
  (nat_lit 352, ⟨(.type "function"), none, (fdOf (dTop 49) (Str.ofString "_law_refused") .none .none .none (.str (Str.ofString "law_nt0558_01") 600) none (.ref 351) .none), #[]⟩) ::
  (nat_lit 353, ⟨(.type "tuple"), none, (.seq #[] 0), #[]⟩) ::
  (nat_lit 355, ⟨(.type "tuple"), none, (.seq #[(.str (Str.ofString "script") 691), (.str (Str.ofString "source") 692), (.str (Str.ofString "precision") 693), (.str (Str.ofString "models") 694), (.str (Str.ofString "model") 695), (.str (Str.ofString "goal") 696), (.str (Str.ofString "picture") 697), (.str (Str.ofString "ways") 698)] 0), #[]⟩) ::
  (nat_lit 356, ⟨(.type "tuple"), none, (.seq #[] 0), #[]⟩) ::
  (nat_lit 358, ⟨(.type "code"), none, (.fields #[(.str (Str.ofString "law") 688), (.str (Str.ofString "law") 689), (.str (Str.ofString "/claim/cut.py") 690), (.int (253) 0), (.int (1) 0), (.int (0) 0), (.int (0) 0), (.int (3) 0), (.ref 353), (.bool true), (.int (181) 0), (.ref 354), .none, (.ref 355), (.ref 356), (.ref 357), (.int (699) 0), (.int (253) 0), (.str (Str.ofString "/claim/cut.py") 700)]), #[]⟩) ::
  (nat_lit 359, ⟨(.type "function"), none, (fdOf (dTop 50) (Str.ofString "law") .none .none .none (.str (Str.ofString "law_nt0558_01") 600) none (.ref 358) .none), #[]⟩) :: []
noncomputable def asK : List Nat := [nat_lit 2, nat_lit 3, nat_lit 15, nat_lit 22, nat_lit 24, nat_lit 25, nat_lit 27, nat_lit 28, nat_lit 29, nat_lit 30, nat_lit 31, nat_lit 32, nat_lit 35, nat_lit 42, nat_lit 43, nat_lit 44, nat_lit 54, nat_lit 56, nat_lit 57, nat_lit 59, nat_lit 60, nat_lit 61, nat_lit 63, nat_lit 64, nat_lit 66, nat_lit 67, nat_lit 68, nat_lit 70, nat_lit 71, nat_lit 73, nat_lit 74, nat_lit 75, nat_lit 76, nat_lit 77, nat_lit 78, nat_lit 79, nat_lit 89, nat_lit 91, nat_lit 92, nat_lit 94, nat_lit 95, nat_lit 96, nat_lit 99, nat_lit 100, nat_lit 101, nat_lit 104, nat_lit 105, nat_lit 106, nat_lit 108, nat_lit 109, nat_lit 111, nat_lit 112, nat_lit 113, nat_lit 114, nat_lit 115, nat_lit 116, nat_lit 117, nat_lit 120, nat_lit 122, nat_lit 123, nat_lit 125, nat_lit 126, nat_lit 127, nat_lit 129, nat_lit 130, nat_lit 132, nat_lit 133, nat_lit 134, nat_lit 136, nat_lit 137, nat_lit 139, nat_lit 140, nat_lit 141, nat_lit 143, nat_lit 144, nat_lit 146, nat_lit 147, nat_lit 148, nat_lit 151, nat_lit 152, nat_lit 153, nat_lit 155, nat_lit 156, nat_lit 158, nat_lit 159, nat_lit 160, nat_lit 163, nat_lit 164, nat_lit 165, nat_lit 166, nat_lit 167, nat_lit 168, nat_lit 170, nat_lit 171, nat_lit 173, nat_lit 174, nat_lit 175, nat_lit 177, nat_lit 178, nat_lit 180, nat_lit 181, nat_lit 182, nat_lit 184, nat_lit 185, nat_lit 187, nat_lit 188, nat_lit 189, nat_lit 191, nat_lit 192, nat_lit 194, nat_lit 195, nat_lit 196, nat_lit 198, nat_lit 199, nat_lit 201, nat_lit 202, nat_lit 203, nat_lit 205, nat_lit 206, nat_lit 208, nat_lit 209, nat_lit 217, nat_lit 219, nat_lit 220, nat_lit 222, nat_lit 223, nat_lit 224, nat_lit 226, nat_lit 227, nat_lit 229, nat_lit 230, nat_lit 231, nat_lit 232, nat_lit 233, nat_lit 234, nat_lit 235, nat_lit 238, nat_lit 240, nat_lit 241, nat_lit 243, nat_lit 244, nat_lit 245, nat_lit 248, nat_lit 249, nat_lit 250, nat_lit 253, nat_lit 254, nat_lit 255, nat_lit 258, nat_lit 259, nat_lit 260, nat_lit 263, nat_lit 264, nat_lit 265, nat_lit 267, nat_lit 268, nat_lit 270, nat_lit 271, nat_lit 272, nat_lit 274, nat_lit 275, nat_lit 277, nat_lit 278, nat_lit 279, nat_lit 281, nat_lit 282, nat_lit 284, nat_lit 285, nat_lit 286, nat_lit 288, nat_lit 289, nat_lit 291, nat_lit 292, nat_lit 293, nat_lit 295, nat_lit 296, nat_lit 298, nat_lit 299, nat_lit 300, nat_lit 302, nat_lit 303, nat_lit 305, nat_lit 306, nat_lit 307, nat_lit 309, nat_lit 310, nat_lit 312, nat_lit 313, nat_lit 314, nat_lit 317, nat_lit 318, nat_lit 319, nat_lit 321, nat_lit 322, nat_lit 324, nat_lit 325, nat_lit 326, nat_lit 329, nat_lit 330, nat_lit 331, nat_lit 334, nat_lit 335, nat_lit 336, nat_lit 339, nat_lit 340, nat_lit 341, nat_lit 344, nat_lit 345, nat_lit 346, nat_lit 348, nat_lit 349, nat_lit 351, nat_lit 352, nat_lit 353, nat_lit 355, nat_lit 356, nat_lit 358, nat_lit 359]
theorem asK_ok : ∀ P, asK = (KK P).map (·.1) := fun _ => by kernel_rfl

theorem left_of {p q : Program} {loose : List Str} {Xt : Shared → Bool} {α : Type} {Yf : Shared → α} {Ya : World → α} {N : Nat} {g0 : Bool} {H₀ : Params → Heap} {gs₀ : Array GenState} {d₀ : Drawn} {k₀ : Nat}
    (open_ : ∀ w : World, (fencedOpening treeTable p w N).map (fun s => (s.heap, s.gens, s.drawn, s.toks)) = some (H₀ w.params, gs₀, d₀, k₀))
    (rest : ∀ (w : World) (os : OsState), (topFrom treeTable p w N ⟨H₀ w.params, gs₀, d₀, k₀, os⟩).map (fun s => (openSeen q loose (importedModules p.main.body) Xt g0 s, Yf s)) = some (openGood q loose, Ya w)) : LeftO p q loose Xt Yf Ya N g0 := fun w => by
  obtain ⟨⟨h, gs, d, k, os⟩, e, e'⟩ := Option.map_eq_some_iff.mp (open_ w)
  obtain ⟨rfl, rfl, rfl, rfl⟩ : h = H₀ w.params ∧ gs = gs₀ ∧ d = d₀ ∧ k = k₀ := by simpa using e'
  unfold openEnds
  rw [e]
  exact rest w os
theorem open_eq : opening PySem.Challenge.rw_nt0558_01.row.prog = plainProg PySem.Challenge.rw_nt0558_01.row.prog.main.scope.names := by kernel_rfl
theorem fence_eq : ∀ s, fenceModules? PySem.Challenge.rw_nt0558_01.row.prog s = some s := fun s => by kernel_rfl
/-- the run of the top over the tree's heap -/
noncomputable def topRunT (tb : String → Option Builtin) (p : Program) (w : World) (n₀ : Nat) (ann : Option Value) : Nat → SharedT → Thread → Option SharedT
  | 0, _, _ => none
  | n + 1, s, t => match through t with
    | true => some s
    | false => match stepOk n₀ ann t with
      | false => none
      | true => match stepT (denote tb) p w s t with
        | some (s', t') => topRunT tb p w n₀ ann n s' t'
        | none => none
theorem topRun_ofT {tb : String → Option Builtin} {p : Program} {w : World} {n₀ : Nat} {ann : Option Value} : ∀ {n : Nat} {s r : SharedT} {t : Thread}, topRunT tb p w n₀ ann n s t = some r → topRun tb p w n₀ ann n s.abs t = some r.abs
  | 0, _, _, _, h => by unfold topRunT at h; cases h
  | n + 1, s, r, t, h => by
    unfold topRunT at h
    unfold topRun
    split at h
    · rename_i e
      rw [e]
      exact congrArg (fun x => some (SharedT.abs x)) (Option.some.inj h)
    · rename_i e
      rw [e]
      split at h
      · cases h
      · rename_i e2
        rw [e2]
        split at h
        · rename_i s' t' e3
          rw [stepT_spec e3]
          exact topRun_ofT h
        · cases h
noncomputable def bootT (P : Params) : BT := (.node (boot_o_0 P) (.node (boot_o_1 P) (.node (boot_o_3 P) (.node (boot_o_7 P) .nil .nil) .nil) (.node (boot_o_5 P) (.node (boot_o_9 P) .nil .nil) .nil)) (.node (boot_o_2 P) (.node (boot_o_4 P) (.node (boot_o_8 P) .nil .nil) .nil) (.node (boot_o_6 P) (.node (boot_o_10 P) .nil .nil) .nil)))
theorem bootT_ok : ∀ (w : World) (os : OsState), (⟨boot_heap w.params, Array.mk [], boot_drawn, boot_toks, os⟩ : Shared) = SharedT.abs ⟨bootT w.params, 11, (boot_heap w.params).life, Array.mk [], boot_drawn, boot_toks, os⟩ := fun w os => by kernel_rfl
theorem size_ok : ∀ w : World, ((boot_heap w.params).isNs mainGlobals && (Array.mk ([] : List GenState)).size == 0, (boot_heap w.params).objs.size, (boot_heap w.params).nsMap mainGlobals "__annotations__") = (true, 11, some (.ref 6)) := fun w => by kernel_rfl
theorem restT : ∀ (w : World) (os : OsState), (topRunT treeTable PySem.Challenge.rw_nt0558_01.row.prog w 11 (some (.ref 6)) 5028 ⟨bootT w.params, 11, (boot_heap w.params).life, Array.mk [], boot_drawn, boot_toks, os⟩ (topStub PySem.Challenge.rw_nt0558_01.row.prog)).map (fun r => (staticsOk (importedModules PySem.Challenge.rw_nt0558_01.row.prog.main.body) (boot_heap w.params) r.abs.heap && namesBound PySem.Challenge.rw_nt0558_01.row.prog r.abs.heap && gensDone r.abs && laidKept (boot_heap w.params) r.abs.heap,
    openSeen VV [Str.ofString "HALF"] (importedModules PySem.Challenge.rw_nt0558_01.row.prog.main.body) (fun s => xlAt VV [(Str.ofString "HALF", WData.int 32768)] s && recOk PySem.Challenge.rw_nt0558_01.row.records s) true r.abs, (kHook KK asK asK_ok).obs r.abs)) = some (true, openGood VV [Str.ofString "HALF"], (kHook KK asK asK_ok).val w) := fun w os => by
  kernel_rfl
theorem restP : ∀ (w : World) (os : OsState), (topFrom treeTable PySem.Challenge.rw_nt0558_01.row.prog w 5028 ⟨boot_heap w.params, Array.mk [], boot_drawn, boot_toks, os⟩).map (fun s => (openSeen VV [Str.ofString "HALF"] (importedModules PySem.Challenge.rw_nt0558_01.row.prog.main.body) (fun s => xlAt VV [(Str.ofString "HALF", WData.int 32768)] s && recOk PySem.Challenge.rw_nt0558_01.row.records s) true s, (kHook KK asK asK_ok).obs s)) = some (openGood VV [Str.ofString "HALF"], (kHook KK asK asK_ok).val w) := fun w os => by
  obtain ⟨r, hr, hv⟩ := Option.map_eq_some_iff.mp (restT w os)
  obtain ⟨l1, l2, l3⟩ : _ ∧ _ ∧ _ := by simpa only [Prod.mk.injEq] using hv
  obtain ⟨z1, z2, z3⟩ : _ ∧ _ ∧ _ := by simpa only [Prod.mk.injEq] using size_ok w
  have hrun := topRun_ofT hr
  rw [← bootT_ok w os] at hrun
  have t : topFrom treeTable PySem.Challenge.rw_nt0558_01.row.prog w 5028 ⟨boot_heap w.params, Array.mk [], boot_drawn, boot_toks, os⟩ = some r.abs := by
    unfold topFrom
    dsimp only
    rw [z1, z2, z3, hrun]
    show (match staticsOk (importedModules PySem.Challenge.rw_nt0558_01.row.prog.main.body) (boot_heap w.params) r.abs.heap && namesBound PySem.Challenge.rw_nt0558_01.row.prog r.abs.heap && gensDone r.abs && laidKept (boot_heap w.params) r.abs.heap with | true => _ | false => _) = _
    rw [l1]
  rw [t]
  exact congrArg some (Prod.ext l2 l3)
theorem leftP : LeftO PySem.Challenge.rw_nt0558_01.row.prog VV [Str.ofString "HALF"] (fun s => xlAt VV [(Str.ofString "HALF", WData.int 32768)] s && recOk PySem.Challenge.rw_nt0558_01.row.records s) (kHook KK asK asK_ok).obs (kHook KK asK asK_ok).val 5028 :=
  left_of (boot_open open_eq rfl fence_eq) restP
end

section
open PySem PySem.W PyProof.Rows
set_option maxRecDepth 100000
set_option maxHeartbeats 8000000
theorem law_at {P : Params} : nsIn (KK P) mainGlobals "law" = some (some (.ref 359)) := by kernel_rfl
theorem said_ok : PySem.Challenge.rw_nt0558_01.wellSaid = true := by kernel_rfl
theorem chains_ok : (chainsOk VV && opensWell PySem.Challenge.rw_nt0558_01.row.prog && (frees PySem.Challenge.rw_nt0558_01.row.toRowW && PySem.Challenge.rw_nt0558_01.row.within.isEmpty)) = true := by kernel_rfl
theorem wit1 : PySem.Challenge.rw_nt0558_01.row.claim.pre [WData.list []] = true := by kernel_rfl
theorem wit2 : (WData.layableAll [WData.list []] && PySem.Challenge.rw_nt0558_01.row.returnsAt [WData.list []]) = true := by kernel_rfl
end

section
open PySem PySem.W PyProof.Rows
set_option maxRecDepth 100000
set_option maxHeartbeats 4000000

/-- what is new in h' against h -/
noncomputable def NewO (h h' : Heap) (a : Addr) (o : Obj) : Prop := h'.get? a = some o ∧ h.get? a = none
/-- all that h holds off W stands in h' -/
noncomputable def Stays (W : List Addr) (h h' : Heap) : Prop := ∀ b o, b ∉ W → h.get? b = some o → h'.get? b = some o
theorem Stays.refl {W : List Addr} {h : Heap} : Stays W h h := fun _ _ _ e => e
theorem Stays.trans {W : List Addr} {h h' h'' : Heap} (x : Stays W h h') (y : Stays W h' h'') : Stays W h h'' := fun b o n e => y b o n (x b o n e)
theorem Stays.all {h h' : Heap} (x : Stays [] h h') : ∀ b o, h.get? b = some o → h'.get? b = some o := fun b o e => x b o (by simp) e
theorem Stays.of {W : List Addr} {h h' : Heap} (x : ∀ b o, h.get? b = some o → h'.get? b = some o) : Stays W h h' := fun b o _ e => x b o e

/-- an evaluation that raises nothing, keeps all off W, keeps Inv, and hands back a value whose objects are new -/
inductive EffP {α : Type} (s : Shared) (W : List Addr) (Inv : Heap → Prop) (Post : (Addr → Obj → Prop) → α → Prop) (y : α) (s' : Shared) : Prop
  | mk : ∀ h' tk', s' = { s with heap := h', toks := tk' } → Stays W s.heap h' → Inv h' → Post (NewO s.heap h') y → EffP s W Inv Post y s'
noncomputable def Eff {α : Type} (M : Model) (A : Around) (t : Sem α) (s : Shared) (W : List Addr) (Inv : Heap → Prop) (Post : (Addr → Obj → Prop) → α → Prop) : Prop :=
  wpAny M A t (EffP s W Inv Post) (fun _ _ => False) s

theorem Eff.use {α : Type} {M : Model} {A : Around} {t : Sem α} {s : Shared} {W : List Addr} {Inv : Heap → Prop} {Post : (Addr → Obj → Prop) → α → Prop} {Q : α → Shared → Prop} {E : Value → Shared → Prop}
    (x : Eff M A t s W Inv Post) (k : ∀ y h' tk', Stays W s.heap h' → Inv h' → Post (NewO s.heap h') y → Q y { s with heap := h', toks := tk' }) : wpAny M A t Q E s :=
  wpAny_mono x (fun y s' h => by obtain ⟨h', tk', rfl, a, b, c⟩ := h; exact k y h' tk' a b c) (fun _ _ e => e.elim)

/-- the name x holds v in the block's own place -/
noncomputable def Holds (cenv : Env) (x : Str) (v : Value) (h : Heap) : Prop :=
  (cenv.kindOf x = some .local ∧ ∃ m, h.Ns cenv.locals m ∧ m x = some v) ∨ (cenv.kindOf x = some .cell ∧ ∃ c, cenv.cells.lookup x = some c ∧ h.IsCell c (some v))
theorem ld_holds {M : Model} {A : Around} {E : Value → Shared → Prop} {s : Shared} {cenv : Env} {x : Str} {v : Value} {pos : Pos} {Q : Value → Shared → Prop} (y : Holds cenv x v s.heap) (hk : cenv.scope.kind = .function) (q : Q v s)
    (hd : (x == ("__debug__" : Str)) = false := by decide) : wpAny M A (eval (.Name x pos) cenv) Q E s := by
  rcases y with ⟨a, m, b, c⟩ | ⟨a, c, b, d⟩
  · exact wpAny_Name (wpAny_loadName_local hk a b c q) hd
  · exact wpAny_Name (wpAny_loadName_cell hk a b d q) hd

section
variable {prog : Program} {w : World} {A : Around} {env : Env}

theorem cellsFrom_above : ∀ (names : List (Str × NameKind)) (n : Nat) (acc : List (Str × Addr)) (x : Str) (c : Addr), (x, c) ∈ cellsFrom n names acc → (x, c) ∈ acc ∨ n ≤ c
  | [], _, _, _, _, h => .inl h
  | (y, k) :: r, n, acc, x, c, h => by
    unfold cellsFrom at h
    split at h
    · rcases cellsFrom_above r (n + 1) _ x c h with h | h
      · rcases List.mem_cons.mp h with e | h
        · cases e; exact .inr (Nat.le_refl _)
        · exact .inl h
      · exact .inr (Nat.le_of_succ_le h)
    · exact cellsFrom_above r n acc x c h

theorem pushCells_size : ∀ (names : List (Str × NameKind)) (h : Heap), h.objs.size ≤ (pushCells h names).objs.size
  | [], _ => Nat.le_refl _
  | (_, k) :: r, h => by
    unfold pushCells
    split
    · exact Nat.le_trans (by rw [Heap.size_push]; exact Nat.le_succ _) (pushCells_size r _)
    · exact pushCells_size r h

/-- the block's frame: its dict, and its own cells laid -/
theorem blockEnv {M : Model} {E : Value → Shared → Prop} {s : Shared} {scope : Scope} {globals : Addr} {cl : List (Str × Addr)} {qual : Str} {out : Env} {Q : Env → Shared → Prop}
    (hQ : Q (newEnv scope s.heap.objs.size globals (cellsFrom (s.heap.objs.size + 1) scope.names cl) qual none .none (some out) builtinsNs)
      { s with heap := pushCells (s.heap.push { cls := .type "dict", data := .dict #[] }) scope.names }) :
    wpAny M A (newFunctionEnv scope globals cl [] qual none .none (some out)) Q E s := by
  simp only [newFunctionEnv, Option.isSome_some, if_true]
  refine wpAny_bind (wpAny_alloc ?_)
  refine wpAny_bind (wpAny_layCells _ (fun name kind cells => by cases hkc : kind == NameKind.cell <;> simp [hkc]) _ _ _ _ ?_)
  rw [show ({ s with heap := s.heap.push { cls := .type "dict", data := .dict #[] } } : Shared).heap.objs.size = s.heap.objs.size + 1 from Heap.size_push ..]
  refine wpAny_bind ?_
  rw [List.forIn_nil]
  exact wpAny_pure (wpAny_pure hQ)
end
theorem wpFold {α : Type} {M : Model} {A : Around} {t : Sem α} {Q : α → Shared → Prop} {E : Value → Shared → Prop} {s : Shared} (h : let q := Q; wpAny M A t q E s) : wpAny M A t Q E s := h
theorem and4 {a b c d C : Prop} (h : a ∧ b ∧ c ∧ d) (kC : a → b → c → d → C) : C := kC h.1 h.2.1 h.2.2.1 h.2.2.2
theorem cj1 {xp xq : Prop} (hz : xp ∧ xq) : xp := hz.1
theorem cj2 {ya xp xq : Prop} (hz : ya ∧ xp ∧ xq) : xp := hz.2.1
theorem cj3 {ya yb xp xq : Prop} (hz : ya ∧ yb ∧ xp ∧ xq) : xp := hz.2.2.1
theorem cj4 {ya yb yc xp xq : Prop} (hz : ya ∧ yb ∧ yc ∧ xp ∧ xq) : xp := hz.2.2.2.1
theorem cj5 {ya yb yc yd xp xq : Prop} (hz : ya ∧ yb ∧ yc ∧ yd ∧ xp ∧ xq) : xp := hz.2.2.2.2.1
theorem cj6 {ya yb yc yd ye xp xq : Prop} (hz : ya ∧ yb ∧ yc ∧ yd ∧ ye ∧ xp ∧ xq) : xp := hz.2.2.2.2.2.1
theorem ck2 {ya xp : Prop} (hz : ya ∧ xp) : xp := hz.2
theorem ck3 {ya yb xp : Prop} (hz : ya ∧ yb ∧ xp) : xp := hz.2.2
theorem ck4 {ya yb yc xp : Prop} (hz : ya ∧ yb ∧ yc ∧ xp) : xp := hz.2.2.2
theorem ck5 {ya yb yc yd xp : Prop} (hz : ya ∧ yb ∧ yc ∧ yd ∧ xp) : xp := hz.2.2.2.2
theorem ck6 {ya yb yc yd ye xp : Prop} (hz : ya ∧ yb ∧ yc ∧ yd ∧ ye ∧ xp) : xp := hz.2.2.2.2.2
theorem ck7 {ya yb yc yd ye yf xp : Prop} (hz : ya ∧ yb ∧ yc ∧ yd ∧ ye ∧ yf ∧ xp) : xp := hz.2.2.2.2.2.2
theorem om0 {xa xb xc : Nat} (hz : xa ≤ xb) (kz : xb ≤ xc) : xa ≤ xc := Nat.le_trans hz kz
theorem omI {xa xb xc : Int} (hz : xa ≤ xb) (kz : xb ≤ xc) : xa ≤ xc := Int.le_trans hz kz
theorem om1 {a b c : Int} (hz : b ≤ c) (kz : a ≤ b) : a ≤ c := Int.le_trans kz hz
theorem om2 {d a R : Nat} (hz : d + a < R) : d < R := Nat.lt_of_le_of_lt (Nat.le_add_right d a) hz
theorem om3 {d a b R : Nat} (hz : d + a < R) (kz : b ≤ a) : d + b < R := Nat.lt_of_le_of_lt (Nat.add_le_add_left kz d) hz
theorem om4 {a b c d : Nat} (hz : a = b) (kz : b ≤ c) (l : c ≤ d) : a ≤ d := hz ▸ Nat.le_trans kz l
theorem om5 {a b x : Nat} (hz : a = b) (kz : x < b) : x < a := hz ▸ kz
theorem om6 {a b c : Nat} (hz : a = b) (l : b ≤ c) : a ≤ c := hz ▸ l
theorem om7 {i c : Nat} (hz : i ≤ c) (kz : c ≤ 16777216) : (i : Int) < 2 ^ 63 := by omega
theorem omA {n m c : Nat} (e : n = m) (hz' : m ≤ c) (kz : c ≤ 16777216) : (n : Int) < 2 ^ 63 := by omega
theorem omB {n : Nat} : -(2 : Int) ^ 63 ≤ (n : Int) := by omega
theorem omD {n c : Nat} {d : Int} (hz : n ≤ c) (kz : (c : Int) ≤ d) : (n : Int) ≤ d := Int.le_trans (Int.ofNat_le.mpr hz) kz
end

section
open PySem PySem.W PyProof.Rows PyProof.Rows.LCg
set_option maxRecDepth 100000
set_option maxHeartbeats 4000000

noncomputable def ownX (cenv : Env) (x : Str) : List Addr := cenv.locals :: (if cenv.kindOf x = some .cell then (cenv.cells.lookup x).toList else [])
noncomputable def Placed (cenv : Env) (x : Str) (h : Heap) : Prop := (cenv.kindOf x = some .local) ∨ (cenv.kindOf x = some .cell ∧ ∃ c, cenv.cells.lookup x = some c ∧ (∃ v, h.IsCell c v) ∧ c ≠ cenv.locals)

theorem Placed.stays {cenv : Env} {x : Str} {h h' : Heap} {W : List Addr} (y : Placed cenv x h) (k : Stays W h h') (n2 : ∀ c, cenv.kindOf x = some .cell → cenv.cells.lookup x = some c → c ∉ W) : Placed cenv x h' := by
  rcases y with a | ⟨a, c, b, ⟨v, o, d, e⟩, f⟩
  · exact .inl a
  · exact .inr ⟨a, c, b, ⟨v, o, k _ _ (n2 c a b) d, e⟩, f⟩

theorem store_E {M : Model} {A : Around} {E : Value → Shared → Prop} {s : Shared} {cenv : Env} {x : Str} {v : Value} {px : Pos} {Q : Unit → Shared → Prop} (hk : cenv.scope.kind = .function) (pl : Placed cenv x s.heap)
    (hn : ∃ m, s.heap.Ns cenv.locals m)
    (k : ∀ h' tk', Holds cenv x v h' → Placed cenv x h' → (∃ m, h'.Ns cenv.locals m) → Stays (ownX cenv x) s.heap h' → Q () { s with heap := h', toks := tk' }) : wpAny M A (assign (.Name x px) cenv v) Q E s := by
  obtain ⟨m, hm⟩ := hn
  rcases pl with a | ⟨a, c, b, ⟨v0, d⟩, f⟩
  · refine wpAny_assign_Name (wpAny_storeName_local a hm (fun h' hn' hs' => ?_) (by rw [hk]; rfl))
    exact k h' _ (.inl ⟨a, _, hn', by simp⟩) (.inl a) ⟨_, hn'⟩ fun b o q e => hs'.extBut b o (fun z => q (by rw [z]; exact .head _)) e
  · refine wpAny_assign_Name (wpAny_storeName_cell hk a b d (fun h' hc' hs' => ?_))
    refine k h' _ (.inr ⟨a, c, b, hc'⟩) (.inr ⟨a, c, b, ⟨_, hc'⟩, f⟩) ⟨m, hm.sameBut hs' (Ne.symm f)⟩ fun b' o q e => hs'.extBut b' o (fun z => q ?_) e
    unfold ownX
    rw [if_pos a, b, z]
    exact .tail _ (.head _)

section
variable {prog : Program} {w : World} {A : Around} {env : Env}

theorem ownX_ge {scope : Scope} {cl : List (Str × Addr)} {x : Str} {C : Nat}
    (hx : (relabel scope env).names.lookup x = some .local ∨ ((relabel scope env).names.lookup x = some .cell ∧ ∀ k, ∃ c, (cellsFrom k scope.names cl).lookup x = some c ∧ (cellsFrom k scope.names []).lookup x = some c)) :
    ∀ b ∈ ownX (compEnvC scope (cellsFrom (C + 1) scope.names cl) C env) x, C ≤ b := by
  intro b hb
  rcases List.mem_cons.mp hb with e | hb
  · exact Nat.le_of_eq e.symm
  · split at hb
    · rename_i hc
      have hc' : (relabel scope env).names.lookup x = some .cell := hc
      rcases hx with q | ⟨_, q⟩
      · rw [q] at hc'; cases hc'
      · obtain ⟨c, q1, q2⟩ := q (C + 1)
        have hb' : b ∈ ((cellsFrom (C + 1) scope.names cl).lookup x).toList := hb
        rw [q1] at hb'
        have e := List.mem_singleton.mp hb'
        rcases cellsFrom_above _ _ _ _ _ (mem_of_lookup q2) with z | z
        · cases z
        · rw [e]; exact Nat.le_of_succ_le z
    · cases hb

inductive BlkS (s₂ : Shared) (n : Nat) (St : Nat → Heap → Prop) (D I : Addr) (cenv : Env) (x : Str) (Wm : List Addr) (Inv : Heap → Prop) (P : Nat → Value → Prop) (T : Nat → Value → (Addr → Obj → Prop) → Value → Prop) (k : Nat) (s' : Shared) : Prop
  | mk : ∀ H tk i ys, s' = { s₂ with heap := H, toks := tk } → i ≤ n → k = n + 1 - i → ys.length = i → St i H → H.get? D = some (lst ys) → (∃ m, H.Ns (D + 1) m) → Placed cenv x H → Stays (I :: Wm) s₂.heap H → Inv H → (∀ j y, ys[j]? = some y → ∃ v, P j v ∧ T j v (fun a o => H.get? a = some o ∧ s₂.heap.get? a = none ∧ a ≠ I ∧ a ≠ D ∧ a ∉ ownX cenv x ∧ a ∉ Wm) y) → BlkS s₂ n St D I cenv x Wm Inv P T k s'
theorem block_E {elt iter : Expr} {x : Str} {px : Pos} {scope : Scope} {cl : List (Str × Addr)} {pos : Pos} {s₂ : Shared} {I : Addr} {fp Wm : List Addr} {n : Nat} {P : Nat → Value → Prop} {St : Nat → Heap → Prop}
    {Inv : Heap → Prop} {T : Nat → Value → (Addr → Obj → Prop) → Value → Prop} {E : Value → Shared → Prop} {RR : Value → Addr → Result → Shared → Prop}
    (W : Walks prog w A I fp [I] n P St) (hsz : n ≤ sizeLine) (hkind : scope.kind = .function)
    (hx : (relabel scope env).names.lookup x = some .local ∨ ((relabel scope env).names.lookup x = some .cell ∧ ∀ k, ∃ c, (cellsFrom k scope.names cl).lookup x = some c ∧ (cellsFrom k scope.names []).lookup x = some c))
    (hst : St 0 s₂.heap) (hfp : ∀ b ∈ fp, b < s₂.heap.objs.size) (hWl : ∀ b ∈ Wm, b < s₂.heap.objs.size) (hWf : ∀ b ∈ Wm, b ∉ fp) (hIx : ∀ i h, St i h → ∃ o, h.get? I = some o)
    (hIs : ∀ h h', Inv h → (∀ b ∈ Wm, ∀ o, h.get? b = some o → h'.get? b = some o) → Inv h') (inv0 : Inv s₂.heap) (hWx : ∀ h, Inv h → ∀ b ∈ Wm, ∃ o, h.get? b = some o)
    (hT : ∀ i v y (O O' : Addr → Obj → Prop), (∀ a o, O a o → O' a o) → T i v O y → T i v O' y)
    (helt : ∀ C i v (s : Shared) cl', (∃ h tk, s = { s₂ with heap := h, toks := tk }) → cl' = cellsFrom (C + 1) scope.names cl → i < n ∧ s₂.heap.objs.size ≤ C → P i v → Stays (I :: Wm) s₂.heap s.heap → Inv s.heap → Holds (compEnvC scope cl' C env) x v s.heap →
      Eff (model prog w) A (eval elt (compEnvC scope cl' C env)) s Wm Inv (T i v))
    (hRR : ∀ D C h tk m' ys, s₂.heap.get? D = none → s₂.heap.get? C = none → C ≠ D → h.Ns C m' → h.get? D = some (lst ys) → ys.length = n → Stays (I :: Wm) s₂.heap h → Inv h →
      (∀ i y, ys[i]? = some y → ∃ v, P i v ∧ T i v (fun a o => h.get? a = some o ∧ s₂.heap.get? a = none ∧ a ≠ C) y) → RR (.ref D) C (.ok .next) { s₂ with heap := h, toks := tk }) :
    wpAny (model prog w) A (newList []) (fun acc s₃ => wpAny (model prog w) A (newFunctionEnv scope env.globals cl [] env.qual none .none (some env)) (fun cenv s₄ =>
      codeAny (model prog w) A (.compStart (.ListComp elt [⟨.Name x px, iter, [], 0⟩] scope pos) 0 (.ref I) acc { cenv with scope := relabel scope env }) (RR acc cenv.locals) s₄) E s₃) E s₂ := by
  refine wpAny_newObj_type (blockEnv ?_)
  dsimp only [newEnv]
  have hIlt : I < s₂.heap.objs.size := hfp I (W.sub I (List.mem_singleton.mpr rfl))
  generalize hDd : s₂.heap.objs.size = D at hfp hWl hIlt
  generalize hHd : s₂.heap.push { cls := .type "list", dict := none, data := .seq ([] : List Value).toArray } = H₂
  have hCs : H₂.objs.size = D + 1 := by rw [← hHd, Heap.size_push, hDd]
  rw [hCs]
  generalize hH1 : pushCells (H₂.push { cls := .type "dict", data := .dict #[] }) scope.names = H₁
  have old : ∀ b o, s₂.heap.get? b = some o → H₁.get? b = some o := fun b o e => by
    rw [← hH1]; exact pushCells_keeps _ _ _ _ (Heap.get?_push_of_some _ (hHd ▸ Heap.get?_push_of_some _ e))
  have hD₁ : H₁.get? D = some (lst []) := by
    rw [← hH1]; refine pushCells_keeps _ _ _ _ (Heap.get?_push_of_some _ ?_); rw [← hHd, ← hDd]; exact Heap.get?_push_size _ rfl
  have hC₁ : H₁.Ns (D + 1) fun _ => none := by
    rw [← hH1, ← hCs]; exact (Heap.Ns.new H₂ (.type "dict")).keeps (pushCells_keeps _ _)
  have ge := ownX_ge (env := env) (C := D + 1) hx
  have pl₁ : Placed (compEnvC scope (cellsFrom (D + 1 + 1) scope.names cl) (D + 1) env) x H₁ := by
    rcases hx with q | ⟨q, r⟩
    · exact .inl q
    · obtain ⟨c, r1, r2⟩ := r (D + 1 + 1)
      have ok := cellsFrom_ok scope.names (H₂.push { cls := .type "dict", data := .dict #[] }) (D + 1 + 1) [] ⟨fun _ _ hm => (nomatch hm), List.Pairwise.nil⟩ (by rw [Heap.size_push, hCs]; exact Nat.le_refl _)
      rw [Heap.size_push, hCs, hH1] at ok
      have e := ok.empty x c (mem_of_lookup r2)
      exact .inr ⟨q, c, r1, ⟨_, e.1⟩, Nat.ne_of_gt e.2⟩
  generalize hcl : cellsFrom (D + 1 + 1) scope.names cl = cl' at ge pl₁
  have fresh : ∀ a, D ≤ a → s₂.heap.get? a = none := fun a ha => by
    cases e : s₂.heap.get? a with
    | none => rfl
    | some o' => exact absurd (Heap.lt_size e) (Nat.not_lt.mpr (hDd ▸ ha))
  have hkE : (compEnvC scope cl' (D + 1) env).scope.kind = .function := hkind
  have hnW : ∀ b, D ≤ b → b ∉ Wm := fun b hb hm => absurd (hWl b hm) (Nat.not_lt.mpr hb)
  have hnF : ∀ b, D ≤ b → b ∉ fp := fun b hb hm => absurd (hfp b hm) (Nat.not_lt.mpr hb)
  have hIW : I ∉ Wm := fun hm => hWf I hm (W.sub I (List.mem_singleton.mpr rfl))
  have nOwn : ∀ b, b < D → b ∉ ownX (compEnvC scope cl' (D + 1) env) x := fun b hb hm => absurd (ge b hm) (by omega)
  have dOwn : D ∉ ownX (compEnvC scope cl' (D + 1) env) x := fun hm => absurd (ge D hm) (by omega)
  have cOwn : ∀ c, (compEnvC scope cl' (D + 1) env).kindOf x = some .cell → cl'.lookup x = some c → c ∈ ownX (compEnvC scope cl' (D + 1) env) x := fun c q r => by
    unfold ownX; rw [if_pos q]; exact .tail _ (by rw [show (compEnvC scope cl' (D + 1) env).cells = cl' from rfl, r]; exact .head _)
  have lOwn : (D + 1) ∈ ownX (compEnvC scope cl' (D + 1) env) x := .head _
  have hst₁ : St 0 H₁ := W.frame _ _ _ hst fun b _ o e => old b o e
  have nDI : D ∉ [I] := fun z => absurd (show I < D from hIlt) (by rw [← show D = I from List.mem_singleton.mp z]; exact Nat.lt_irrefl _)
  have nCI : (D + 1) ∉ [I] := fun z => absurd (show I < D from hIlt) (by rw [← show D + 1 = I from List.mem_singleton.mp z]; exact Nat.not_lt.mpr (Nat.le_succ _))
  have nCD : (D + 1) ∉ [D] := fun z => absurd (show D + 1 = D from List.mem_singleton.mp z) (Nat.succ_ne_self _)
  have loop : ∀ s₃ : Shared, s₃ = { s₂ with heap := H₁ } →
      codeAny (model prog w) A (.compLoop (.ListComp elt [⟨.Name x px, iter, [], 0⟩] scope pos) 0 (.ref I) (.ref D) (compEnvC scope cl' (D + 1) env)) (RR (.ref D) (D + 1)) s₃ := by
    rintro s₃ rfl
    refine codeAny_compLoop_tests
      (BlkS s₂ n St D I (compEnvC scope cl' (D + 1) env) x Wm Inv P T) ?_ (n + 1)
      ⟨H₁, _, 0, [], rfl, Nat.zero_le _, rfl, rfl, hst₁, hD₁, ⟨_, hC₁⟩, pl₁, .of old, hIs _ _ inv0 (fun b _ o e => old b o e), fun j y e => by simp at e⟩
    rintro k s' ⟨H, tk, i, ys, rfl, hi, rfl, hyl, hst', hD', hC', pl', st', inv', res'⟩
    by_cases hlt : i < n
    · refine W.item i _ _ _ hlt hst' fun v h₁ tk₁ hPv hs₁ hk₁ => ?_
      have k1 : Stays [I] H h₁ := hk₁
      have C1 : ∃ m, h₁.Ns (D + 1) m := by obtain ⟨m, hm⟩ := hC'; exact ⟨m, hm.at' fun o e => k1 _ o nCI e⟩
      have pl1 : Placed (compEnvC scope cl' (D + 1) env) x h₁ := pl'.stays k1 fun c q r hm => nOwn I hIlt (List.mem_singleton.mp hm ▸ cOwn c q r)
      refine store_E hkE pl1 C1 fun h₂ tk₂ ho2 pl2 C2 k2 => ?_
      have hs2 : St (i + 1) h₂ := W.frame _ _ _ hs₁ fun b hb o e => k2 b o (nOwn b (hfp b hb)) e
      refine wpAny_tests_nil ?_
      simp only [if_true]
      have st2 : Stays (I :: Wm) s₂.heap h₂ := fun b o q e => k2 b o (nOwn b (hDd ▸ Heap.lt_size e)) (k1 b o (fun z => q (by rw [List.mem_singleton.mp z]; exact .head _)) (st' b o q e))
      have inv2 : Inv h₂ := hIs _ _ inv' fun b hb o e => k2 b o (nOwn b (hWl b hb)) (k1 b o (fun z => hIW (List.mem_singleton.mp z ▸ hb)) e)
      refine Eff.use (helt (D + 1) i v { s₂ with heap := h₂, toks := tk₂ } cl' ⟨_, _, rfl⟩ hcl.symm ⟨hlt, by rw [hDd]; exact Nat.le_succ _⟩ hPv st2 inv2 ho2) fun y h₃ tk₃ k3 inv3 t3 => ?_
      have hD2 : h₂.get? D = some (lst ys) := k2 D _ dOwn (k1 D _ nDI hD')
      have hD3 : h₃.get? D = some (lst ys) := k3 D _ (hnW D (Nat.le_refl _)) hD2
      refine append_at (hsz := by show ys.toArray.size ≤ sizeLine; rw [List.size_toArray, hyl]; exact Nat.le_trans hi hsz) hD3 fun h₄ hs₄ hD₄ => ?_
      have k4 : Stays [D] h₃ h₄ := fun b o q e => hs₄.extBut b o (fun z => q (by rw [z]; exact .head _)) e
      have oI2 : ∃ o, h₂.get? I = some o := hIx _ _ hs2
      have oX2 : ∀ b ∈ ownX (compEnvC scope cl' (D + 1) env) x, ∃ o, h₂.get? b = some o := fun b hb => by
        rcases List.mem_cons.mp hb with e | hb
        · obtain ⟨m, o, _, _, e2, _⟩ := C2; exact ⟨o, by rw [e]; exact e2⟩
        · split at hb
          · rename_i q
            rcases pl2 with q' | ⟨_, c, q2, ⟨v0, o, q3, _⟩, _⟩
            · rw [q] at q'; cases q'
            · rw [q2] at hb; exact ⟨o, by rw [List.mem_singleton.mp hb]; exact q3⟩
          · cases hb
      refine ⟨n + 1 - (i + 1), by omega, h₄, tk₃, i + 1, ys ++ [y], rfl, hlt, rfl, by rw [List.length_append, List.length_singleton, hyl], ?_, hD₄.trans (congrArg some (lst_snoc ys y)), ?_, ?_, ?_, ?_, ?_⟩
      · refine W.frame _ _ _ hs2 fun b hb o e => k4 b o ?_ (k3 b o (fun z => hWf b z hb) e)
        intro z; exact hnF D (Nat.le_refl _) (List.mem_singleton.mp z ▸ hb)
      · obtain ⟨m, hm⟩ := C2
        exact ⟨m, hm.at' fun o e => k4 _ o nCD (k3 _ o (hnW _ (Nat.le_succ _)) e)⟩
      · exact (pl2.stays k3 fun c q r hm => hnW c (Nat.le_trans (Nat.le_succ _) (ge c (cOwn c q r))) hm).stays k4 fun c q r hm => dOwn (List.mem_singleton.mp hm ▸ cOwn c q r)
      · exact fun b o q e => k4 b o (fun z => absurd (hDd ▸ Heap.lt_size e) (by rw [List.mem_singleton.mp z]; exact Nat.lt_irrefl _)) (k3 b o (fun z => q (.tail _ z)) (st2 b o q e))
      · exact hIs _ _ inv3 fun b hb o e => k4 b o (fun z => hnW D (Nat.le_refl _) (List.mem_singleton.mp z ▸ hb)) e
      · intro j y' hj
        rcases Nat.lt_trichotomy j ys.length with h | h | h
        · rw [List.getElem?_append_left h] at hj
          obtain ⟨v', p', t'⟩ := res' j y' hj
          refine ⟨v', p', hT _ _ _ _ _ (fun a o r => ?_) t'⟩
          obtain ⟨r1, r2, r3, r4, r5, r6⟩ := r
          exact ⟨k4 a o (by simpa using r4) (k3 a o r6 (k2 a o r5 (k1 a o (by simpa using r3) r1))), r2, r3, r4, r5, r6⟩
        · subst h
          simp at hj; subst hj
          refine ⟨v, hyl ▸ hPv, ?_⟩
          rw [hyl]
          refine hT _ _ _ _ _ (fun a o r => ?_) t3
          obtain ⟨r1, r2⟩ := r
          have nI : a ≠ I := fun z => by obtain ⟨o, e⟩ := oI2; rw [z] at r2; rw [r2] at e; cases e
          have nD : a ≠ D := fun z => by rw [z] at r2; rw [r2] at hD2; cases hD2
          have nX : a ∉ ownX (compEnvC scope cl' (D + 1) env) x := fun z => by obtain ⟨o, e⟩ := oX2 a z; rw [r2] at e; cases e
          have nW : a ∉ Wm := fun z => by obtain ⟨o, e⟩ := hWx _ inv2 a z; rw [r2] at e; cases e
          refine ⟨k4 a o (by simpa using nD) r1, ?_, nI, nD, nX, nW⟩
          cases e : s₂.heap.get? a with
          | none => rfl
          | some o' =>
            have := st2 a o' (fun z => by rcases List.mem_cons.mp z with z | z; exact nI z; exact nW z) e
            rw [r2] at this; cases this
        · have hnone : (ys ++ [y])[j]? = none := List.getElem?_eq_none (by rw [List.length_append, List.length_singleton]; omega)
          rw [hnone] at hj; cases hj
    · obtain rfl : i = n := Nat.le_antisymm hi (Nat.not_lt.mp hlt)
      refine W.done _ _ _ hst' fun h₁ tk₁ hk₁ => ?_
      have k1 : Stays [I] H h₁ := hk₁
      obtain ⟨m, hm⟩ := hC'
      refine hRR D (D + 1) h₁ tk₁ m ys (fresh _ (Nat.le_refl _)) (fresh _ (Nat.le_succ _)) (Nat.ne_of_gt (Nat.lt_succ_self _)) (hm.at' fun o e => k1 _ o nCI e) (k1 _ _ nDI hD') hyl
        (fun b o q e => k1 b o (fun z => q (by rw [List.mem_singleton.mp z]; exact .head _)) (st' b o q e)) (hIs _ _ inv' fun b hb o e => k1 b o (fun z => hIW (List.mem_singleton.mp z ▸ hb)) e) ?_
      intro j y hj
      obtain ⟨v', p', t'⟩ := res' j y hj
      refine ⟨v', p', hT _ _ _ _ _ (fun a o r => ?_) t'⟩
      obtain ⟨r1, r2, r3, r4, r5, r6⟩ := r
      exact ⟨k1 a o (by simpa using r3) r1, r2, fun z => r5 (z ▸ lOwn)⟩
  exact codeAny_compStart_list (loop _ rfl) (W.self 0 _ _ _ hst₁ (loop _ rfl))
end
end

section
open PySem PySem.W PyProof.Rows PyProof.Rows.LCg
set_option maxRecDepth 100000
set_option maxHeartbeats 4000000
/-- what is handled, if anything, has no context -/
noncomputable def HOk (A : Around) (h : Heap) : Prop := ∀ v, A.handled = some v → ∃ a oe vs, v = .ref a ∧ h.get? a = some oe ∧ oe.data = .fields vs ∧ vs[2]? = some .none
noncomputable def hfp (A : Around) : List Addr := match A.handled with | some (.ref a) => [a] | _ => []
theorem HOk.none {A : Around} {h : Heap} (e : A.handled = none) : HOk A h := fun v z => by rw [e] at z; cases z
theorem HOk.keep {A : Around} {h h' : Heap} (x : HOk A h) (k : ∀ b ∈ hfp A, ∀ o, h.get? b = some o → h'.get? b = some o) : HOk A h' := fun v e => by
  obtain ⟨a, oe, vs, rfl, q, r⟩ := x v e
  exact ⟨a, oe, vs, rfl, k a (by unfold hfp; rw [e]; exact .head _) _ q, r⟩
theorem hfp_of {A : Around} {h : Heap} (x : HOk A h) : ∀ b ∈ hfp A, ∃ o, h.get? b = some o := fun b hb => by
  unfold hfp at hb
  split at hb
  · rename_i a e
    obtain ⟨a', oe, vs, z, q, _⟩ := x _ e
    cases z
    exact ⟨oe, by rw [List.mem_singleton.mp hb]; exact q⟩
  · cases hb
theorem HOk.same {A B : Around} {h : Heap} (x : HOk A h) (e : B.handled = A.handled) : HOk B h := fun v z => x v (e ▸ z)
theorem entry_unchain : entryFor table "proto.unchain" = some Builtin.«proto.unchain» := entryFor_of_tree (by kernel_rfl)
section
variable {prog : Program} {w : World} {A : Around} {E : Value → Shared → Prop} {s : Shared}
theorem raise_H {α : Type} {e : Addr} {oe : Obj} {vs : Array Value} {Q : α → Shared → Prop} (hq : HOk A s.heap) (ne : ∀ b ∈ hfp A, b ≠ e) (he : s.heap.get? e = some oe) (hd : oe.data = .fields vs) (hsz : 2 < vs.size)
    (k : ∀ h', Heap.SameBut e s.heap h' → (∃ o', h'.get? e = some o' ∧ o'.cls = oe.cls) → E (.ref e) { s with heap := h' }) : wpAny (model prog w) A (raiseNew (.ref e) : Sem α) Q E s := by
  unfold raiseNew
  refine wpAny_bind (wpAny_handled ?_)
  cases z : A.handled with
  | none => exact wpAny_bind (wpAny_pure (wpAny_throw (k _ (Heap.SameBut.refl _ _) ⟨_, he, rfl⟩)))
  | some v =>
    obtain ⟨a, oa, va, rfl, ha, hda, h2⟩ := hq v z
    have nae : a ≠ e := ne a (by unfold hfp; rw [z]; exact .head _)
    have hb : (Value.ref a != Value.ref e) = true := by simp [nae]
    simp only [hb, if_true]
    refine wpAny_bind (wpAny_holding (wpAny_runValue (codeAny_builtin entry_unchain ?_)))
    show wpAny _ _ (field (.ref a) 2 >>= _) _ _ s
    refine wpAny_bind (wpAny_field ha hda h2 ?_)
    rw [if_pos (by decide)]
    refine wpAny_bind (wpAny_pure (wpAny_pure ?_))
    show wpAny _ _ (setField (.ref e) 2 (.ref a) >>= fun _ => throw (.ref e)) _ _ s
    refine wpAny_bind (wpAny_setField he hd hsz (wpAny_throw (k _ (Heap.SameBut.update ..) ⟨_, Heap.get?_update_self _ he (Obj.isFreed_of_fields (Obj.data_mapFields hd _)), Obj.cls_mapFields _ _⟩)))
theorem list_endH {it l : Addr} {i : Nat} {items} {Q : Option Value → Shared → Prop} (hq : HOk A s.heap) (ne : ∀ b ∈ hfp A, b ≠ it)
    (hit : s.heap.IsListIter it l i) (hl : s.heap.IsList l items) (hx : items[i]? = none)
    (hQ : ∀ h', Heap.ExtBut it s.heap h' → Q none { s with heap := h' }) : wpAny (model prog w) A (pyNext (.ref it)) Q E s := by
  obtain ⟨o, ho, hc, hd⟩ := id hit
  obtain ⟨ol, hol, _, nl, hdl⟩ := hl
  unfold pyNext
  refine wpAny_bind (wpAny_attempt (wpAny_callSpecial?_slot (name := Str.ofString "__next__") hit.typeIs slot_listiter_next
    (wpAny_call_entry slot_listiter_next hit.typeIs entry_listiter_next ?_ (args_listiter_next _))))
  show wpAny _ _ (field (.ref it) 0 >>= _) _ _ s
  refine wpAny_bind (wpAny_field ho hd (x := .ref l) rfl ?_)
  show wpAny _ _ (if (Value.ref l == Value.none) = true then _ else _) _ _ s
  rw [if_neg (show ¬ ((Value.ref l == Value.none) = true) from Bool.false_ne_true)]
  show wpAny _ _ (field (.ref it) 1 >>= _) _ _ s
  refine wpAny_bind (wpAny_field ho hd (x := .int i 0) rfl ?_)
  show wpAny _ _ (seqItems? (.ref l) >>= _) _ _ s
  refine wpAny_bind (wpAny_seqItems hol hdl ?_)
  simp only [Int.toNat_natCast, hx]
  refine wpAny_bind (wpAny_rule (wpAny_bind (wpAny_setField ho hd (by simp) ?_)))
  have st : Heap.SameBut it s.heap (s.heap.update it (Obj.mapFields (·.setIfInBounds 0 Value.none))) := Heap.SameBut.update ..
  generalize s.heap.update it (Obj.mapFields (·.setIfInBounds 0 Value.none)) = h₁ at st
  show wpAny _ _ (newExc (.type "StopIteration") [] >>= _) _ _ _
  refine wpAny_bind ?_
  simp only [newExc, newTuple]
  refine wpAny_bind (wpAny_newObj_type ?_ (by size_fits))
  refine wpAny_bind (m := firstArgMember _ _) (wpAny_of_eq (a := Value.none) (by first | rfl | (simp only [firstArgMember]; rfl)) ?_)
  refine wpAny_newObj_type ?_ (by size_fits)
  generalize hS : (h₁.push { cls := .type "tuple", dict := none, data := .seq ([] : List Value).toArray }) = h₂
  have e1 : Heap.ExtBut it s.heap h₂ := hS ▸ st.extBut.push _
  have e2 : Heap.ExtBut it s.heap (h₂.push { cls := .type "StopIteration", dict := none, data := .fields (#[Value.ref h₁.objs.size, .none, .none, .none, .bool false, .none] ++ ownMembersOf (.type "StopIteration") []) }) := e1.push _
  refine raise_H (A := A.in1) ?_ ?_ (Heap.get?_push_size _ rfl) rfl (by show (2 : Nat) < 6; omega) fun h' hs ho' => ?_
  · exact hq.keep fun b hb o e => e2 b o (ne b hb) e
  · exact fun b hb z => by obtain ⟨o, e⟩ := hfp_of hq b hb; exact absurd (Heap.lt_size (e1 b o (ne b hb) e)) (by rw [z]; exact Nat.lt_irrefl _)
  · refine wpAny_bind (wpAny_isInstance (T := "StopIteration") (b := true) ho' isSubtype_stop ?_)
    exact wpAny_pure (hQ _ fun b o hb e => hs.extBut b o (fun z => absurd (Heap.lt_size (e1 b o hb e)) (by rw [z]; exact Nat.lt_irrefl _)) (e2 b o hb e))
theorem range_endH {it : Addr} {x left step : Int} {Q : Option Value → Shared → Prop} (hq : HOk A s.heap) (ne : ∀ b ∈ hfp A, b ≠ it) (hit : IsRangeIter s.heap it x left step) (hleft : left ≤ 0)
    (hQ : ∀ h', Heap.ExtBut it s.heap h' → Q none { s with heap := h' }) : wpAny (model prog w) A (pyNext (.ref it)) Q E s := by
  have hT : s.TypeIs (.ref it) "range_iterator" := ⟨_, hit, rfl⟩
  unfold pyNext
  refine wpAny_bind (wpAny_attempt (wpAny_callSpecial?_slot (name := Str.ofString "__next__") hT PySem.F.slot_range_iterator_next
    (wpAny_call_entry PySem.F.slot_range_iterator_next hT PySem.F.entry_range_iterator_next ?_ (PySem.F.args_range_iterator_next_1 _))))
  show wpAny _ _ (field (.ref it) 0 >>= _) _ _ s
  refine wpAny_bind (wpAny_field hit rfl (x := rawInt x) rfl ?_)
  show wpAny _ _ (field (.ref it) 1 >>= _) _ _ s
  refine wpAny_bind (wpAny_field hit rfl (x := rawInt left) rfl ?_)
  show wpAny _ _ (field (.ref it) 2 >>= _) _ _ s
  refine wpAny_bind (wpAny_field hit rfl (x := rawInt step) rfl ?_)
  show wpAny _ _ (if left ≤ 0 then _ else _) _ _ s
  rw [if_pos hleft]
  refine wpAny_bind (wpAny_rule ?_)
  refine wpAny_bind ?_
  show wpAny _ _ (newExc (.type "StopIteration") [] >>= _) _ _ _
  refine wpAny_bind ?_
  simp only [newExc, newTuple]
  refine wpAny_bind (wpAny_newObj_type ?_ (by size_fits))
  refine wpAny_bind (m := firstArgMember _ _) (wpAny_of_eq (a := Value.none) (by first | rfl | (simp only [firstArgMember]; rfl)) ?_)
  refine wpAny_newObj_type ?_ (by size_fits)
  have e1 : Heap.ExtBut it s.heap (s.heap.push { cls := .type "tuple", dict := none, data := .seq ([] : List Value).toArray }) := (Heap.ExtBut.refl it s.heap).push _
  refine raise_H (A := A.in1) ?_ ?_ (Heap.get?_push_size _ rfl) rfl (by show (2 : Nat) < 6; omega) fun h' hs ho' => ?_
  · exact hq.keep fun b hb o e => (e1.push _) b o (ne b hb) e
  · exact fun b hb z => by obtain ⟨o, e⟩ := hfp_of hq b hb; exact absurd (Heap.lt_size (e1 b o (ne b hb) e)) (by rw [z]; exact Nat.lt_irrefl _)
  · refine wpAny_bind (wpAny_isInstance (T := "StopIteration") (b := true) ho' isSubtype_stop ?_)
    exact wpAny_pure (hQ _ fun b o hb e => hs.extBut b o (fun z => absurd (Heap.lt_size (e1 b o hb e)) (by rw [z]; exact Nat.lt_irrefl _)) ((e1.push _) b o hb e))
/-- a list walked while something may be handled -/
theorem walks_listH {h : Heap} (hq : HOk A h) (I ax : Addr) (hne : ax ≠ I) (nI : ∀ b ∈ hfp A, b ≠ I) (items : Array Value) :
    Walks prog w A I (I :: ax :: hfp A) [I] items.size (fun i v => items[i]? = some v) (fun i h => (h.IsListIter I ax i ∧ h.IsList ax items) ∧ HOk A h) where
  sub := fun b hb => by simp at hb; simp [hb]
  frame := fun _ _ _ st hk => ⟨⟨st.1.1.at fun o e => hk I (by simp) o e, st.1.2.at fun o e => hk ax (by simp) o e⟩, st.2.keep fun b hb o e => hk b (.tail _ (.tail _ hb)) o e⟩
  item := fun i s Q E hi st hQ => by
    refine wpAny_pyNext_list_item st.1.1 st.1.2 (x := items[i]) (by simp [hi]) fun h' hit' hs' => ?_
    exact hQ _ h' s.toks (by simp [hi]) ⟨⟨hit', st.1.2.extBut hs'.extBut hne⟩, st.2.keep fun b hb o e => hs'.extBut b o (nI b hb) e⟩ fun b o hb e => hs'.extBut b o (fun h => hb (by simp [h])) e
  done := fun s Q E st hQ => list_endH st.2 nI st.1.1 st.1.2 (by simp) fun h' he' => hQ h' s.toks fun b o hb e => he' b o (fun h => hb (by simp [h])) e
  self := fun _ _ _ _ st hQ => wpAny_pyIter_listiter st.1.1 hQ
theorem walks_rangeH {h : Heap} (hq : HOk A h) (I : Addr) (nI : ∀ b ∈ hfp A, b ≠ I) (a : Int) (n : Nat) :
    Walks prog w A I (I :: hfp A) [I] n (fun i v => ∃ t, v = .int (a + (i : Int)) t) (fun i h => IsRangeIter h I (a + (i : Nat) * 1) ((n : Int) - (i : Nat)) 1 ∧ HOk A h) where
  sub := fun b hb => by simp at hb; simp [hb]
  frame := fun _ _ _ st hk => ⟨hk I (by simp) _ st.1, st.2.keep fun b hb o e => hk b (.tail _ hb) o e⟩
  item := fun i s Q E hi st hQ => by
    refine wpAny_pyNext_range_item st.1 (by omega) fun h' hit' hs' => ?_
    refine hQ _ h' _ ⟨_, by rw [Int.mul_one]⟩ ⟨?_, st.2.keep fun b hb o e => hs'.extBut b o (nI b hb) e⟩ fun b o hb e => hs'.extBut b o (fun h => hb (by simp [h])) e
    have e1 : a + ((i + 1 : Nat) : Int) * 1 = a + (i : Int) * 1 + 1 := by omega
    have e2 : (n : Int) - ((i + 1 : Nat) : Int) = (n : Int) - (i : Int) - 1 := by omega
    rw [e1, e2]; exact hit'
  done := fun s Q E st hQ => range_endH st.2 nI st.1 (by omega) fun h' he' => hQ h' s.toks fun b o hb e => he' b o (fun h => hb (by simp [h])) e
  self := fun _ _ _ _ st hQ => wpAny_pyIter_rangeiter st.1 hQ
end
theorem hfp_none {A : Around} {Wm : List Addr} (e : A.handled = none) : ∀ b ∈ hfp A, b ∉ Wm := fun b hb => by unfold hfp at hb; rw [e] at hb; cases hb
end

section
open PySem PySem.W PyProof.Rows PyProof.Rows.LCg
set_option maxRecDepth 100000
set_option maxHeartbeats 4000000
section
variable {prog : Program} {w : World} {A : Around} {env : Env}

/-- what the block was handed: a list, or a range -/
inductive Src (s₁ : Shared) : Value → Nat → (Nat → Value → Prop) → Prop
  | list {ax : Addr} {its : Array Value} : s₁.heap.IsList ax its → its.size ≤ sizeLine → Src s₁ (.ref ax) its.size (fun i v => its[i]? = some v)
  | range {r : Addr} {a b : Int} {t u v : Tok} {n : Nat} : IsRange s₁.heap r a b 1 t u v → Builtin.Range.small a b 1 = true → Builtin.Range.rangeSize a b 1 = ((n : Nat) : Int) → n ≤ sizeLine → Src s₁ (.ref r) n (fun i v => ∃ t, v = .int (a + (i : Int)) t)

/-- the block's yield: the list D, and of each item what T says -/
structure Yield (h h' : Heap) (Wm : List Addr) (n : Nat) (P : Nat → Value → Prop) (T : Nat → Value → (Addr → Obj → Prop) → Value → Prop) (Inv : Heap → Prop) (D : Addr) (ys : List Value) : Prop where
  at_ : h'.get? D = some (lst ys)
  new : h.get? D = none
  len : ys.length = n
  stays : Stays Wm h h'
  inv : Inv h'
  res : ∀ i y, ys[i]? = some y → ∃ v, P i v ∧ T i v (NewO h h') y

noncomputable def Turns (prog : Program) (w : World) (A : Around) (env : Env) (scope : Scope) (cl : List (Str × Addr)) (elt : Expr) (x : Str) (s₁ : Shared) (Wm : List Addr) (Inv : Heap → Prop) (n : Nat) (P : Nat → Value → Prop) (T : Nat → Value → (Addr → Obj → Prop) → Value → Prop) : Prop :=
  ∀ C i v (s : Shared) cl', (∃ h tk, s = { s₁ with heap := h, toks := tk }) → cl' = cellsFrom (C + 1) scope.names cl → i < n ∧ s₁.heap.objs.size ≤ C → P i v → Stays Wm s₁.heap s.heap → Inv s.heap → Holds (compEnvC scope cl' C env) x v s.heap →
    Eff (model prog w) A (eval elt (compEnvC scope cl' C env)) s Wm Inv (T i v)

theorem comp_core {elt iter : Expr} {x : Str} {px : Pos} {scope : Scope} {cl : List (Str × Addr)} {pos : Pos} {s₁ : Shared} {Wm : List Addr} {Inv : Heap → Prop} {n : Nat} {P : Nat → Value → Prop} {T : Nat → Value → (Addr → Obj → Prop) → Value → Prop}
    {E : Value → Shared → Prop} {RR : Value → Addr → Result → Shared → Prop} {xv : Value} (hq : HOk A s₁.heap) (hqW : ∀ b ∈ hfp A, b ∉ Wm) (hkind : scope.kind = .function)
    (hx : (relabel scope env).names.lookup x = some .local ∨ ((relabel scope env).names.lookup x = some .cell ∧ ∀ k, ∃ c, (cellsFrom k scope.names cl).lookup x = some c ∧ (cellsFrom k scope.names []).lookup x = some c))
    (src : Src s₁ xv n P) (hax : ∀ a, xv = .ref a → a ∉ Wm) (hWl : ∀ b ∈ Wm, b < s₁.heap.objs.size)
    (hIs : ∀ h h', Inv h → (∀ b ∈ Wm, ∀ o, h.get? b = some o → h'.get? b = some o) → Inv h') (inv0 : Inv s₁.heap) (hWx : ∀ h, Inv h → ∀ b ∈ Wm, ∃ o, h.get? b = some o)
    (hT : ∀ i v y (O O' : Addr → Obj → Prop), (∀ a o, O a o → O' a o) → T i v O y → T i v O' y)
    (turns : Turns prog w A env scope cl elt x s₁ Wm Inv n P T)
    (hRR : ∀ D C h tk m' ys, h.Ns C m' → s₁.heap.get? C = none → C ≠ D → h.get? D = some (lst ys) → s₁.heap.get? D = none → ys.length = n → Stays Wm s₁.heap h → Inv h → (∀ i y, ys[i]? = some y → ∃ v, P i v ∧ T i v (fun a o => NewO s₁.heap h a o ∧ a ≠ C) y) →
      RR (.ref D) C (.ok .next) { s₁ with heap := h, toks := tk }) :
    wpAny (model prog w) A (pyIter xv) (fun it s₂ => wpAny (model prog w) A (newList []) (fun acc s₃ => wpAny (model prog w) A (newFunctionEnv scope env.globals cl [] env.qual none .none (some env)) (fun cenv s₄ =>
      codeAny (model prog w) A (.compStart (.ListComp elt [⟨.Name x px, iter, [], 0⟩] scope pos) 0 it acc { cenv with scope := relabel scope env }) (RR acc cenv.locals) s₄) E s₃) E s₂) E s₁ := by
  have up : ∀ (o : Obj) b o', s₁.heap.get? b = some o' → (s₁.heap.push o).get? b = some o' := fun o b o' e => Heap.get?_push_of_some _ e
  have fin : ∀ (oI : Obj) D C h tk m' ys, (s₁.heap.push oI).get? D = none → (s₁.heap.push oI).get? C = none → C ≠ D → h.Ns C m' → h.get? D = some (lst ys) → ys.length = n → Stays (s₁.heap.objs.size :: Wm) (s₁.heap.push oI) h → Inv h →
      (∀ i y, ys[i]? = some y → ∃ v, P i v ∧ T i v (fun a o => h.get? a = some o ∧ (s₁.heap.push oI).get? a = none ∧ a ≠ C) y) → RR (.ref D) C (.ok .next) { s₁ with heap := h, toks := tk } := by
    intro oI D C h tk m' ys hD hC hCD hn hl hlen hst hinv hres
    have no : ∀ a, (s₁.heap.push oI).get? a = none → s₁.heap.get? a = none := fun a e => by
      cases q : s₁.heap.get? a with
      | none => rfl
      | some o => rw [up _ _ _ q] at e; cases e
    refine hRR D C h tk m' ys hn (no _ hC) hCD hl (no _ hD) hlen (fun b o q e => hst b o (fun z => ?_) (up _ _ _ e)) hinv fun i y hy => ?_
    · rcases List.mem_cons.mp z with z | z
      · exact absurd (Heap.lt_size e) (by rw [z]; exact Nat.lt_irrefl _)
      · exact q z
    · obtain ⟨v, a, b⟩ := hres i y hy
      exact ⟨v, a, hT _ _ _ _ _ (fun a o r => ⟨⟨r.1, no _ r.2.1⟩, r.2.2⟩) b⟩
  have trn : ∀ oI : Obj, ∀ C i v (s : Shared) cl', (∃ h tk, s = { s₁ with heap := h, toks := tk }) → cl' = cellsFrom (C + 1) scope.names cl → i < n ∧ (s₁.heap.push oI).objs.size ≤ C → P i v → Stays (s₁.heap.objs.size :: Wm) (s₁.heap.push oI) s.heap → Inv s.heap → Holds (compEnvC scope cl' C env) x v s.heap →
      Eff (model prog w) A (eval elt (compEnvC scope cl' C env)) s Wm Inv (T i v) := by
    rintro oI C i v s cl' a b c d e f g
    refine turns C i v s cl' a b ⟨c.1, Nat.le_trans (by rw [Heap.size_push]; exact Nat.le_succ _) c.2⟩ d (fun b o q e' => e b o (fun z => ?_) (up _ _ _ e')) f g
    rcases List.mem_cons.mp z with z | z
    · exact absurd (Heap.lt_size e') (by rw [z]; exact Nat.lt_irrefl _)
    · exact q z
  have ltW : ∀ (oI : Obj), ∀ b ∈ Wm, b < (s₁.heap.push oI).objs.size := fun oI b hb => by rw [Heap.size_push]; exact Nat.lt_succ_of_lt (hWl b hb)
  have ltH : ∀ b ∈ hfp A, b < s₁.heap.objs.size := fun b hb => by obtain ⟨o, e⟩ := hfp_of hq b hb; exact Heap.lt_size e
  have neH : ∀ b ∈ hfp A, b ≠ s₁.heap.objs.size := fun b hb => Nat.ne_of_lt (ltH b hb)
  cases src with
  | list hl hsz =>
    rename_i ax its
    have hlt : ax < s₁.heap.objs.size := by obtain ⟨_, e, _⟩ := hl; exact Heap.lt_size e
    refine wpAny_pyIter_list hl ?_
    refine block_E (s₂ := { s₁ with heap := s₁.heap.push { cls := .type "list_iterator", data := .fields #[.ref ax, .int 0 0] } }) (walks_listH hq s₁.heap.objs.size ax (Nat.ne_of_lt hlt) neH its) hsz hkind hx ⟨⟨⟨_, Heap.get?_push_size _ rfl, rfl, rfl⟩, hl.push _⟩, hq.keep fun b _ o e => up _ _ _ e⟩ (fun b hb => ?_) (ltW _) (fun b hb hm => ?_)
      (fun i h st => by obtain ⟨o, e, _⟩ := st.1.1; exact ⟨o, e⟩) hIs (hIs _ _ inv0 fun b _ o e => up _ _ _ e) hWx hT (trn _) (fun D C h tk m' ys a b c d e f g i j => fin _ D C h tk m' ys a b c d e f g i j)
    · show b < (s₁.heap.push _).objs.size
      rw [Heap.size_push]
      rcases List.mem_cons.mp hb with rfl | hb
      · exact Nat.lt_succ_self _
      · rcases List.mem_cons.mp hb with rfl | hb
        · exact Nat.lt_succ_of_lt hlt
        · exact Nat.lt_succ_of_lt (ltH b hb)
    · rcases List.mem_cons.mp hm with rfl | hm
      · exact absurd (hWl _ hb) (Nat.lt_irrefl _)
      · rcases List.mem_cons.mp hm with rfl | hm
        · exact hax _ rfl hb
        · exact hqW b hm hb
  | range hr hsm hn hsz =>
    rename_i r a b t u v
    refine wpAny_pyIter_range hr hsm ?_
    refine block_E (s₂ := { s₁ with heap := s₁.heap.push _ }) (walks_rangeH hq _ neH a n) hsz hkind hx ⟨by show IsRangeIter _ _ _ _ _; rw [hn]; simpa using Heap.get?_push_size _ rfl, hq.keep fun b _ o e => up _ _ _ e⟩ (fun b hb => ?_) (ltW _) (fun b hb hm => ?_)
      (fun i h st => ⟨_, st.1⟩) hIs (hIs _ _ inv0 fun b _ o e => up _ _ _ e) hWx hT (trn _) (fun D C h tk m' ys a b c d e f g i j => fin _ D C h tk m' ys a b c d e f g i j)
    · show b < (s₁.heap.push _).objs.size
      rw [Heap.size_push]
      rcases List.mem_cons.mp hb with rfl | hb
      · exact Nat.lt_succ_self _
      · exact Nat.lt_succ_of_lt (ltH b hb)
    · rcases List.mem_cons.mp hm with rfl | hm
      · exact absurd (hWl _ hb) (Nat.lt_irrefl _)
      · exact hqW b hm hb

/-- a list comprehension of one clause without a test -/
theorem comp_eval {elt iter : Expr} {x : Str} {px : Pos} {scope : Scope} {cl : List (Str × Addr)} {pos : Pos} {s : Shared} {Wm : List Addr} {Inv : Heap → Prop} {T : Nat → Value → (Addr → Obj → Prop) → Value → Prop}
    {Q E : Value → Shared → Prop} (hqW : ∀ b ∈ hfp A, b ∉ Wm) (hclos : closureFor scope env = pure cl) (hkind : scope.kind = .function)
    (hnames : ∀ y ∈ scope.names, y.2 = .local → scope.names.lookup y.1 = some .local)
    (hx : (relabel scope env).names.lookup x = some .local ∨ ((relabel scope env).names.lookup x = some .cell ∧ ∀ k, ∃ c, (cellsFrom k scope.names cl).lookup x = some c ∧ (cellsFrom k scope.names []).lookup x = some c))
    (hIs : ∀ h h', Inv h → (∀ b ∈ Wm, ∀ o, h.get? b = some o → h'.get? b = some o) → Inv h') (hWx : ∀ h, Inv h → ∀ b ∈ Wm, ∃ o, h.get? b = some o)
    (hT : ∀ i v y (O O' : Addr → Obj → Prop), (∀ a o, O a o → O' a o) → T i v O y → T i v O' y)
    (h : wpAny (model prog w) A (eval iter env) (fun xv s₁ => ∃ n P, Src s₁ xv n P ∧ HOk A s₁.heap ∧ (∀ a, xv = .ref a → a ∉ Wm) ∧ Inv s₁.heap ∧ Turns prog w A env scope cl elt x s₁ Wm Inv n P T ∧
      ∀ D h' tk' ys, Yield s₁.heap h' Wm n P T Inv D ys → Q (.ref D) { s₁ with heap := h', toks := tk' }) E s)
    (hs : ∀ x, foldedSetIterable iter env x = pure x := by intro _; rfl) :
    wpAny (model prog w) A (eval (.ListComp elt [⟨.Name x px, iter, [], 0⟩] scope pos) env) Q E s := by
  rw [eval_ListComp]
  refine wpAny_comprehension_free (use := none) rfl hs hclos hkind hnames (wpAny_mono h (fun xv s₁ h₁ => ?_) fun _ _ e => e)
  obtain ⟨n, P, src, hq, hax, inv0, turns, q⟩ := h₁
  have hWl : ∀ b ∈ Wm, b < s₁.heap.objs.size := fun b hb => by obtain ⟨o, e⟩ := hWx _ inv0 b hb; exact Heap.lt_size e
  refine comp_core (RR := fun acc C => compPost (model prog w) A E none Q acc C) hq hqW hkind hx src hax hWl hIs inv0 hWx hT turns ?_
  intro D C h tk m' ys hn hC hCD hl hD hlen hst hinv hres
  refine ⟨m', hn, fun h'' hs'' => q D h'' tk ys ⟨hs''.extBut _ _ (Ne.symm hCD) hl, hD, hlen, fun b o n e => hs''.extBut b o (fun z => by rw [z, hC] at e; cases e) (hst b o n e), ?_, fun i y hy => ?_⟩⟩
  · refine hIs _ _ hinv fun b hb o e => hs''.extBut b o (fun z => ?_) e
    obtain ⟨o', e'⟩ := hWx _ inv0 b hb
    rw [z, hC] at e'; cases e'
  · obtain ⟨v, a, b⟩ := hres i y hy
    exact ⟨v, a, hT _ _ _ _ _ (fun a o r => ⟨hs''.extBut a o r.2 r.1.1, r.1.2⟩) b⟩

end
end

section
open PySem PySem.W PyProof.Rows PyProof.Rows.LCg PySem.Calls
set_option maxRecDepth 100000
set_option maxHeartbeats 4000000

/-- how a body ends: its own frame stands, Inv holds, the value's objects are new -/
inductive BodyEnd (g : Heap) (L' : Addr) (s : Shared) (W : List Addr) (Inv : Heap → Prop) (Post : (Addr → Obj → Prop) → Value → Prop) (v : Value) (s' : Shared) : Prop
  | mk : ∀ h' tk' m', s' = { s with heap := h', toks := tk' } → Fr g L' h' m' → Inv h' → Post (fun a o => h'.get? a = some o ∧ g.get? a = none ∧ a ∉ W ∧ a ≠ L') v → BodyEnd g L' s W Inv Post v s'
theorem BodyEnd.intro {g : Heap} {L' : Addr} {s : Shared} {W : List Addr} {Inv : Heap → Prop} {Post : (Addr → Obj → Prop) → Value → Prop} {v : Value} {h' : Heap} {tk' : Nat} {m' : Str → Option Value} (F : Fr g L' h' m') (i : Inv h')
    (p : Post (fun a o => h'.get? a = some o ∧ g.get? a = none ∧ a ∉ W ∧ a ≠ L') v) : BodyEnd g L' s W Inv Post v { s with heap := h', toks := tk' } := ⟨h', tk', m', rfl, F, i, p⟩

section
variable {prog : Program} {w : World} {A₀ A : Around} {s : Shared} {K : Frag} {L : Addr} {h₀ base : Heap} {m mg mb : Str → Option Value} {p : Program} {loose : List Str} {mean : ExcName → Option Value} {env : Env} {outer : List Env}
  {name qual : Str} {params : Arguments} {body : List Stmt} {scope : Scope} {dV kV doc pm cdv ct oc : Value} {an od : Option Addr} {osl : Array (Option Value)} {f : Addr} {vals : List Value} {binds : List (Str × Value)}
  {Wn : List (Addr × Obj)} {Inv : Heap → Prop} {Post : (Addr → Obj → Prop) → Value → Prop}

theorem call_E (B : Below A₀ base outer h₀) (F : Fr h₀ L s.heap m) (X : K.In h₀) (T : Top p loose mean mg mb h₀) (hA : A.frames = some (env :: outer)) (hf : env.frame = some L) (hke : env.scope.kind = .function)
    (N : News h₀ L s.heap Wn) (ho : K.lookup f = some ⟨oc, od, .func (fnOf name qual params body scope dV kV doc pm an cdv ct), osl⟩) (hcd : codeIn K cdv qual = true) (hroom : A.depth < recursionLimit)
    (hbind : BindsTo s (fnOf name qual params body scope dV kV doc pm an cdv ct) ⟨vals, []⟩ binds) (hloc : ∀ y ∈ binds, scope.names.lookup y.1 = some .local)
    (hmono : ∀ (O O' : Addr → Obj → Prop) v, (∀ a o, O a o → O' a o) → Post O v → Post O' v)
    (h : ∀ g L' h₁, Fr g L' h₁ (fun y => binds.reverse.lookup y) → News g L' h₁ Wn → Below A base (env :: outer) g → K.In g → Top p loose mean mg mb g → GSub s.heap g (Wn.map (·.1)) →
      wpAny (model prog w) (A.deeper (envOf qual scope L' f cdv)) (execs body (envOf qual scope L' f cdv))
        (fun fl s' => BodyEnd g L' s (Wn.map (·.1)) Inv Post (match fl with | .ret v => v | _ => .none) s') (fun _ _ => False) { s with heap := h₁, toks := s.toks + binds.length })
    (hco : scope.isCoroutine = false) (hgen : scope.isGenerator = false) (hk : scope.kind = .function) (hcell : ∀ x ∈ scope.names, x.2 ≠ .cell) :
    Eff (model prog w) A (call (.ref f) vals) s (Wn.map (·.1)) Inv Post := by
  unfold Eff
  refine wpAny_call (code_defG B F X N T hA hf hke ho hcd hroom hbind hloc (fun g L' h₁ FG F' N' B' X' T' G => ?_) hco hgen hk hcell)
  refine wpAny_mono (h g L' h₁ F' N' B' X' T' G) (fun fl s' hb => ?_) fun _ _ e => e.elim
  obtain ⟨h', tk', m', rfl, F'', i, po⟩ := hb
  refine ⟨L', m', [], F'', News.nil, fun _ _ => ⟨h', tk', rfl, fun b o n e => F''.keep b o (G b o e n), i, hmono _ _ _ (fun a o r => ⟨r.1, ?_⟩) po⟩⟩
  cases q : s.heap.get? a with
  | none => rfl
  | some o' => have := G a o' q r.2.2.1; rw [r.2.1] at this; cases this

theorem call_EC (B : Below A₀ base outer h₀) (F : Fr h₀ L s.heap m) (X : K.In h₀) (T : Top p loose mean mg mb h₀) (hA : A.frames = some (env :: outer)) (hf : env.frame = some L) (hke : env.scope.kind = .function)
    (N : News h₀ L s.heap Wn) (ho : K.lookup f = some ⟨oc, od, .func (fnOf name qual params body scope dV kV doc pm an cdv ct), osl⟩) (hcd : codeIn K cdv qual = true) (hroom : A.depth < recursionLimit)
    (hbind : BindsTo s (fnOf name qual params body scope dV kV doc pm an cdv ct) ⟨vals, []⟩ binds) (hkind : (binds.all fun y => scope.names.lookup y.1 == some .local || scope.names.lookup y.1 == some .cell) = true)
    (hnd : ((cellsFrom 0 scope.names []).map (·.1)).Nodup)
    (hmono : ∀ (O O' : Addr → Obj → Prop) v, (∀ a o, O a o → O' a o) → Post O v → Post O' v)
    (h : ∀ g L' h₁ tk cells, Fr g L' h₁ (bindL (envOfC qual scope L' f cdv).kindOf binds fun _ => none) → News g L' h₁ (cells ++ Wn) → CellsAre (bindC (envOfC qual scope L' f cdv).kindOf binds fun _ => none) (cellsFrom (L' + 1) scope.names []) cells →
      (∀ q ∈ Wn, q.1 < L') → Below A base (env :: outer) g → K.In g → Top p loose mean mg mb g → GSub s.heap g (Wn.map (·.1)) →
      wpAny (model prog w) (A.deeper (envOfC qual scope L' f cdv)) (execs body (envOfC qual scope L' f cdv))
        (fun fl s' => BodyEnd g L' s (Wn.map (·.1)) Inv Post (match fl with | .ret v => v | _ => .none) s') (fun _ _ => False) { s with heap := h₁, toks := tk })
    (hco : scope.isCoroutine = false) (hgen : scope.isGenerator = false) (hk : scope.kind = .function) :
    Eff (model prog w) A (call (.ref f) vals) s (Wn.map (·.1)) Inv Post := by
  unfold Eff
  refine wpAny_call ?_
  obtain ⟨FG, BG, st, -⟩ := groundX (R := fun _ _ => True) B F N hA hf hke
  refine codeAny_call_function hroom ((X.keeps F.keep) _ _ ho) rfl hco hgen rfl (codeRec_of (X.keeps F.keep) hcd) (hbind _ _ _ _ ?_)
  refine wpAny_newFunctionEnv_cells hk (kindsX hkind _) fun env' he s' x => ?_
  subst he
  refine ⟨(T.nolimit.keeps F.keep).keeps x.toInCall.keep, codeAny_func ?_⟩
  obtain ⟨h₁, tk, rfl, _⟩ := x.done
  have hk₁ := x.toInCall.keep
  obtain ⟨cells, NC, Y⟩ := Cl.news (h₀ := s.heap) (Nat.le_refl _) fun n c hm => ⟨x.cell n c (lookup_of_mem_nodup (cellsFrom_names scope.names 0 (s.heap.objs.size + 1) [] [] rfl ▸ hnd) hm), x.above n c hm⟩
  have G : GSub s.heap (hideAll s.heap (Wn.map (·.1))) (Wn.map (·.1)) := fun b o e n => hideAll_get _ e n
  refine wpAny_mono (h _ s.heap.objs.size h₁ tk cells ⟨x.toInCall.ns, fun b o e => hk₁ b o (of_hideAll _ e), Nat.le_of_eq (hideAll_size _ _)⟩ (fun q hq => ?_) Y (fun q hq => Heap.lt_size (N q hq).1) BG (X.keeps st) (T.keeps st) G) (fun fl s' hb => ?_) fun _ _ e => e.elim
  · rcases List.mem_append.mp hq with hq | hq
    · refine ⟨(NC q hq).1, (NC q hq).2.1, ?_⟩
      cases z : (hideAll s.heap (Wn.map (·.1))).get? q.1 with
      | none => rfl
      | some o => have := of_hideAll _ z; rw [(NC q hq).2.2] at this; cases this
    · exact ⟨hk₁ _ _ (N q hq).1, Nat.ne_of_lt (Heap.lt_size (N q hq).1), hideAll_none _ (List.mem_map_of_mem hq)⟩
  · obtain ⟨h', tk', m', rfl, F'', i, po⟩ := hb
    refine ⟨h', tk', rfl, fun b o n e => F''.keep b o (G b o e n), i, hmono _ _ _ (fun a o r => ⟨r.1, ?_⟩) po⟩
    cases q : s.heap.get? a with
    | none => rfl
    | some o' => have := G a o' q r.2.2.1; rw [r.2.1] at this; cases this
end
end

section
open PySem PySem.W PyProof.Rows PyProof.Rows.LCg PySem.Calls
set_option maxRecDepth 100000
set_option maxHeartbeats 4000000

noncomputable abbrev Look := Addr → Obj → Prop
/-- what the frame's ground and the ledger's part show -/
noncomputable def Sees (g : Heap) (l : List (Addr × Obj)) : Look := fun a o => g.get? a = some o ∨ (a, o) ∈ l
noncomputable def IV (O : Look) (v : Value) (x : Int) : Prop := ∃ t, v = .int x t
inductive LL {α : Type} (P : Look → Value → α → Prop) (O : Look) (v : Value) (xs : List α) : Prop
  | mk : ∀ (a : Addr) (vs : List Value) (n : Nat), v = .ref a → O a (listOf vs.toArray n) → vs.length = xs.length → (∀ (i : Nat) v x, vs[i]? = some v → xs[i]? = some x → P O v x) → LL P O v xs
noncomputable abbrev Mono {α : Type} (P : Look → Value → α → Prop) : Prop := ∀ (O O' : Look) v x, (∀ a o, O a o → O' a o) → P O v x → P O' v x
theorem IV.mono : Mono IV := fun _ _ _ _ _ h => h
theorem LL.mono {α : Type} {P : Look → Value → α → Prop} (hP : Mono P) : Mono (LL P) := by
  rintro O O' v xs k ⟨a, vs, n, rfl, h1, h2, h3⟩
  exact ⟨a, vs, n, rfl, k _ _ h1, h2, fun i v x e1 e2 => hP _ _ _ _ k (h3 i v x e1 e2)⟩
noncomputable abbrev IL := LL IV
noncomputable abbrev RW := LL IL
noncomputable abbrev PRS := LL RW
theorem IL.mono : Mono IL := LL.mono IV.mono
theorem RW.mono : Mono RW := LL.mono IL.mono
theorem PRS.mono : Mono PRS := LL.mono RW.mono

theorem ints_of : ∀ {vs : List Value} {xs : List Int} {O : Look}, vs.length = xs.length → (∀ (i : Nat) v x, vs[i]? = some v → xs[i]? = some x → IV O v x) → IntsAre vs xs
  | [], [], _, _, _ => .nil
  | v :: vs, x :: xs, O, h, k => by
    obtain ⟨t, e⟩ := k 0 v x rfl rfl
    subst e
    exact .cons x t (ints_of (O := O) (by simpa using h) fun i v' x' e1 e2 => k (i + 1) v' x' (by simpa using e1) (by simpa using e2))
  | [], _ :: _, _, h, _ => by simp at h
  | _ :: _, [], _, h, _ => by simp at h
theorem of_ints {vs : List Value} {xs : List Int} {O : Look} (h : IntsAre vs xs) : ∀ (i : Nat) v x, vs[i]? = some v → xs[i]? = some x → IV O v x := by
  induction h with
  | nil => intro i v x e1 _; cases e1
  | cons n t r ih =>
    intro i v x e1 e2
    cases i with
    | zero => cases e1; cases e2; exact ⟨t, rfl⟩
    | succ i => exact ih i v x e1 e2
theorem IL.open {O : Look} {v : Value} {xs : List Int} (h : IL O v xs) : ∃ (a : Addr) (vs : List Value) (n : Nat), v = .ref a ∧ O a (listOf vs.toArray n) ∧ IntsAre vs xs := by
  obtain ⟨a, vs, n, e, h1, h2, h3⟩ := h
  exact ⟨a, vs, n, e, h1, ints_of h2 h3⟩
theorem IL.of {O : Look} {a : Addr} {vs : List Value} {n : Nat} {xs : List Int} (h1 : O a (listOf vs.toArray n)) (h2 : IntsAre vs xs) : IL O (.ref a) xs := ⟨a, vs, n, rfl, h1, h2.length, of_ints h2⟩

theorem LL.three {α : Type} {P : Look → Value → α → Prop} {O : Look} {D : Addr} {v0 v1 v2 : Value} {n : Nat} {x0 x1 x2 : α} (h : O D (listOf #[v0, v1, v2] n)) (h0 : P O v0 x0) (h1 : P O v1 x1) (h2 : P O v2 x2) : LL P O (.ref D) [x0, x1, x2] := by
  refine ⟨D, [v0, v1, v2], n, rfl, h, rfl, fun i v x e1 e2 => ?_⟩
  rcases i with _ | _ | _ | i
  · cases e1; cases e2; exact h0
  · cases e1; cases e2; exact h1
  · cases e1; cases e2; exact h2
  · cases e1
theorem six {α β : Type} {R : α → β → Prop} {a0 a1 a2 a3 a4 a5 : α} {b0 b1 b2 b3 b4 b5 : β} (h0 : R a0 b0) (h1 : R a1 b1) (h2 : R a2 b2) (h3 : R a3 b3) (h4 : R a4 b4) (h5 : R a5 b5) : ∀ (i : Nat) a b, [a0, a1, a2, a3, a4, a5][i]? = some a → [b0, b1, b2, b3, b4, b5][i]? = some b → R a b := by
  intro i a b e1 e2
  rcases i with _ | _ | _ | _ | _ | _ | i
  · cases e1; cases e2; exact h0
  · cases e1; cases e2; exact h1
  · cases e1; cases e2; exact h2
  · cases e1; cases e2; exact h3
  · cases e1; cases e2; exact h4
  · cases e1; cases e2; exact h5
  · cases e1

/-- the objects that h' holds and h does not -/
noncomputable def diff (h h' : Heap) : List (Addr × Obj) := (List.range h'.objs.size).filterMap fun a => if (h.get? a).isNone then (h'.get? a).map fun o => (a, o) else none
theorem mem_diff {h h' : Heap} {a : Addr} {o : Obj} : (a, o) ∈ diff h h' ↔ NewO h h' a o := by
  unfold diff NewO
  rw [List.mem_filterMap]
  constructor
  · rintro ⟨b, hb, e⟩
    split at e
    · rename_i hn
      obtain ⟨o', e1, e2⟩ := Option.map_eq_some_iff.mp e
      cases e2
      exact ⟨e1, by simpa using hn⟩
    · cases e
  · rintro ⟨e1, e2⟩
    refine ⟨a, List.mem_range.mpr (Heap.lt_size e1), ?_⟩
    rw [if_pos (by rw [e2]; rfl), e1]; rfl

theorem fr_stays {g h h' : Heap} {L : Addr} {m : Str → Option Value} {W : List Addr} (F : Fr g L h m) (st : Stays W h h') (nL : L ∉ W) (ng : ∀ b ∈ W, g.get? b = none) : Fr g L h' m :=
  ⟨F.ns.at' fun o e => st _ o nL e, fun b o e => st b o (fun hb => by rw [ng b hb] at e; cases e) (F.keep b o e), F.above⟩
theorem news_diff {g h h' : Heap} {L : Addr} {m : Str → Option Value} (F : Fr g L h m) (k : ∀ b o, g.get? b = some o → h.get? b = some o) : News g L h' (diff h h') := by
  rintro ⟨a, o⟩ hm
  obtain ⟨e1, e2⟩ := mem_diff.mp hm
  refine ⟨e1, fun z => ?_, ?_⟩
  · obtain ⟨o', _, _, e, _⟩ := F.ns
    rw [show a = L from z, e] at e2; cases e2
  · cases q : g.get? a with
    | none => rfl
    | some o' => have := k a o' q; rw [e2] at this; cases this

section
variable {α : Type} {M : Model} {A : Around} {t : Sem α} {s : Shared} {Inv : Heap → Prop} {Post : Look → α → Prop} {Q : α → Shared → Prop} {E : Value → Shared → Prop} {g : Heap} {L : Addr} {m : Str → Option Value} {led : List (Addr × Obj)}

/-- an effect-free evaluation in a frame: what it made goes onto the ledger as one part -/
theorem eff_use (F : Fr g L s.heap m) (N : News g L s.heap led) (x : Eff M A t s [] Inv Post) (hmono : ∀ (O O' : Look) y, (∀ a o, O a o → O' a o) → Post O y → Post O' y)
    (k : ∀ y new h' tk', Fr g L h' m → News g L h' (new ++ led) → (∀ p ∈ new, s.heap.get? p.1 = none) → Inv h' → Post (fun a o => (a, o) ∈ new) y → Q y { s with heap := h', toks := tk' }) : wpAny M A t Q E s :=
  x.use fun y h' tk' st i po => by
    have st' := st.all
    refine k y (diff s.heap h') h' tk' (F.keeps st') (fun p hp => ?_) (fun p hp => (mem_diff.mp (show (p.1, p.2) ∈ diff s.heap h' from hp)).2) i (hmono _ _ _ (fun a o r => mem_diff.mpr r) po)
    rcases List.mem_append.mp hp with hp | hp
    · exact news_diff F F.keep p hp
    · exact N.grown st' p hp

/-- the same, where what was made is let go -/
theorem eff_use0 (F : Fr g L s.heap m) (N : News g L s.heap led) (x : Eff M A t s [] Inv Post)
    (k : ∀ y h' tk' O, Fr g L h' m → News g L h' led → Inv h' → Post O y → Q y { s with heap := h', toks := tk' }) : wpAny M A t Q E s :=
  x.use fun y h' tk' st i po => k y h' tk' _ (F.keeps st.all) (N.grown st.all) i po

inductive SrcOk (o : Obj) : Prop
  | mk : ∀ a ta b tb n, o = listOf #[.int a ta, .int b tb] n → 0 ≤ a → 0 ≤ b → b < 2147483647 → SrcOk o
inductive SrcAt (src : Addr) (h : Heap) : Prop
  | mk : ∀ o, h.get? src = some o → SrcOk o → SrcAt src h
theorem SrcAt.keeps {src : Addr} {h h' : Heap} (x : SrcAt src h) (k : ∀ b ∈ [src], ∀ o, h.get? b = some o → h'.get? b = some o) : SrcAt src h' := let ⟨o, e, r⟩ := x; ⟨o, k src (.head _) o e, r⟩
theorem SrcAt.there {src : Addr} {h : Heap} (x : SrcAt src h) : ∀ b ∈ [src], ∃ o, h.get? b = some o := fun b hb => let ⟨o, e, _⟩ := x; ⟨o, by rw [List.mem_singleton.mp hb]; exact e⟩

/-- an evaluation that draws from the source, in a frame whose ledger holds it -/
theorem eff_useS {src : Addr} {o : Obj} {gf : Obj → List (Addr × Obj)} (F : Fr g L s.heap m) (N : News g L s.heap led) (U : UpdF src o led gf) (x : Eff M A t s [src] (SrcAt src) Post)
    (hmono : ∀ (O O' : Look) y, (∀ a o, O a o → O' a o) → Post O y → Post O' y)
    (k : ∀ y new a ta b tb n h' tk', Fr g L h' m → News g L h' (new ++ gf (listOf #[.int a ta, .int b tb] n)) → (∀ p ∈ new, s.heap.get? p.1 = none) → 0 ≤ a → 0 ≤ b → b < 2147483647 → Post (fun a o => (a, o) ∈ new) y → Q y { s with heap := h', toks := tk' }) :
    wpAny M A t Q E s :=
  x.use fun y h' tk' st i po => by
    obtain ⟨pre, post, rfl, hg, h1, h2⟩ := U.split
    obtain ⟨o', e', a, ta, b, tb, n, rfl, p1, p2, p3⟩ := i
    have D := N (src, o) (List.mem_append_right _ (.head _))
    have nL : L ∉ [src] := fun z => D.2.1 (List.mem_singleton.mp z).symm
    have F' : Fr g L h' m := fr_stays F st nL fun b hb => by rw [List.mem_singleton.mp hb]; exact D.2.2
    refine k y (diff s.heap h') a ta b tb n h' tk' F' (fun p hp => ?_) (fun p hp => (mem_diff.mp (show (p.1, p.2) ∈ diff s.heap h' from hp)).2) p1 p2 p3 (hmono _ _ _ (fun a o r => mem_diff.mpr r) po)
    · rcases List.mem_append.mp hp with hp | hp
      · exact news_diff F F.keep p hp
      · rw [hg] at hp
        rcases List.mem_append.mp hp with hp | hp
        · have P := N p (List.mem_append_left _ hp); exact ⟨st _ _ (fun z => h1 p hp (List.mem_singleton.mp z)) P.1, P.2⟩
        · rcases List.mem_cons.mp hp with rfl | hp
          · exact ⟨e', D.2⟩
          · have P := N p (List.mem_append_right _ (.tail _ hp)); exact ⟨st _ _ (fun z => h2 p hp (List.mem_singleton.mp z)) P.1, P.2⟩
end
theorem inst_base {g h : Heap} {L : Addr} {m : Str → Option Value} {x C dx : Addr} {od : Obj} {sl : Array (Option Value)} (F : Fr g L h m) (h1 : g.get? x = some ⟨.ref C, some dx, .plain, sl⟩) (h2 : g.get? dx = some od) :
    PySem.W.InstAt h x ⟨.ref C, some dx, .plain, sl⟩ C (some od) := ⟨F.keep _ _ h1, rfl, rfl, F.keep _ _ h2⟩
end

section
open PySem PySem.W PyProof.Rows PyProof.Rows.LCg PySem.Calls
set_option maxRecDepth 100000
set_option maxHeartbeats 4000000
noncomputable def Stop (P : Prop) : Prop := P
theorem Stop.go {P : Prop} (h : Stop P) : P := h
theorem Stop.ref {M : Model} {A : Around} {n : Addr} {vs : List Value} {Q E : Value → Shared → Prop} {s : Shared} (l : List Nat) (_ : l.contains n = true) (h : Stop (wpAny M A (call (.ref n) vs) Q E s)) : wpAny M A (call (.ref n) vs) Q E s := h

/-- what a comprehension hands back -/
inductive CompPost (n : Nat) (P : Nat → Value → Prop) (T : Nat → Value → Look → Value → Prop) (O : Look) (y : Value) : Prop
  | mk : ∀ D ys, y = .ref D → O D (lst ys) → ys.length = n → (∀ (i : Nat) y', ys[i]? = some y' → ∃ v, P i v ∧ T i v O y') → CompPost n P T O y
section
/-- a comprehension over a list, into a list -/
theorem CompPost.toMap {α β : Type} {vs : List Value} {xs : List α} {P : Look → Value → β → Prop} {f : α → β} {O : Look} {y : Value} {T : Nat → Value → Look → Value → Prop} (hl : vs.length = xs.length)
    (hT : ∀ i v x O y, xs[i]? = some x → T i v O y → P O y (f x)) (h : CompPost vs.length (fun i v => vs[i]? = some v) T O y) : LL P O y (xs.map f) := by
  obtain ⟨D, ys, rfl, h1, h2, h3⟩ := h
  refine ⟨D, ys, _, rfl, h1, by rw [List.length_map, h2, hl], fun i v x e1 e2 => ?_⟩
  obtain ⟨v', a, b⟩ := h3 i v e1
  rw [List.getElem?_map] at e2
  obtain ⟨x', e3, e4⟩ := Option.map_eq_some_iff.mp e2
  subst e4
  exact hT i v' x' O v e3 b
end
end

section
open PySem PySem.W PyProof.Rows PyProof.Rows.LCg PySem.Calls
set_option maxRecDepth 100000
set_option maxHeartbeats 4000000
/-- the ledger holds all that is neither ground nor the frame itself -/
noncomputable def Full (g : Heap) (L : Addr) (h : Heap) (led : List (Addr × Obj)) : Prop := ∀ a o, h.get? a = some o → g.get? a = none → a ≠ L → (a, o) ∈ led
noncomputable def rest (g : Heap) (L : Addr) (h : Heap) : List (Addr × Obj) := (diff g h).filter fun p => p.1 != L
theorem mem_rest {g h : Heap} {L a : Addr} {o : Obj} : (a, o) ∈ rest g L h ↔ h.get? a = some o ∧ g.get? a = none ∧ a ≠ L := by
  unfold rest
  rw [List.mem_filter, mem_diff]
  simp [NewO, and_assoc]
theorem full_rest {g h : Heap} {L : Addr} : Full g L h (rest g L h) := fun _ _ a b c => mem_rest.mpr ⟨a, b, c⟩
theorem news_rest {g h : Heap} {L : Addr} : News g L h (rest g L h) := fun p hp => by
  obtain ⟨a, b, c⟩ := mem_rest.mp (show (p.1, p.2) ∈ rest g L h from hp)
  exact ⟨a, c, b⟩
theorem sub_rest {g h : Heap} {L : Addr} {led : List (Addr × Obj)} (N : News g L h led) : ∀ p ∈ led, p ∈ rest g L h := fun p hp => mem_rest.mpr ⟨(N p hp).1, (N p hp).2.2, (N p hp).2.1⟩
theorem full_stays {g h h' : Heap} {L : Addr} {m m' : Str → Option Value} {led : List (Addr × Obj)} (U : Full g L h led) (F : Fr g L h m) (F' : Fr g L h' m') (k : ∀ p ∈ led, h'.get? p.1 = some p.2) : Stays [L] h h' := fun b o n e => by
  cases q : g.get? b with
  | some o' =>
    have e1 := F.keep b o' q
    rw [e] at e1; cases e1
    exact F'.keep b o q
  | none => exact k (b, o) (U b o e q fun z => n (by rw [z]; exact .head _))
theorem full_none {g h h' : Heap} {L : Addr} {m m' : Str → Option Value} {led : List (Addr × Obj)} (U : Full g L h led) (F : Fr g L h m) (F' : Fr g L h' m') (k : ∀ p ∈ led, h'.get? p.1 = some p.2) {a : Addr} (e : h'.get? a = none) : h.get? a = none := by
  cases q : h.get? a with
  | none => rfl
  | some o =>
    by_cases z : a = L
    · obtain ⟨o', _, _, e', _⟩ := F'.ns
      rw [z, e'] at e; cases e
    · have := full_stays U F F' k a o (by simpa using z) q
      rw [e] at this; cases this

theorem full_new {g h : Heap} {L D : Addr} {led : List (Addr × Obj)} (U : Full g L h led) (l : AllLt D led) (n1 : g.get? D = none) (n2 : D ≠ L) : h.get? D = none := by
  cases q : h.get? D with
  | none => rfl
  | some o => exact absurd (ktn_ltOf l _ (U D o q n1 n2)) (Nat.lt_irrefl _)
theorem news_look {g h : Heap} {L : Addr} {led : List (Addr × Obj)} (N : News g L h led) : ∀ a o, (a, o) ∈ led → (h.get? a = some o ∧ g.get? a = none ∧ a ∉ (List.nil : List (Addr × Obj)).map (·.1) ∧ a ≠ L) := fun _ _ m => ⟨(N _ m).1, (N _ m).2.2, by simp, (N _ m).2.1⟩
theorem BodyEnd.pure {g : Heap} {L' : Addr} {s : Shared} {Post : Look → Value → Prop} {v : Value} {h' : Heap} {tk' : Nat} {m' : Str → Option Value} {led : List (Addr × Obj)} (hmono : ∀ (O O' : Look) v, (∀ a o, O a o → O' a o) → Post O v → Post O' v)
    (F : Fr g L' h' m') (N : News g L' h' led) (p : Post (fun a o => (a, o) ∈ led) v) : BodyEnd g L' s ((List.nil : List (Addr × Obj)).map (·.1)) (fun _ => True) Post v { s with heap := h', toks := tk' } :=
  BodyEnd.intro F trivial (hmono _ _ _ (news_look N) p)
theorem CompPost.list {α : Type} {vs : List Value} {xs : List α} {P : Look → Value → α → Prop} {O : Look} {y : Value} {T : Nat → Value → Look → Value → Prop} (hl : vs.length = xs.length)
    (hT : ∀ i v x O y, xs[i]? = some x → vs[i]? = some v → T i v O y → P O y x) (h : CompPost vs.length (fun i v => vs[i]? = some v) T O y) : LL P O y xs := by
  obtain ⟨D, ys, rfl, h1, h2, h3⟩ := h
  refine ⟨D, ys, _, rfl, h1, by rw [h2, hl], fun i v x e1 e2 => ?_⟩
  obtain ⟨v', a, b⟩ := h3 i v e1
  exact hT i v' x O v e2 a b
/-- how an element's walk ends -/
inductive EltEnd (g : Heap) (L : Addr) (m : Str → Option Value) (led : List (Addr × Obj)) (s : Shared) (Post : Look → Value → Prop) (y : Value) (s' : Shared) : Prop
  | mk : ∀ h' tk', s' = { s with heap := h', toks := tk' } → Fr g L h' m → (∀ p ∈ led, h'.get? p.1 = some p.2) → Post (NewO s.heap h') y → EltEnd g L m led s Post y s'
theorem EltEnd.intro {g : Heap} {L : Addr} {m : Str → Option Value} {led led' : List (Addr × Obj)} {s : Shared} {Post : Look → Value → Prop} {y : Value} {h' : Heap} {tk' : Nat} (F : Fr g L h' m) (N : News g L h' led') (sub : ∀ p ∈ led, p ∈ led')
    (po : Post (NewO s.heap h') y) : EltEnd g L m led s Post y { s with heap := h', toks := tk' } := ⟨h', tk', rfl, F, fun p hp => (N p (sub p hp)).1, po⟩

/-- how the walk of what a comprehension goes over ends -/
inductive IterEnd (g : Heap) (L : Addr) (m : Str → Option Value) (led₀ : List (Addr × Obj)) (s : Shared) (n : Nat) (P : Nat → Value → Prop) (xv : Value) (s₁ : Shared) : Prop
  | mk : ∀ h tk led₁, s₁ = { s with heap := h, toks := tk } → Fr g L h m → News g L h led₁ → (∀ p ∈ led₀, p ∈ led₁) → Src s₁ xv n P → xv ≠ .ref L → IterEnd g L m led₀ s n P xv s₁
theorem IterEnd.list {g h : Heap} {L ax : Addr} {m : Str → Option Value} {led₀ led₁ : List (Addr × Obj)} {s : Shared} {tk : Nat} {vs : List Value} (F : Fr g L h m) (N : News g L h led₁) (sub : ∀ p ∈ led₀, p ∈ led₁) (hl : h.IsList ax vs.toArray) (hsz : vs.length ≤ sizeLine) :
    IterEnd g L m led₀ s vs.length (fun i v => vs[i]? = some v) (.ref ax) { s with heap := h, toks := tk } := by
  refine ⟨h, tk, led₁, rfl, F, N, sub, ?_, fun e => ?_⟩
  · have := Src.list (s₁ := { s with heap := h, toks := tk }) hl (by simpa using hsz)
    simpa using this
  · cases e
    obtain ⟨o, e1, _, n, e2⟩ := hl
    obtain ⟨o', es, ep, e3, e4, _⟩ := F.ns
    rw [e1] at e3; cases e3
    rw [e2] at e4; cases e4
theorem IterEnd.range {g h : Heap} {L r : Addr} {m : Str → Option Value} {led₀ led₁ : List (Addr × Obj)} {s : Shared} {tk : Nat} {a b : Int} {t u v : Tok} {n : Nat} (F : Fr g L h m) (N : News g L h led₁) (sub : ∀ p ∈ led₀, p ∈ led₁) (hr : IsRange h r a b 1 t u v)
    (hsm : Builtin.Range.small a b 1 = true) (hn : Builtin.Range.rangeSize a b 1 = ((n : Nat) : Int)) (hsz : n ≤ sizeLine) :
    IterEnd g L m led₀ s n (fun i v => ∃ t, v = .int (a + (i : Int)) t) (.ref r) { s with heap := h, toks := tk } := by
  refine ⟨h, tk, led₁, rfl, F, N, sub, Src.range (s₁ := { s with heap := h, toks := tk }) hr hsm hn hsz, fun e => ?_⟩
  cases e
  obtain ⟨o', es, ep, e3, e4, _⟩ := F.ns
  have hr' := hr
  unfold IsRange at hr'
  rw [hr'] at e3
  cases e3
  cases e4

section
variable {prog : Program} {w : World} {A : Around} {env : Env} {s : Shared} {g : Heap} {L : Addr} {m : Str → Option Value} {led : List (Addr × Obj)} {Q E : Value → Shared → Prop}
theorem comp_frH {elt iter : Expr} {x : Str} {px : Pos} {scope : Scope} {cl : List (Str × Addr)} {pos : Pos} {n : Nat} {P : Nat → Value → Prop} (T : Nat → Value → Look → Value → Prop)
    (F : Fr g L s.heap m) (N : News g L s.heap led)
    (hT : ∀ i v y (O O' : Look), (∀ a o, O a o → O' a o) → T i v O y → T i v O' y)
    (hit : ∀ led₀, News g L s.heap led₀ → (∀ p ∈ led, p ∈ led₀) → wpAny (model prog w) A (eval iter env) (IterEnd g L m led₀ s n P) (fun _ _ => False) s)
    (turns : ∀ C i v h tk cl' led', cl' = cellsFrom (C + 1) scope.names cl → i < n ∧ L < C → P i v → Fr g L h m → News g L h led' → (∀ p ∈ led, p ∈ led') → Full g L h led' → Holds (compEnvC scope cl' C env) x v h →
      wpAny (model prog w) A (eval elt (compEnvC scope cl' C env)) (EltEnd g L m led' { s with heap := h, toks := tk } (T i v)) (fun _ _ => False) { s with heap := h, toks := tk })
    (k : ∀ y new h' tk', Fr g L h' m → News g L h' (new ++ led) → (∀ p ∈ new, s.heap.get? p.1 = none) → CompPost n P T (fun a o => (a, o) ∈ new) y → Q y { s with heap := h', toks := tk' })
    (hh : HOk A g) (hclos : closureFor scope env = pure cl) (hkind : scope.kind = .function)
    (hnames : ∀ y ∈ scope.names, y.2 = .local → scope.names.lookup y.1 = some .local)
    (hx : (relabel scope env).names.lookup x = some .local ∨ ((relabel scope env).names.lookup x = some .cell ∧ ∀ k, ∃ c, (cellsFrom k scope.names cl).lookup x = some c ∧ (cellsFrom k scope.names []).lookup x = some c))
    (hs : ∀ x, foldedSetIterable iter env x = pure x) :
    wpAny (model prog w) A (eval (.ListComp elt [⟨.Name x px, iter, [], 0⟩] scope pos) env) Q E s := by
  refine comp_eval (Wm := [L]) (Inv := fun h => h.Ns L m) (T := T) (fun b hb z => by obtain ⟨o, e⟩ := hfp_of hh b hb; rw [List.mem_singleton.mp z] at e; exact absurd (Heap.lt_size e) (Nat.not_lt.mpr F.above)) hclos hkind hnames hx (fun h h' i z => i.at' fun o e => z L (.head _) o e) (fun h i b hb => by obtain ⟨o, _, _, e, _⟩ := i; exact ⟨o, by rw [List.mem_singleton.mp hb]; exact e⟩) hT
    (wpAny_mono (hit (rest g L s.heap) news_rest (sub_rest N)) (fun xv s₁ h₁ => ?_) fun _ _ e => e.elim) hs
  obtain ⟨h, tk, led₁, rfl, F₁, N₁, sub, src, nx⟩ := h₁
  have st₁ : Stays [L] s.heap h := full_stays full_rest F F₁ fun p hp => (N₁ p (sub p hp)).1
  have gL : ∀ b o, g.get? b = some o → b ∉ [L] := fun b o e z => by
    have := Heap.lt_size e
    rw [List.mem_singleton.mp z] at this
    exact absurd this (Nat.not_lt.mpr F.above)
  refine ⟨n, P, src, hh.keep fun b _ => F₁.keep b, fun a e z => nx (by rw [e, List.mem_singleton.mp z]), F₁.ns, ?_, fun D h' tk' ys Y => ?_⟩
  · rintro C i v s' cl' ⟨h₂, tk₂, rfl⟩ hcl hi hv st₂ inv₂ ho
    have F₂ : Fr g L h₂ m := ⟨inv₂, fun b o e => st₂ b o (gL b o e) (F₁.keep b o e), F₁.above⟩
    have sub₂ : ∀ p ∈ led, p ∈ rest g L h₂ := fun p hp => mem_rest.mpr ⟨st₂ _ _ (fun z => (N p hp).2.1 (List.mem_singleton.mp z)) (N₁ p (sub p (sub_rest N p hp))).1, (N p hp).2.2, (N p hp).2.1⟩
    unfold Eff
    refine wpAny_mono (turns C i v h₂ tk₂ cl' (rest g L h₂) hcl ⟨hi.1, Nat.lt_of_lt_of_le F₁.ns.lt hi.2⟩ hv F₂ news_rest sub₂ full_rest ho) (fun y s₃ h₃ => ?_) fun _ _ e => e
    obtain ⟨h₃, tk₃, rfl, F₃, k₃, po⟩ := h₃
    exact ⟨h₃, tk₃, rfl, full_stays full_rest F₂ F₃ k₃, F₃.ns, po⟩
  · have stA : Stays [L] s.heap h' := st₁.trans Y.stays
    have F' : Fr g L h' m := ⟨Y.inv, fun b o e => stA b o (gL b o e) (F.keep b o e), F.above⟩
    have no : ∀ a, h.get? a = none → s.heap.get? a = none := fun a e => full_none full_rest F F₁ (fun p hp => (N₁ p (sub p hp)).1) e
    refine k (.ref D) (diff s.heap h') h' tk' F' (fun p hp => ?_) (fun p hp => (mem_diff.mp (show (p.1, p.2) ∈ diff s.heap h' from hp)).2) ⟨D, ys, rfl, mem_diff.mpr ⟨Y.at_, no _ Y.new⟩, Y.len, fun i y' e => ?_⟩
    · rcases List.mem_append.mp hp with hp | hp
      · exact news_diff F F.keep p hp
      · exact ⟨stA _ _ (fun z => (N p hp).2.1 (List.mem_singleton.mp z)) (N p hp).1, (N p hp).2⟩
    · obtain ⟨v, a, b⟩ := Y.res i y' e
      exact ⟨v, a, hT _ _ _ _ _ (fun a o r => mem_diff.mpr ⟨r.1, no _ r.2⟩) b⟩
theorem comp_fr {elt iter : Expr} {x : Str} {px : Pos} {scope : Scope} {cl : List (Str × Addr)} {pos : Pos} {n : Nat} {P : Nat → Value → Prop} (T : Nat → Value → Look → Value → Prop)
    (F : Fr g L s.heap m) (N : News g L s.heap led)
    (hT : ∀ i v y (O O' : Look), (∀ a o, O a o → O' a o) → T i v O y → T i v O' y)
    (hit : ∀ led₀, News g L s.heap led₀ → (∀ p ∈ led, p ∈ led₀) → wpAny (model prog w) A (eval iter env) (IterEnd g L m led₀ s n P) (fun _ _ => False) s)
    (turns : ∀ C i v h tk cl' led', cl' = cellsFrom (C + 1) scope.names cl → i < n ∧ L < C → P i v → Fr g L h m → News g L h led' → (∀ p ∈ led, p ∈ led') → Full g L h led' → Holds (compEnvC scope cl' C env) x v h →
      wpAny (model prog w) A (eval elt (compEnvC scope cl' C env)) (EltEnd g L m led' { s with heap := h, toks := tk } (T i v)) (fun _ _ => False) { s with heap := h, toks := tk })
    (k : ∀ y new h' tk', Fr g L h' m → News g L h' (new ++ led) → (∀ p ∈ new, s.heap.get? p.1 = none) → CompPost n P T (fun a o => (a, o) ∈ new) y → Q y { s with heap := h', toks := tk' })
    (hh : A.handled = none) (hclos : closureFor scope env = pure cl) (hkind : scope.kind = .function)
    (hnames : ∀ y ∈ scope.names, y.2 = .local → scope.names.lookup y.1 = some .local)
    (hx : (relabel scope env).names.lookup x = some .local ∨ ((relabel scope env).names.lookup x = some .cell ∧ ∀ k, ∃ c, (cellsFrom k scope.names cl).lookup x = some c ∧ (cellsFrom k scope.names []).lookup x = some c))
    (hs : ∀ x, foldedSetIterable iter env x = pure x) :
    wpAny (model prog w) A (eval (.ListComp elt [⟨.Name x px, iter, [], 0⟩] scope pos) env) Q E s :=
  comp_frH T F N hT hit turns k (.none hh) hclos hkind hnames hx hs
end
end

section
open PySem PySem.W PyProof.Rows PyProof.Rows.LCg PySem.Calls
set_option maxRecDepth 100000
set_option maxHeartbeats 4000000
section
variable {prog : Program} {w : World} {A : Around} {env : Env}
end

section
variable {prog : Program} {w : World} {A : Around} {env : Env}
/-- a comprehension put under a local name; the frame's own dict is among what the block may not rely on -/
theorem comp_assignL {elt iter : Expr} {x y : Str} {px py : Pos} {scope : Scope} {cl : List (Str × Addr)} {pos spos : Pos} {s : Shared} {m : Str → Option Value} {T : Nat → Value → (Addr → Obj → Prop) → Value → Prop}
    {Q : Flow → Shared → Prop} {E : Value → Shared → Prop} (hh : A.handled = none)
    (hsw : swapsWith (.ListComp elt [⟨.Name x px, iter, [], 0⟩] scope pos) (some (.Name y py)) spos.line env = pure true)
    (hclos : closureFor scope env = pure cl) (hkind : scope.kind = .function)
    (hnames : ∀ y ∈ scope.names, y.2 = .local → scope.names.lookup y.1 = some .local)
    (hx : (relabel scope env).names.lookup x = some .local ∨ ((relabel scope env).names.lookup x = some .cell ∧ ∀ k, ∃ c, (cellsFrom k scope.names cl).lookup x = some c ∧ (cellsFrom k scope.names []).lookup x = some c))
    (hT : ∀ i v y (O O' : Addr → Obj → Prop), (∀ a o, O a o → O' a o) → T i v O y → T i v O' y)
    (hy : env.kindOf y = some .local) (hp : (env.scope.kind == .class || (env.scope.kind == .module && env.locals != env.globals)) = false)
    (h : wpAny (model prog w) A (eval iter env) (fun xv s₁ => ∃ n P, Src s₁ xv n P ∧ (∀ a, xv = .ref a → a ∉ [env.locals]) ∧ s₁.heap.Ns env.locals m ∧ Turns prog w A env scope cl elt x s₁ [env.locals] (fun h => h.Ns env.locals m) n P T ∧
      ∀ D h' tk' ys, h'.get? D = some (lst ys) → s₁.heap.get? D = none → ys.length = n → Stays [env.locals] s₁.heap h' → h'.Ns env.locals (fun z => if z = y then some (.ref D) else m z) →
        (∀ i y, ys[i]? = some y → ∃ v, P i v ∧ T i v (NewO s₁.heap h') y) → Q .next { s₁ with heap := h', toks := tk' }) E s)
    (hs : ∀ x, foldedSetIterable iter env x = pure x := by intro _; rfl) :
    wpAny (model prog w) A (exec (.Assign [.Name y py] (.ListComp elt [⟨.Name x px, iter, [], 0⟩] scope pos) spos) env) Q E s := by
  rw [exec_Assign_Name_used _ _ _ _ hsw]
  refine wpAny_bind (wpAny_standAt (wpAny_bind ?_))
  show wpAny _ A (do let _ ← comprehension (.ListComp elt [⟨.Name x px, iter, [], 0⟩] scope pos) scope env _ (newList []) false (eval iter env) (some (assign (.Name y py) env))) _ _ s
  refine wpAny_bind (wpAny_mono (wpAny_comprehension_free (use := some (assign (.Name y py) env)) (Q := fun _ s' => Q .next s') rfl hs hclos hkind hnames
    (wpAny_mono h (fun xv s₁ h₁ => ?_) fun _ _ e => e)) (fun _ s' hq => wpAny_pure (wpAny_pure hq)) fun _ _ e => e)
  obtain ⟨n, P, src, hax, inv0, turns, q⟩ := h₁
  have hIs : ∀ h h' : Heap, h.Ns env.locals m → (∀ b ∈ [env.locals], ∀ o, h.get? b = some o → h'.get? b = some o) → h'.Ns env.locals m := fun h h' i z => i.at' fun o e => z _ (.head _) o e
  have hWx : ∀ h : Heap, h.Ns env.locals m → ∀ b ∈ [env.locals], ∃ o, h.get? b = some o := fun h i b hb => by obtain ⟨o, _, _, e, _⟩ := i; exact ⟨o, by rw [List.mem_singleton.mp hb]; exact e⟩
  have hLo := hWx _ inv0 _ (.head _)
  have hWl : ∀ b ∈ [env.locals], b < s₁.heap.objs.size := fun b hb => by obtain ⟨o, e⟩ := hWx _ inv0 b hb; exact Heap.lt_size e
  refine comp_core (RR := fun acc C => compPost (model prog w) A E (some (assign (.Name y py) env)) (fun _ s' => Q .next s') acc C) (.none hh) (hfp_none hh) hkind hx src hax hWl hIs inv0 hWx hT turns ?_
  intro D C h tk m' ys hn hC hCD hl hD hlen hst hinv hres
  have hLC : env.locals ≠ C := fun z => by obtain ⟨o, e⟩ := hLo; rw [z, hC] at e; cases e
  show wpAny _ A (assign (.Name y py) env (.ref D)) _ _ _
  refine wpAny_assign_Name (wpAny_storeName_local hy hinv (fun h₂ hn₂ hs₂ => ?_) hp)
  refine ⟨m', hn.sameBut hs₂ (Ne.symm hLC), fun h'' hs'' => ?_⟩
  have hLD : D ≠ env.locals := fun z => by obtain ⟨o, e⟩ := hLo; rw [← z, hD] at e; cases e
  have nC : ∀ b o, s₁.heap.get? b = some o → b ≠ C := fun b o e z => by rw [z, hC] at e; cases e
  refine q D h'' _ ys (hs''.extBut _ _ (Ne.symm hCD) (hs₂.extBut _ _ hLD hl)) hD hlen (fun b o n e => hs''.extBut b o (nC b o e) (hs₂.extBut b o (fun z => n (by rw [z]; exact .head _)) (hst b o n e))) (hn₂.sameBut hs'' hLC) fun i y' hy' => ?_
  obtain ⟨v, a, b⟩ := hres i y' hy'
  refine ⟨v, a, hT _ _ _ _ _ (fun a o r => ⟨hs''.extBut a o r.2 (hs₂.extBut a o (fun z => ?_) r.1.1), r.1.2⟩) b⟩
  obtain ⟨o', e'⟩ := hLo
  rw [← z, r.1.2] at e'; cases e'
end

section
variable {prog : Program} {w : World} {A : Around} {env : Env} {s : Shared} {g : Heap} {L : Addr} {m : Str → Option Value} {led : List (Addr × Obj)} {Q : Flow → Shared → Prop} {E : Value → Shared → Prop}

theorem ground_off {g h : Heap} {L : Addr} {m : Str → Option Value} (F : Fr g L h m) : ∀ b o, g.get? b = some o → b ∉ [L] := fun b o e z => by
  have := Heap.lt_size e
  rw [List.mem_singleton.mp z] at this
  exact absurd this (Nat.not_lt.mpr F.above)

/-- `comp_fr` for a comprehension put under a local name -/
theorem comp_frA {elt iter : Expr} {x y : Str} {px py : Pos} {scope : Scope} {cl : List (Str × Addr)} {pos spos : Pos} {n : Nat} {P : Nat → Value → Prop} (T : Nat → Value → Look → Value → Prop)
    (F : Fr g L s.heap m) (N : News g L s.heap led) (hL : env.locals = L)
    (hT : ∀ i v y (O O' : Look), (∀ a o, O a o → O' a o) → T i v O y → T i v O' y)
    (hit : ∀ led₀, News g L s.heap led₀ → (∀ p ∈ led, p ∈ led₀) → wpAny (model prog w) A (eval iter env) (IterEnd g L m led₀ s n P) (fun _ _ => False) s)
    (turns : ∀ C i v h tk cl' led', cl' = cellsFrom (C + 1) scope.names cl → i < n ∧ L < C → P i v → Fr g L h m → News g L h led' → (∀ p ∈ led, p ∈ led') → Full g L h led' → Holds (compEnvC scope cl' C env) x v h →
      wpAny (model prog w) A (eval elt (compEnvC scope cl' C env)) (EltEnd g L m led' { s with heap := h, toks := tk } (T i v)) (fun _ _ => False) { s with heap := h, toks := tk })
    (k : ∀ D new h' tk', Fr g L h' (fun z => if z = y then some (.ref D) else m z) → News g L h' (new ++ led) → (∀ p ∈ new, s.heap.get? p.1 = none) → CompPost n P T (fun a o => (a, o) ∈ new) (.ref D) → Q .next { s with heap := h', toks := tk' })
    (hh : A.handled = none) (hsw : swapsWith (.ListComp elt [⟨.Name x px, iter, [], 0⟩] scope pos) (some (.Name y py)) spos.line env = pure true) (hclos : closureFor scope env = pure cl) (hkind : scope.kind = .function)
    (hnames : ∀ y ∈ scope.names, y.2 = .local → scope.names.lookup y.1 = some .local)
    (hx : (relabel scope env).names.lookup x = some .local ∨ ((relabel scope env).names.lookup x = some .cell ∧ ∀ k, ∃ c, (cellsFrom k scope.names cl).lookup x = some c ∧ (cellsFrom k scope.names []).lookup x = some c))
    (hy : env.kindOf y = some .local) (hp : (env.scope.kind == .class || (env.scope.kind == .module && env.locals != env.globals)) = false)
    (hs : ∀ x, foldedSetIterable iter env x = pure x) :
    wpAny (model prog w) A (exec (.Assign [.Name y py] (.ListComp elt [⟨.Name x px, iter, [], 0⟩] scope pos) spos) env) Q E s := by
  subst hL
  refine comp_assignL (m := m) (T := T) hh hsw hclos hkind hnames hx hT hy hp
    (wpAny_mono (hit (rest g env.locals s.heap) news_rest (sub_rest N)) (fun xv s₁ h₁ => ?_) fun _ _ e => e.elim) hs
  obtain ⟨h, tk, led₁, rfl, F₁, N₁, sub, src, nx⟩ := h₁
  have st₁ : Stays [env.locals] s.heap h := full_stays full_rest F F₁ fun p hp => (N₁ p (sub p hp)).1
  have gL := ground_off F
  refine ⟨n, P, src, fun a e z => nx (by rw [e, List.mem_singleton.mp z]), F₁.ns, ?_, fun D h' tk' ys hD1 hD2 hlen st₂ hns hres => ?_⟩
  · rintro C i v s' cl' ⟨h₂, tk₂, rfl⟩ hcl hi hv st₂ inv₂ ho
    have F₂ : Fr g env.locals h₂ m := ⟨inv₂, fun b o e => st₂ b o (gL b o e) (F₁.keep b o e), F₁.above⟩
    have sub₂ : ∀ p ∈ led, p ∈ rest g env.locals h₂ := fun p hp => mem_rest.mpr ⟨st₂ _ _ (fun z => (N p hp).2.1 (List.mem_singleton.mp z)) (N₁ p (sub p (sub_rest N p hp))).1, (N p hp).2.2, (N p hp).2.1⟩
    unfold Eff
    refine wpAny_mono (turns C i v h₂ tk₂ cl' (rest g env.locals h₂) hcl ⟨hi.1, Nat.lt_of_lt_of_le F₁.ns.lt hi.2⟩ hv F₂ news_rest sub₂ full_rest ho) (fun y s₃ h₃ => ?_) fun _ _ e => e
    obtain ⟨h₃, tk₃, rfl, F₃, k₃, po⟩ := h₃
    exact ⟨h₃, tk₃, rfl, full_stays full_rest F₂ F₃ k₃, F₃.ns, po⟩
  · have stA : Stays [env.locals] s.heap h' := st₁.trans st₂
    have F' : Fr g env.locals h' (fun z => if z = y then some (.ref D) else m z) := ⟨hns, fun b o e => stA b o (gL b o e) (F.keep b o e), F.above⟩
    have no : ∀ a, h.get? a = none → s.heap.get? a = none := fun a e => full_none full_rest F F₁ (fun p hp => (N₁ p (sub p hp)).1) e
    refine k D (diff s.heap h') h' tk' F' (fun p hp => ?_) (fun p hp => (mem_diff.mp (show (p.1, p.2) ∈ diff s.heap h' from hp)).2) ⟨D, ys, rfl, mem_diff.mpr ⟨hD1, no _ hD2⟩, hlen, fun i y' e => ?_⟩
    · rcases List.mem_append.mp hp with hp | hp
      · exact news_diff F F.keep p hp
      · exact ⟨stA _ _ (fun z => (N p hp).2.1 (List.mem_singleton.mp z)) (N p hp).1, (N p hp).2⟩
    · obtain ⟨v, a, b⟩ := hres i y' e
      exact ⟨v, a, hT _ _ _ _ _ (fun a o r => mem_diff.mpr ⟨r.1, no _ r.2⟩) b⟩

end

theorem Upd.app {d : Addr} {o o' : Obj} : ∀ {new r r' : List (Addr × Obj)}, (∀ p ∈ new, p.1 ≠ d) → Upd d o o' r r' → Upd d o o' (new ++ r) (new ++ r')
  | [], _, _, _, u => u
  | p :: l, _, _, h, u => Upd.tail (h p (.head _)) (Upd.app (fun q hq => h q (.tail _ hq)) u)
theorem UpdF.app {d : Addr} {o : Obj} : ∀ {new r : List (Addr × Obj)} {gf : Obj → List (Addr × Obj)}, (∀ p ∈ new, p.1 ≠ d) → UpdF d o r gf → UpdF d o (new ++ r) (fun o' => new ++ gf o')
  | [], _, _, _, u => u
  | p :: l, _, _, h, u => UpdF.tail (h p (.head _)) (UpdF.app (fun q hq => h q (.tail _ hq)) u)
/-- what is new lies off what the ledger held -/
theorem off_new {g h : Heap} {L d : Addr} {o : Obj} {led new : List (Addr × Obj)} (N : News g L h led) (hn : ∀ p ∈ new, h.get? p.1 = none) (hm : (d, o) ∈ led) : ∀ p ∈ new, p.1 ≠ d := fun p hp e => by
  have := hn p hp
  rw [e, (N _ hm).1] at this; cases this
end

section
open PySem PySem.W PyProof.Rows PyProof.Rows.LCg PySem.Calls
set_option maxRecDepth 100000
set_option maxHeartbeats 4000000
/-- how a turn of a loop ends -/
inductive ForEnd (g : Heap) (L I : Addr) (own : List (Addr × Obj)) (J : (Str → Option Value) → List (Addr × Obj) → Prop) (s : Shared) (f : Flow) (s' : Shared) : Prop
  | mk : f = .next → ∀ h' tk' m' led', s' = { s with heap := h', toks := tk' } → Fr g L h' m' → News g L h' (led' ++ own) → (∀ p ∈ led', p.1 ≠ I) → J m' led' → ForEnd g L I own J s f s'
section
variable {prog : Program} {w : World} {A : Around} {env : Env} {s : Shared} {g : Heap} {L : Addr} {m : Str → Option Value} {led : List (Addr × Obj)} {Q : Flow → Shared → Prop} {E : Value → Shared → Prop}

/-- what the head of a loop over a list must bring -/
inductive ForL (prog : Program) (w : World) (A : Around) (env : Env) (g : Heap) (L : Addr) (m : Str → Option Value) (target : Expr) (body : List Stmt) (Q : Flow → Shared → Prop) (E : Value → Shared → Prop) (J : Nat → (Str → Option Value) → List (Addr × Obj) → Prop) (vs : List Value) (xv : Value) (s₁ : Shared) : Prop
  | mk : ∀ ax led₁, xv = .ref ax → Fr g L s₁.heap m → News g L s₁.heap led₁ → s₁.heap.IsList ax vs.toArray → J 0 m led₁ → (∀ i v I m₁ led' (s' : Shared) own, vs[i]? = some v → J i m₁ led' → (∀ p ∈ led', p.1 ≠ I) → (∀ p ∈ own, p.1 = I ∨ p.1 = ax) → (∃ oI, (I, oI) ∈ own) → Fr g L s'.heap m₁ → News g L s'.heap (led' ++ own) →       wpAny (model prog w) A (assign target env v) (fun _ s₃ => wpAny (model prog w) A (execs body env) (ForEnd g L I own (J (i + 1)) s') E s₃) E s') → (∀ h' tk' m' led', Fr g L h' m' → News g L h' led' → J vs.length m' led' → Q .next { s₁ with heap := h', toks := tk' }) → ForL prog w A env g L m target body Q E J vs xv s₁
theorem for_list {target iter : Expr} {body : List Stmt} {pos : Pos} {vs : List Value} (J : Nat → (Str → Option Value) → List (Addr × Obj) → Prop) (F : Fr g L s.heap m) (hL : env.locals = L) (hh : A.handled = none) (hE : PassesOwn (model prog w) A env E)
    (h : wpAny (model prog w) A (eval iter env) (ForL prog w A env g L m target body Q E J vs) E s)
    (ht : ∀ (s' : Shared) I v (Q' : Unit → Shared → Prop), (∃ l i, s'.heap.IsListIter I l i) → Q' () s' → wpAny (model prog w) A (letOwnedTupleGo target (.ref I) v) Q' E s')
    (hs : ∀ x, foldedSetIterable iter env x = pure x) :
    wpAny (model prog w) A (exec (.For target iter body [] pos) env) Q E s := by
  subst hL
  refine For_invTF F (wpAny_mono h (fun xv s₁ h₁ => ?_) fun _ _ e => e) hs hE
  obtain ⟨ax, led₁, rfl, F₁, N₁, hl, hj, turn, done⟩ := h₁
  have hlt : ax < s₁.heap.objs.size := by obtain ⟨_, e, _⟩ := hl; exact Heap.lt_size e
  have hxL : env.locals ≠ ax := fun e => by
    obtain ⟨o, e1, _, n, e2⟩ := hl
    obtain ⟨o', es, ep, e3, e4, _⟩ := F₁.ns
    rw [e, e1] at e3; cases e3
    rw [e2] at e4; cases e4
  refine wpAny_pyIter_list hl ?_
  have W := Walks.list (prog := prog) (w := w) hh s₁.heap.objs.size ax (Nat.ne_of_lt hlt) vs.toArray
  have hlen : vs.toArray.size = vs.length := by simp
  rw [hlen] at W
  refine ⟨_, _, _, vs.length, _, _, m, led₁, J, rfl, W, ?_, ?_, ?_, ⟨⟨_, Heap.get?_push_size _ rfl, rfl, rfl⟩, hl.at fun o e => Heap.get?_push_of_some _ e⟩, F₁.push _, (fun p hp => ⟨Heap.get?_push_of_some _ (N₁ p hp).1, (N₁ p hp).2⟩),
    (fun i s' v Q' st q => ht s' _ v Q' ⟨_, _, st.1⟩ q), hj, ?_, ?_⟩
  · intro hm
    rcases List.mem_cons.mp hm with e | hm
    · exact absurd F₁.ns.lt (e ▸ Nat.lt_irrefl _)
    · exact hxL (List.mem_singleton.mp hm)
  · intro b hb
    rw [List.mem_singleton.mp hb]
    exact next_is_new F₁
  · intro p hp hI
    exact absurd (Heap.lt_size (N₁ p hp).1) ((List.mem_singleton.mp hI) ▸ Nat.lt_irrefl _)
  · intro i v m₁ news₁ s' own hi hP hJ hoff hown _ hlive hst₂ F₂ N₂
    have hIo : ∃ oI, (s₁.heap.objs.size, oI) ∈ own := by obtain ⟨o, e, _⟩ := hst₂.1; exact ⟨o, hlive _ (.head _) (next_is_new F₁) _ e⟩
    have hv : vs[i]? = some v := by simpa using hP
    refine wpAny_mono (turn i v s₁.heap.objs.size m₁ news₁ s' own hv hJ (fun p hp e => hoff p hp (by rw [e]; exact .head _)) (fun p hp => by rcases List.mem_cons.mp (hown p hp) with e | e; exact .inl e; exact .inr (List.mem_singleton.mp e)) hIo F₂
      (fun p hp => N₂ p ((List.mem_append.mp hp).elim (fun h => List.mem_append_right _ h) fun h => List.mem_append_left _ h))) (fun _ s₃ h₃ => wpAny_mono h₃ (fun f s₄ h₄ => ?_) fun _ _ e => e) fun _ _ e => e
    obtain ⟨rfl, h', tk', m', led', e, F', N', off, j⟩ := h₄
    exact ⟨rfl, h', tk', m', led', e, F', fun p hp => N' p ((List.mem_append.mp hp).elim (fun h => List.mem_append_right _ h) fun h => List.mem_append_left _ h), fun p hp z => off p hp (List.mem_singleton.mp z), j⟩
  · intro h' tk m' news' F' N' _ hJ
    exact done h' tk m' news' F' N' hJ

/-- what the head of a loop over a range must bring -/
inductive ForR (prog : Program) (w : World) (A : Around) (env : Env) (g : Heap) (L : Addr) (m : Str → Option Value) (target : Expr) (body : List Stmt) (Q : Flow → Shared → Prop) (E : Value → Shared → Prop) (J : Nat → (Str → Option Value) → List (Addr × Obj) → Prop) (n : Nat) (xv : Value) (s₁ : Shared) : Prop
  | mk : ∀ r b t u v led₁, xv = .ref r → Fr g L s₁.heap m → News g L s₁.heap led₁ → IsRange s₁.heap r 0 b 1 t u v → Builtin.Range.small 0 b 1 = true → Builtin.Range.rangeSize 0 b 1 = ((n : Nat) : Int) → J 0 m led₁ → (∀ i t I m₁ led' (s' : Shared) own, i < n → J i m₁ led' → (∀ p ∈ led', p.1 ≠ I) → (∀ p ∈ own, p.1 = I) → (∃ oI, (I, oI) ∈ own) → Fr g L s'.heap m₁ → News g L s'.heap (led' ++ own) →       wpAny (model prog w) A (assign target env (.int (i : Int) t)) (fun _ s₃ => wpAny (model prog w) A (execs body env) (ForEnd g L I own (J (i + 1)) s') E s₃) E s') → (∀ h' tk' m' led', Fr g L h' m' → News g L h' led' → J n m' led' → Q .next { s₁ with heap := h', toks := tk' }) → ForR prog w A env g L m target body Q E J n xv s₁
theorem for_range {target iter : Expr} {body : List Stmt} {pos : Pos} {n : Nat} (J : Nat → (Str → Option Value) → List (Addr × Obj) → Prop) (F : Fr g L s.heap m) (hL : env.locals = L) (hh : A.handled = none) (hE : PassesOwn (model prog w) A env E)
    (h : wpAny (model prog w) A (eval iter env) (ForR prog w A env g L m target body Q E J n) E s)
    (ht : ∀ (s' : Shared) I v (Q' : Unit → Shared → Prop), Q' () s' → wpAny (model prog w) A (letOwnedTupleGo target (.ref I) v) Q' E s')
    (hs : ∀ x, foldedSetIterable iter env x = pure x) :
    wpAny (model prog w) A (exec (.For target iter body [] pos) env) Q E s := by
  subst hL
  refine For_invTF F (wpAny_mono h (fun xv s₁ h₁ => ?_) fun _ _ e => e) hs hE
  obtain ⟨r, b, t, u, v, led₁, rfl, F₁, N₁, hr, hsm, hn, hj, turn, done⟩ := h₁
  refine wpAny_pyIter_range hr hsm ?_
  refine ⟨_, _, _, n, _, _, m, led₁, J, rfl, range_walks hh 0 n, ?_, ?_, ?_, (by show IsRangeIter _ _ _ _ _; rw [hn]; simpa using Heap.get?_push_size _ rfl), F₁.push _, (fun p hp => ⟨Heap.get?_push_of_some _ (N₁ p hp).1, (N₁ p hp).2⟩),
    (fun i s' v Q' _ q => ht s' _ v Q' q), hj, ?_, ?_⟩
  · intro hm
    exact absurd F₁.ns.lt ((List.mem_singleton.mp hm) ▸ Nat.lt_irrefl _)
  · intro b hb
    rw [List.mem_singleton.mp hb]
    exact next_is_new F₁
  · intro p hp hI
    exact absurd (Heap.lt_size (N₁ p hp).1) ((List.mem_singleton.mp hI) ▸ Nat.lt_irrefl _)
  · intro i v m₁ news₁ s' own hi hP hJ hoff hown _ hlive hst₂ F₂ N₂
    have hIo : ∃ oI, (s₁.heap.objs.size, oI) ∈ own := ⟨_, hlive _ (.head _) (next_is_new F₁) _ hst₂⟩
    obtain ⟨t', rfl⟩ := hP
    rw [Int.zero_add]
    refine wpAny_mono (turn i t' s₁.heap.objs.size m₁ news₁ s' own hi hJ (fun p hp e => hoff p hp (by rw [e]; exact .head _)) (fun p hp => List.mem_singleton.mp (hown p hp)) hIo F₂
      (fun p hp => N₂ p ((List.mem_append.mp hp).elim (fun h => List.mem_append_right _ h) fun h => List.mem_append_left _ h))) (fun _ s₃ h₃ => wpAny_mono h₃ (fun f s₄ h₄ => ?_) fun _ _ e => e) fun _ _ e => e
    obtain ⟨rfl, h', tk', m', led', e, F', N', off, j⟩ := h₄
    exact ⟨rfl, h', tk', m', led', e, F', fun p hp => N' p ((List.mem_append.mp hp).elim (fun h => List.mem_append_right _ h) fun h => List.mem_append_left _ h), fun p hp z => off p hp (List.mem_singleton.mp z), j⟩
  · intro h' tk m' news' F' N' _ hJ
    exact done h' tk m' news' F' N' hJ

noncomputable def But (x : Str) (u : Option Value) (m : Str → Option Value) : Str → Option Value := fun z => if z = x then u else m z
theorem but_self (x : Str) (m : Str → Option Value) : m = fun z => if z = x then m x else m z := by
  funext z; by_cases h : z = x
  · simp [h]
  · simp [h]
theorem but_but (x : Str) (u v : Option Value) (m : Str → Option Value) : (fun z => if z = x then u else (fun z => if z = x then v else m z) z) = fun z => if z = x then u else m z := by
  funext z; by_cases h : z = x
  · simp [h]
  · simp [h]

/-- how a turn ends that stores no name -/
inductive ForEnd1 (g : Heap) (L I : Addr) (own : List (Addr × Obj)) (m : Str → Option Value) (R : List (Addr × Obj) → Prop) (s : Shared) (f : Flow) (s' : Shared) : Prop
  | mk : f = .next → ∀ h' tk' led', s' = { s with heap := h', toks := tk' } → Fr g L h' m → News g L h' (led' ++ own) → (∀ p ∈ led', p.1 ≠ I) → R led' → ForEnd1 g L I own m R s f s'
theorem ForEnd1.intro {g : Heap} {L I : Addr} {own led : List (Addr × Obj)} {R : List (Addr × Obj) → Prop} {s : Shared} {h' : Heap} {tk' : Nat} {m : Str → Option Value} (F : Fr g L h' m) (N : News g L h' led) (led' : List (Addr × Obj)) (h1 : ∀ p ∈ led' ++ own, p ∈ led) (h2 : ∀ p ∈ led', p.1 ≠ I) (j : R led') :
    ForEnd1 g L I own m R s .next { s with heap := h', toks := tk' } := ⟨rfl, h', tk', led', rfl, F, fun p hp => N p (h1 p hp), h2, j⟩

inductive ForL1 (prog : Program) (w : World) (A : Around) (env : Env) (g : Heap) (L : Addr) (m : Str → Option Value) (x : Str) (body : List Stmt) (Q : Flow → Shared → Prop) (E : Value → Shared → Prop) (R : Nat → List (Addr × Obj) → Prop) (vs : List Value) (xv : Value) (s₁ : Shared) : Prop
  | mk : ∀ ax led₁, xv = .ref ax → Fr g L s₁.heap m → News g L s₁.heap led₁ → s₁.heap.IsList ax vs.toArray → R 0 led₁ → (∀ i v I led' (s' : Shared) own, vs[i]? = some v → R i led' → (∀ p ∈ led', p.1 ≠ I) → (∀ p ∈ own, p.1 = I ∨ p.1 = ax) → (∃ oI, (I, oI) ∈ own) → Fr g L s'.heap (fun z => if z = x then some v else m z) → News g L s'.heap (led' ++ own) →       wpAny (model prog w) A (execs body env) (ForEnd1 g L I own (fun z => if z = x then some v else m z) (R (i + 1)) s') E s') → (∀ h' tk' u led', Fr g L h' (fun z => if z = x then u else m z) → News g L h' led' → R vs.length led' → Q .next { s₁ with heap := h', toks := tk' }) → ForL1 prog w A env g L m x body Q E R vs xv s₁
/-- a loop over a list whose target is a local name and whose body stores no other name -/
theorem for_list1 {x : Str} {px : Pos} {iter : Expr} {body : List Stmt} {pos : Pos} {vs : List Value} (R : Nat → List (Addr × Obj) → Prop) (F : Fr g L s.heap m) (hL : env.locals = L) (hh : A.handled = none) (hE : PassesOwn (model prog w) A env E)
    (hx : env.kindOf x = some .local) (hp : (env.scope.kind == .class || (env.scope.kind == .module && env.locals != env.globals)) = false)
    (h : wpAny (model prog w) A (eval iter env) (ForL1 prog w A env g L m x body Q E R vs) E s)
    (hs : ∀ x, foldedSetIterable iter env x = pure x) :
    wpAny (model prog w) A (exec (.For (.Name x px) iter body [] pos) env) Q E s := by
  subst hL
  refine for_list (vs := vs) (fun i m₁ led => (∃ u, m₁ = fun z => if z = x then u else m z) ∧ R i led) F rfl hh hE (wpAny_mono h (fun xv s₁ h₁ => ?_) fun _ _ e => e) (fun s' I v Q' _ q => wpAny_pure q) hs
  obtain ⟨ax, led₁, rfl, F₁, N₁, hl, hr, turn, done⟩ := h₁
  refine ⟨ax, led₁, rfl, F₁, N₁, hl, ⟨⟨m x, but_self x m⟩, hr⟩, ?_, fun h' tk' m' led' F' N' j => ?_⟩
  · rintro i v I m₁ led' s' own hv ⟨⟨u, rfl⟩, hR⟩ off hown hIo F₂ N₂
    refine wpAny_assign_Name (wpAny_storeName_local hx F₂.ns (fun h₂ hn₂ hs₂ => ?_) hp)
    have F₃ := F₂.set hn₂ hs₂
    rw [but_but] at F₃
    have N₃ := N₂.set hs₂
    refine wpAny_mono (turn i v I led' { s' with heap := h₂, toks := s'.toks + 1 } own hv hR off hown hIo F₃ N₃) (fun f s₃ h₃ => ?_) fun _ _ e => e
    obtain ⟨rfl, h', tk', led'', rfl, F', N', off', hR'⟩ := h₃
    exact ⟨rfl, h', tk', _, led'', rfl, F', N', off', ⟨⟨_, rfl⟩, hR'⟩⟩
  · obtain ⟨⟨u, rfl⟩, hR⟩ := j
    exact done h' tk' u led' F' N' hR

inductive ForR1 (prog : Program) (w : World) (A : Around) (env : Env) (g : Heap) (L : Addr) (m : Str → Option Value) (x : Str) (body : List Stmt) (Q : Flow → Shared → Prop) (E : Value → Shared → Prop) (R : Nat → List (Addr × Obj) → Prop) (n : Nat) (xv : Value) (s₁ : Shared) : Prop
  | mk : ∀ r b t u v led₁, xv = .ref r → Fr g L s₁.heap m → News g L s₁.heap led₁ → IsRange s₁.heap r 0 b 1 t u v → Builtin.Range.small 0 b 1 = true → Builtin.Range.rangeSize 0 b 1 = ((n : Nat) : Int) → R 0 led₁ → (∀ (i : Nat) t I led' (s' : Shared) own, i < n → R i led' → (∀ p ∈ led', p.1 ≠ I) → (∀ p ∈ own, p.1 = I) → (∃ oI, (I, oI) ∈ own) → Fr g L s'.heap (fun z => if z = x then some (.int (i : Int) t) else m z) → News g L s'.heap (led' ++ own) →       wpAny (model prog w) A (execs body env) (ForEnd1 g L I own (fun z => if z = x then some (.int (i : Int) t) else m z) (R (i + 1)) s') E s') → (∀ h' tk' u led', Fr g L h' (fun z => if z = x then u else m z) → News g L h' led' → R n led' → Q .next { s₁ with heap := h', toks := tk' }) → ForR1 prog w A env g L m x body Q E R n xv s₁
theorem for_range1 {x : Str} {px : Pos} {iter : Expr} {body : List Stmt} {pos : Pos} {n : Nat} (R : Nat → List (Addr × Obj) → Prop) (F : Fr g L s.heap m) (hL : env.locals = L) (hh : A.handled = none) (hE : PassesOwn (model prog w) A env E)
    (hx : env.kindOf x = some .local) (hp : (env.scope.kind == .class || (env.scope.kind == .module && env.locals != env.globals)) = false)
    (h : wpAny (model prog w) A (eval iter env) (ForR1 prog w A env g L m x body Q E R n) E s)
    (hs : ∀ x, foldedSetIterable iter env x = pure x) :
    wpAny (model prog w) A (exec (.For (.Name x px) iter body [] pos) env) Q E s := by
  subst hL
  refine for_range (n := n) (fun i m₁ led => (∃ u, m₁ = fun z => if z = x then u else m z) ∧ R i led) F rfl hh hE (wpAny_mono h (fun xv s₁ h₁ => ?_) fun _ _ e => e) (fun s' I v Q' q => wpAny_pure q) hs
  obtain ⟨r, b, t, u, v, led₁, rfl, F₁, N₁, hr, hsm, hn, hR0, turn, done⟩ := h₁
  refine ⟨r, b, t, u, v, led₁, rfl, F₁, N₁, hr, hsm, hn, ⟨⟨m x, but_self x m⟩, hR0⟩, ?_, fun h' tk' m' led' F' N' j => ?_⟩
  · rintro i t' I m₁ led' s' own hi ⟨⟨u, rfl⟩, hR⟩ off hown hIo F₂ N₂
    refine wpAny_assign_Name (wpAny_storeName_local hx F₂.ns (fun h₂ hn₂ hs₂ => ?_) hp)
    have F₃ := F₂.set hn₂ hs₂
    rw [but_but] at F₃
    refine wpAny_mono (turn i t' I led' { s' with heap := h₂, toks := s'.toks + 1 } own hi hR off hown hIo F₃ (N₂.set hs₂)) (fun f s₃ h₃ => ?_) fun _ _ e => e
    obtain ⟨rfl, h', tk', led'', rfl, F', N', off', hR'⟩ := h₃
    exact ⟨rfl, h', tk', _, led'', rfl, F', N', off', ⟨⟨_, rfl⟩, hR'⟩⟩
  · obtain ⟨⟨u, rfl⟩, hR⟩ := j
    exact done h' tk' u led' F' N' hR
end
theorem ne_via {x d c : Nat} {o : Obj} {led : List (Addr × Obj)} (l : ∀ p ∈ led, p.1 < d) (hm : (c, o) ∈ led) (hx : d ≤ x) : x ≠ c := fun e => by
  have := l _ hm
  have h2 : c < d := this
  omega
theorem forEnd_push {g : Heap} {L I x d fa : Addr} {ox od of0 oI : Obj} {new mid imm own : List (Addr × Obj)} {vs : List Value} {v : Value} {nn : Nat} {h' : Heap} {tk' : Nat} {m : Str → Option Value} {R : List (Addr × Obj) → Prop} {s : Shared}
    (F : Fr g L h' m) (N : News g L h' ((x, ox) :: (d, od) :: (new ++ (fa, { cls := .type "list", data := .seq (vs.toArray.push v) nn }) :: (mid ++ (imm ++ own))))) (lt1 : ∀ q ∈ new ++ (fa, of0) :: (mid ++ (imm ++ own)), q.1 < d) (lt2 : d < x)
    (off : ∀ p ∈ (fa, of0) :: (mid ++ imm), p.1 ≠ I) (hI : (I, oI) ∈ own) (hnI : ∀ p ∈ new, p.1 ≠ I)
    (hR : fa ≠ x → fa ≠ d → R ((fa, listOf (vs ++ [v]).toArray nn) :: (mid ++ ((x, ox) :: (d, od) :: (new ++ imm))))) : ForEnd1 g L I own m R s .next { s with heap := h', toks := tk' } := by
  have ltI : I < d := lt1 (I, oI) (List.mem_append_right _ (List.Mem.tail _ (List.mem_append_right _ (List.mem_append_right _ hI))))
  have ltF : fa < d := lt1 (fa, of0) (List.mem_append_right _ (List.Mem.head _))
  have nd : d ≠ I := Nat.ne_of_gt ltI
  have nx : x ≠ I := Nat.ne_of_gt (Nat.lt_trans ltI lt2)
  rw [List.push_toArray] at N
  refine ForEnd1.intro F N _ (fun q hq => ?_) (fun q hq => ?_) (hR (Nat.ne_of_lt (Nat.lt_trans ltF lt2)) (Nat.ne_of_lt ltF))
  · simp only [List.cons_append, List.append_assoc, List.mem_cons, List.mem_append] at hq ⊢
    rcases hq with h | h | h | h | h | h | h <;> simp [h]
  · simp only [List.mem_cons, List.mem_append] at hq
    rcases hq with h | h | h | h | h | h
    · rw [h]; exact off (fa, of0) (List.Mem.head _)
    · exact off q (List.Mem.tail _ (List.mem_append_left _ h))
    · rw [h]; exact nx
    · rw [h]; exact nd
    · exact hnI q h
    · exact off q (List.Mem.tail _ (List.mem_append_right _ h))
theorem cells6 {cm : Str → Option Value} {n1 n2 n3 n4 n5 n6 : Str} {c1 c2 c3 c4 c5 c6 : Addr} {cells : List (Addr × Obj)} (x : CellsAre cm [(n1, c1), (n2, c2), (n3, c3), (n4, c4), (n5, c5), (n6, c6)] cells) :
    ∃ o1 o2 o3 o4 o5 o6, cells = [(c1, o1), (c2, o2), (c3, o3), (c4, o4), (c5, o5), (c6, o6)] ∧ o1.data = .cell (cm n1) ∧ o2.data = .cell (cm n2) ∧ o3.data = .cell (cm n3) ∧ o4.data = .cell (cm n4) ∧ o5.data = .cell (cm n5) ∧ o6.data = .cell (cm n6) := by
  cases x with | cons h1 r => cases r with | cons h2 r => obtain ⟨o3, o4, o5, o6, rfl, a, b, c, d⟩ := r.four; exact ⟨_, _, o3, o4, o5, o6, rfl, h1, h2, a, b, c, d⟩
end

section
open PySem PySem.W PyProof.Rows PyProof.Rows.LCg PySem.Calls
set_option maxRecDepth 100000
noncomputable abbrev PR := PySem.Challenge.rw_nt0558_01.row.prog
noncomputable abbrev LO := looseW VV [Str.ofString "HALF"]
noncomputable abbrev ATh (hd : Option Value) (dp un : Nat) (gd : Option (List Code)) (env : Env) (outer : List Env) : Around := { handled := hd, depth := dp, frames := some (env :: outer), guards := gd, units := un }
noncomputable abbrev AT (dp un : Nat) (gd : Option (List Code)) (env : Env) (outer : List Env) : Around := { handled := none, depth := dp, frames := some (env :: outer), guards := gd, units := un }

structure Pln where
  w : Int
  h : Int
  rows : List (List Int)
inductive PL (O : Look) (v : Value) (p : Pln) : Prop
  | mk : ∀ (a d : Addr) (e1 e2 e3 : Int) (t1 t2 t3 t4 t5 : Tok) (rv : Value) (n : Nat), v = .ref a → O a (instObj 77 d) → O d (dictOf [⟨e1, .str (Str.ofString "width") t1, .int p.w t2⟩, ⟨e2, .str (Str.ofString "height") t3, .int p.h t4⟩, ⟨e3, .str (Str.ofString "rows") t5, rv⟩] n) → RW O rv p.rows → PL O v p
theorem PL.mono : Mono PL := by
  rintro O O' v p k ⟨a, d, e1, e2, e3, t1, t2, t3, t4, t5, rv, n, rfl, h1, h2, h3⟩
  exact ⟨a, d, e1, e2, e3, t1, t2, t3, t4, t5, rv, n, rfl, k _ _ h1, k _ _ h2, RW.mono _ _ _ _ k h3⟩
noncomputable abbrev PLS := LL PL
theorem PLS.mono : Mono PLS := LL.mono PL.mono
structure Pic where
  model : Str
  prec : Int
  planes : List Pln
inductive PC (O : Look) (v : Value) (p : Pic) : Prop
  | mk : ∀ (a d : Addr) (e1 e2 e3 : Int) (t1 t2 t3 t4 t5 : Tok) (rv : Value) (n : Nat), v = .ref a → O a (instObj 115 d) → O d (dictOf [⟨e1, .str (Str.ofString "model") t1, .str p.model t2⟩, ⟨e2, .str (Str.ofString "precision") t3, .int p.prec t4⟩, ⟨e3, .str (Str.ofString "planes") t5, rv⟩] n) → PLS O rv p.planes → PC O v p
theorem PC.mono : Mono PC := by
  rintro O O' v p k ⟨a, d, e1, e2, e3, t1, t2, t3, t4, t5, rv, n, rfl, h1, h2, h3⟩
  exact ⟨a, d, e1, e2, e3, t1, t2, t3, t4, t5, rv, n, rfl, k _ _ h1, k _ _ h2, PLS.mono _ _ _ _ k h3⟩
inductive TU (O : Look) (v : Value) (p : Str × Str × Int) : Prop
  | mk : ∀ (a d : Addr) (e1 e2 e3 : Int) (t1 t2 t3 t4 t5 t6 : Tok) (n : Nat), v = .ref a → O a (instObj 233 d) → O d (dictOf [⟨e1, .str (Str.ofString "source") t1, .str p.1 t2⟩, ⟨e2, .str (Str.ofString "goal") t3, .str p.2.1 t4⟩, ⟨e3, .str (Str.ofString "precision") t5, .int p.2.2 t6⟩] n) → TU O v p
theorem TU.mono : Mono TU := by
  rintro O O' v p k ⟨a, d, e1, e2, e3, t1, t2, t3, t4, t5, t6, n, rfl, h1, h2⟩
  exact ⟨a, d, e1, e2, e3, t1, t2, t3, t4, t5, t6, n, rfl, k _ _ h1, k _ _ h2⟩
/-- a tuple of ints -/
inductive TP (O : Look) (v : Value) (xs : List Int) : Prop
  | mk : ∀ (a : Addr) (vs : List Value) (n : Nat), v = .ref a → O a { cls := .type "tuple", data := .seq vs.toArray n } → IntsAre vs xs → TP O v xs
theorem TP.mono : Mono TP := by
  rintro O O' v xs k ⟨a, vs, n, rfl, h1, h2⟩
  exact ⟨a, vs, n, rfl, k _ _ h1, h2⟩

noncomputable def PlnOk (p : Pln) : Prop := p.h = (p.rows.length : Int) ∧ (∀ r ∈ p.rows, (r.length : Int) = p.w) ∧ 1 ≤ p.w ∧ p.w ≤ 3 ∧ 1 ≤ p.h ∧ p.h ≤ 2
theorem item_of {α : Type} {P : Look → Value → α → Prop} {O : Look} {vs : List Value} {xs : List α} {i : Nat} {v : Value} (h2 : vs.length = xs.length) (h3 : ∀ (i : Nat) v x, vs[i]? = some v → xs[i]? = some x → P O v x) (hv : vs[i]? = some v) :
    ∃ x, xs[i]? = some x ∧ x ∈ xs ∧ P O v x := by
  have hi : i < vs.length := by
    rcases Nat.lt_or_ge i vs.length with h | h
    · exact h
    · rw [List.getElem?_eq_none h] at hv; cases hv
  have e : xs[i]? = some (xs[i]'(h2 ▸ hi)) := List.getElem?_eq_getElem _
  exact ⟨_, e, List.getElem_mem _, h3 i v _ hv e⟩
theorem PlnOk.elim {p : Pln} (h : PlnOk p) {C : Prop} (kC : p.h = (p.rows.length : Int) → (∀ r ∈ p.rows, (r.length : Int) = p.w) → 1 ≤ p.w → p.w ≤ 3 → 1 ≤ p.h → p.h ≤ 2 → C) : C := kC h.1 h.2.1 h.2.2.1 h.2.2.2.1 h.2.2.2.2.1 h.2.2.2.2.2
theorem item_elim {α : Type} {P : Look → Value → α → Prop} {O : Look} {vs : List Value} {xs : List α} {i : Nat} {v : Value} (h2 : vs.length = xs.length) (h3 : ∀ (i : Nat) v x, vs[i]? = some v → xs[i]? = some x → P O v x) (hv : vs[i]? = some v)
    {C : Prop} (kC : ∀ x, xs[i]? = some x → x ∈ xs → P O v x → C) : C := by
  obtain ⟨x, a, b, c⟩ := item_of h2 h3 hv
  exact kC x a b c
theorem IL.elim' {O : Look} {v : Value} {xs : List Int} (h : IL O v xs) {C : Prop} (kC : ∀ (a : Addr) (vs : List Value) (n : Nat), v = .ref a → O a (listOf vs.toArray n) → IntsAre vs xs → C) : C := by
  obtain ⟨a, vs, n, e, h1, h2⟩ := IL.open h
  exact kC a vs n e h1 h2
theorem item_at {prog : Program} {w : World} {A : Around} {E : Value → Shared → Prop} {s : Shared} {value slice : Expr} {l : Addr} {vs : List Value} {n : Nat} {k : Int} {u : Tok} {v : Value} {Q : Value → Shared → Prop}
    (hl : s.heap.get? l = some (listOf vs.toArray n)) (h0 : 0 ≤ k) (hhi : k < 2 ^ 63) (hx : vs[k.toNat]? = some v) (h : Q v s)
    (hs : subscripted slice false (.ref l) (.int k u) = operate [.ref l, .int k u] (getItem (.ref l) (.int k u))) : wpAny (model prog w) A (subscriptTail value slice (.ref l) (.int k u)) Q E s :=
  have hl' : s.heap.IsList l vs.toArray := ⟨_, hl, rfl, _, rfl⟩
  tail_any hl'.typeIs slot_list_getitem.lookup (wpAny_getItem_list hl' h0 hhi (by simpa using hx) h) hs
theorem item_base {prog : Program} {w : World} {A : Around} {E : Value → Shared → Prop} {s : Shared} {value slice : Expr} {g : Heap} {L : Addr} {m : Str → Option Value} {l : Addr} {vs : List Value} {n : Nat} {ki : Int} {u : Tok} {v : Value} {Q : Value → Shared → Prop}
    (F : Fr g L s.heap m) (hl : g.get? l = some (listOf vs.toArray n)) (h0 : 0 ≤ ki) (hhi : ki < 2 ^ 63) (hx : vs[ki.toNat]? = some v) (h : Q v s)
    (hs : subscripted slice false (.ref l) (.int ki u) = operate [.ref l, .int ki u] (getItem (.ref l) (.int ki u))) : wpAny (model prog w) A (subscriptTail value slice (.ref l) (.int ki u)) Q E s :=
  item_at (F.keep _ _ hl) h0 hhi hx h hs
theorem item_led {prog : Program} {w : World} {A : Around} {E : Value → Shared → Prop} {s : Shared} {value slice : Expr} {g : Heap} {L : Addr} {led : List (Addr × Obj)} {l : Addr} {vs : List Value} {n : Nat} {ki : Int} {u : Tok} {v : Value} {Q : Value → Shared → Prop}
    (N : News g L s.heap led) (hm : (l, listOf vs.toArray n) ∈ led) (h0 : 0 ≤ ki) (hhi : ki < 2 ^ 63) (hx : vs[ki.toNat]? = some v) (h : Q v s)
    (hs : subscripted slice false (.ref l) (.int ki u) = operate [.ref l, .int ki u] (getItem (.ref l) (.int ki u))) : wpAny (model prog w) A (subscriptTail value slice (.ref l) (.int ki u)) Q E s :=
  item_at (N _ hm).1 h0 hhi hx h hs
theorem bump {n b c a R : Nat} (h : n + b < R) (k : Nat.ble (c + a) b = true) : n + c + a < R := by have := Nat.le_of_ble_eq_true k; omega
theorem bump0 {n b a R : Nat} (h : n + b < R) (k : Nat.ble a b = true) : n + a < R := by have := Nat.le_of_ble_eq_true k; omega
theorem gsub_nil {H g : Heap} (G : GSub H g ((List.nil : List (Addr × Obj)).map (·.1))) : ∀ a o, H.get? a = some o → g.get? a = some o := fun a o e => G a o e (by simp)
noncomputable abbrev HG (h : Heap) : Look := fun a o => h.get? a = some o
end

section
open PySem PySem.W PyProof.Rows PyProof.Rows.LCg PySem.Calls
set_option maxRecDepth 100000
set_option maxHeartbeats 4000000
noncomputable def dI (xs : List Int) : PyData := .list (xs.map .int)
noncomputable def dRW (r : List (List Int)) : PyData := .list (r.map dI)
noncomputable def dPRS (p : List (List (List Int))) : PyData := .list (p.map dRW)
theorem reads_all {α : Type} {P : Look → Value → α → Prop} {h : Heap} {f : α → PyData} (hP : ∀ v x, P (HG h) v x → ∃ as, Reads h v (f x) as) :
    ∀ {vs : List Value} {xs : List α}, vs.length = xs.length → (∀ (i : Nat) v x, vs[i]? = some v → xs[i]? = some x → P (HG h) v x) → ∃ as, ReadsAll h vs (xs.map f) as
  | [], [], _, _ => ⟨_, .nil⟩
  | v :: vs, x :: xs, hl, k => by
    obtain ⟨as, a⟩ := hP v x (k 0 v x rfl rfl)
    obtain ⟨bs, b⟩ := reads_all hP (vs := vs) (xs := xs) (by simpa using hl) fun i v' x' e1 e2 => k (i + 1) v' x' (by simpa using e1) (by simpa using e2)
    exact ⟨_, .cons a b⟩
  | [], _ :: _, hl, _ => by simp at hl
  | _ :: _, [], hl, _ => by simp at hl
theorem LL.reads {α : Type} {P : Look → Value → α → Prop} {h : Heap} {f : α → PyData} (hP : ∀ v x, P (HG h) v x → ∃ as, Reads h v (f x) as) {v : Value} {xs : List α} (x : LL P (HG h) v xs) : ∃ as, Reads h v (.list (xs.map f)) as := by
  obtain ⟨a, vs, n, rfl, h1, h2, h3⟩ := x
  obtain ⟨as, r⟩ := reads_all hP h2 h3
  exact ⟨_, .list h1 rfl rfl (by simpa using r)⟩
theorem reads_I {h : Heap} (v : Value) (xs : List Int) (x : IL (HG h) v xs) : ∃ as, Reads h v (dI xs) as := LL.reads (f := .int) (fun v x ⟨t, e⟩ => by subst e; exact ⟨_, .int x t⟩) x
theorem reads_RW {h : Heap} (v : Value) (xs : List (List Int)) (x : RW (HG h) v xs) : ∃ as, Reads h v (dRW xs) as := LL.reads reads_I x
theorem reads_PRS {h : Heap} (v : Value) (xs : List (List (List Int))) (x : PRS (HG h) v xs) : ∃ as, Reads h v (dPRS xs) as := LL.reads reads_RW x
/-- data that may be compared with itself -/
structure Fine (k : Nat) (d : PyData) : Prop where
  lay : d.canLay0 = true
  deep : d.depth ≤ k
  self : PyData.eqv d d = true
theorem fine_all {α : Type} {k : Nat} {f : α → PyData} (hf : ∀ x, Fine k (f x)) : ∀ xs : List α, PyData.canLayAll0 (xs.map f) = true ∧ PyData.depthAll (xs.map f) ≤ k ∧ PyData.eqvAll (xs.map f) (xs.map f) = true
  | [] => by simp [PyData.canLayAll0, PyData.depthAll, PyData.eqvAll]
  | x :: xs => by
    obtain ⟨a, b, c⟩ := fine_all hf xs
    have y := hf x
    refine ⟨?_, ?_, ?_⟩
    · simp only [List.map_cons, PyData.canLayAll0, y.lay, a, Bool.and_self]
    · simp only [List.map_cons, PyData.depthAll]; exact Nat.max_le.mpr ⟨y.deep, b⟩
    · simp only [List.map_cons, PyData.eqvAll, y.self, c, Bool.and_self]
theorem Fine.list {α : Type} {k : Nat} {f : α → PyData} (hf : ∀ x, Fine k (f x)) (xs : List α) : Fine (k + 1) (.list (xs.map f)) := by
  obtain ⟨a, b, c⟩ := fine_all hf xs
  exact ⟨by simpa only [PyData.canLay0] using a, by simp only [PyData.depth]; omega, by simpa only [PyData.eqv] using c⟩
theorem fine_I (xs : List Int) : Fine 1 (dI xs) := Fine.list (k := 0) (fun x => ⟨by simp only [PyData.canLay0], by simp only [PyData.depth]; exact Nat.le_refl _, by simp [PyData.eqv]⟩) xs
theorem fine_RW (xs : List (List Int)) : Fine 2 (dRW xs) := Fine.list fine_I xs
theorem fine_PRS (xs : List (List (List Int))) : Fine 3 (dPRS xs) := Fine.list fine_RW xs
section
variable {prog : Program} {w : World} {A : Around} {E : Value → Shared → Prop} {s : Shared} {a b : Value} {d : PyData} {k : Nat} {as bs : List Addr} {Q : Value → Shared → Prop}
theorem Fine.shaped {k : Nat} {d : PyData} (x : Fine k d) (hk : k ≤ 64) : PySem.SeqAt.shaped d = true := Bool.and_eq_true_iff.mpr ⟨x.lay, decide_eq_true (Nat.le_trans x.deep hk)⟩
theorem eq_fine (x : Fine k d) (ra : ∃ as, Reads s.heap a d as) (rb : ∃ bs, Reads s.heap b d bs) (hk : k ≤ 64) (hu : A.units + 64 < cLine) (h : Q (.bool true) s) : wpAny (model prog w) A (compareOp .Eq a b) Q E s := by
  obtain ⟨as, ra⟩ := ra
  obtain ⟨bs, rb⟩ := rb
  exact eq_dataH ra rb (x.shaped hk) (x.shaped hk) hu (by rw [x.self]; exact h)
theorem ne_fine (x : Fine k d) (ra : ∃ as, Reads s.heap a d as) (rb : ∃ bs, Reads s.heap b d bs) (hk : k ≤ 64) (hu : A.units + 64 < cLine) (h : Q (.bool false) s) : wpAny (model prog w) A (compareOp .NotEq a b) Q E s := by
  obtain ⟨as, ra⟩ := ra
  obtain ⟨bs, rb⟩ := rb
  exact ne_dataH ra rb (x.shaped hk) (x.shaped hk) hu (by rw [x.self]; exact h)
theorem ne_I {xs : List Int} (x : IL (HG s.heap) a xs) (y : IL (HG s.heap) b xs) (hu : A.units + 64 < cLine) (h : Q (.bool false) s) : wpAny (model prog w) A (compareOp .NotEq a b) Q E s := ne_fine (fine_I xs) (reads_I _ _ x) (reads_I _ _ y) (by decide) hu h
theorem eq_RW {xs : List (List Int)} (x : RW (HG s.heap) a xs) (y : RW (HG s.heap) b xs) (hu : A.units + 64 < cLine) (h : Q (.bool true) s) : wpAny (model prog w) A (compareOp .Eq a b) Q E s := eq_fine (fine_RW xs) (reads_RW _ _ x) (reads_RW _ _ y) (by decide) hu h
theorem ne_RW {xs : List (List Int)} (x : RW (HG s.heap) a xs) (y : RW (HG s.heap) b xs) (hu : A.units + 64 < cLine) (h : Q (.bool false) s) : wpAny (model prog w) A (compareOp .NotEq a b) Q E s := ne_fine (fine_RW xs) (reads_RW _ _ x) (reads_RW _ _ y) (by decide) hu h
theorem eq_PRS {xs : List (List (List Int))} (x : PRS (HG s.heap) a xs) (y : PRS (HG s.heap) b xs) (hu : A.units + 64 < cLine) (h : Q (.bool true) s) : wpAny (model prog w) A (compareOp .Eq a b) Q E s := eq_fine (fine_PRS xs) (reads_PRS _ _ x) (reads_PRS _ _ y) (by decide) hu h
theorem ne_PRS {xs : List (List (List Int))} (x : PRS (HG s.heap) a xs) (y : PRS (HG s.heap) b xs) (hu : A.units + 64 < cLine) (h : Q (.bool false) s) : wpAny (model prog w) A (compareOp .NotEq a b) Q E s := ne_fine (fine_PRS xs) (reads_PRS _ _ x) (reads_PRS _ _ y) (by decide) hu h
end

noncomputable def ZipSt (z TI TO i1 i2 l1 l2 : Addr) (xs ys : List Value) (i : Nat) (h : Heap) : Prop :=
  IsZip h z TI TO .none ∧ IsPair h TI (.ref i1) (.ref i2) ∧ (∃ a b, IsPair h TO a b) ∧ h.IsListIter i1 l1 i ∧ h.IsListIter i2 l2 i ∧ h.IsList l1 xs.toArray ∧ h.IsList l2 ys.toArray
/-- how the walk of zip(l1, l2) ends -/
inductive ZipFrom (g : Heap) (L : Addr) (m : Str → Option Value) (led : List (Addr × Obj)) (s : Shared) (xs ys : List Value) : Value → Shared → Prop
  | mk : ∀ (h : Heap) (tk : Nat) (z TI TO i1 i2 l1 l2 : Addr), Fr g L h m → News g L h led → ZipApart z TI TO i1 i2 l1 l2 → ZipSt z TI TO i1 i2 l1 l2 xs ys 0 h →
    (∀ b ∈ [z, TI, TO, i1, i2, l1, l2], b ≠ L) → (∀ b ∈ [z, TO, i1, i2], g.get? b = none ∧ ∀ p ∈ led, p.1 ≠ b) → ZipFrom g L m led s xs ys (.ref z) { s with heap := h, toks := tk }
theorem ZipFrom.re {g : Heap} {L : Addr} {m : Str → Option Value} {led : List (Addr × Obj)} {s : Shared} {xs ys : List Value} {v : Value} {s₁ : Shared} {h0 : Heap} {tk0 : Nat} (x : ZipFrom g L m led s xs ys v s₁) : ZipFrom g L m led { s with heap := h0, toks := tk0 } xs ys v s₁ := by
  obtain ⟨h, tk, z, TI, TO, i1, i2, l1, l2, F₁, N₁, D, st, nL, nw⟩ := x
  exact .mk h tk z TI TO i1 i2 l1 l2 F₁ N₁ D st nL nw
theorem zip_call {prog : Program} {w : World} {A : Around} {E : Value → Shared → Prop} {s₀ : Shared} {g h : Heap} {L : Addr} {m : Str → Option Value} {led : List (Addr × Obj)} {l1 l2 : Addr} {xs ys : List Value} {tk : Nat} (F : Fr g L h m) (N : News g L h led)
    (hl1 : h.IsList l1 xs.toArray) (hl2 : h.IsList l2 ys.toArray) (n1 : l1 ≠ L) (n2 : l2 ≠ L) :
    wpAny (model prog w) A (call (.type "zip") [.ref l1, .ref l2]) (ZipFrom g L m led s₀ xs ys) E { s₀ with heap := h, toks := tk } := by
  have b1 : l1 < h.objs.size := by obtain ⟨_, e, _⟩ := hl1; exact Heap.lt_size e
  have b2 : l2 < h.objs.size := by obtain ⟨_, e, _⟩ := hl2; exact Heap.lt_size e
  have bL := F.ns.lt
  refine call_zip_2 hl1 hl2 fun h' hz hTI hTO hi1 hi2 hsz hk => ?_
  have new : ∀ k, g.get? (h.objs.size + k) = none ∧ ∀ p ∈ led, p.1 ≠ h.objs.size + k := fun k => ⟨ktu_new F (Nat.le_add_right _ _), fun p hp => ktu_ne k (Heap.lt_size (N p hp).1)⟩
  refine .mk h' tk _ _ _ _ _ l1 l2 (F.keeps hk) (N.grown hk) (ktu_apart _ _ _ b1 b2) ⟨hz, hTI, ⟨_, _, hTO⟩, hi1, hi2, hl1.at fun o e => hk l1 o e, hl2.at fun o e => hk l2 o e⟩ (fun b hb e => ?_) (fun b hb => ?_)
  · simp only [List.mem_cons, List.not_mem_nil, or_false] at hb
    rcases hb with r | r | r | r | r | r | r
    · exact ktu_ne 4 bL (e.symm.trans r)
    · exact ktu_ne 2 bL (e.symm.trans r)
    · exact ktu_ne 3 bL (e.symm.trans r)
    · exact ktu_ne 0 bL (e.symm.trans r)
    · exact ktu_ne 1 bL (e.symm.trans r)
    · exact n1 (r.symm.trans e)
    · exact n2 (r.symm.trans e)
  · simp only [List.mem_cons, List.not_mem_nil, or_false] at hb
    rcases hb with rfl | rfl | rfl | rfl
    · exact new 4
    · exact new 3
    · exact new 0
    · exact new 1

section
variable {prog : Program} {w : World} {A : Around} {env : Env} {s : Shared} {g : Heap} {L : Addr} {m : Str → Option Value} {led : List (Addr × Obj)}

/-- a loop over a zip whose turns change nothing that stood -/
theorem for_zip0 {a b : Str} {pa pb tp pos : Pos} {kk : Nat} {iter : Expr} {body : List Stmt} {Q : Flow → Shared → Prop} {E : Value → Shared → Prop} (F : Fr g L s.heap m) (N : News g L s.heap led) (hL : env.locals = L) (hh : A.handled = none) (hE : PassesOwn (model prog w) A env E)
    (hab : b ≠ a) (ha : env.kindOf a = some .local) (hb : env.kindOf b = some .local) (hp : (env.scope.kind == .class || (env.scope.kind == .module && env.locals != env.globals)) = false)
    (hit : wpAny (model prog w) A (eval iter env) (fun xv s₁ => ∃ led xs ys, ZipFrom g L m led s xs ys xv s₁ ∧ xs.length = ys.length ∧
      (∀ (i : Nat) x y h tk led', xs[i]? = some x → ys[i]? = some y → (∀ p ∈ led, p ∈ led') → Fr g L h (fun z => if z = b then some y else if z = a then some x else m z) → News g L h led' →
        wpAny (model prog w) A (execs body env) (fun f s' => f = .next ∧ ∃ h' tk', s' = { s with heap := h', toks := tk' } ∧ Fr g L h' (fun z => if z = b then some y else if z = a then some x else m z) ∧ News g L h' led') (fun _ _ => False) { s with heap := h, toks := tk }) ∧
      ∀ u v h' tk', Fr g L h' (fun z => if z = b then v else if z = a then u else m z) → News g L h' led → Q .next { s with heap := h', toks := tk' }) (fun _ _ => False) s)
    (hs : ∀ x, foldedSetIterable iter env x = pure x) :
    wpAny (model prog w) A (exec (.For (.Tuple [.Name a pa, .Name b pb] kk tp) iter body [] pos) env) Q E s := by
  subst hL
  refine For_turns F (wpAny_mono hit (fun xv s₁ hz => ?_) fun _ _ e => e.elim) hs hE
  obtain ⟨led, xs, ys, hz, hlen, turn, k⟩ := hz
  obtain ⟨h, tk, z, TI, TO, i1, i2, l1, l2, F₁, N₁, D, st, nL, nw⟩ := hz
  refine wpAny_pyIter_zip st.1 ?_
  have W := KTurns.ofWalksU (elts := [.Name a pa, .Name b pb]) (k := kk) (pos := tp) (WalksT.zip2 (prog := prog) (w := w) hh z TI TO i1 i2 l1 l2 D xs.toArray ys.toArray).toU
  have hn : min xs.toArray.size ys.toArray.size = xs.length := by rw [List.size_toArray, List.size_toArray]; omega
  rw [hn] at W
  refine ⟨z, _, _, xs.length, _, _, _, m, led, fun _ m₁ l => l = led ∧ ∃ u v, m₁ = fun q => if q = b then v else if q = a then u else m q, rfl, W, fun hm => nL _ hm rfl, fun b hb => (nw b hb).1, fun p hp hm => (nw _ hm).2 p hp rfl, st, F₁, N₁,
    ⟨rfl, m a, m b, ?_⟩, ?_, ?_⟩
  · funext q
    by_cases q1 : q = b
    · rw [if_pos q1, q1]
    · by_cases q2 : q = a
      · rw [if_neg q1, if_pos q2, q2]
      · rw [if_neg q1, if_neg q2]
  · rintro i v m₁ led₁ h₁ tk₁ own hi ⟨T, vals, rfl, ⟨x, y, hx, hy, rfl⟩, hT⟩ ⟨rfl, u, v', rfl⟩ hoff hown hat hfull hst F₂ N₂
    refine kcp_assign hh hT ha hb hp F₂.ns fun h₂ tk₂ hn₂ hk₂ => ?_
    have F₃ : Fr g env.locals h₂ (fun z => if z = b then some y else if z = a then some x else m z) := by
      refine ⟨?_, fun c o e => hk₂ c o (fun z => ?_) (F₂.keep c o e), F₂.above⟩
      · have e : (fun z => if z = b then some y else if z = a then some x else (fun q => if q = b then v' else if q = a then u else m q) z) = fun z => if z = b then some y else if z = a then some x else m z := by
          funext q
          by_cases q1 : q = b
          · simp [q1]
          · by_cases q2 : q = a
            · simp [q2]
            · simp [q1, q2]
        rw [← e]; exact hn₂
      · exact ground_off F₂ c o e (by rw [z]; exact List.mem_singleton.mpr rfl)
    have N₃ : News g env.locals h₂ (own ++ led₁) := fun p hp => ⟨hk₂ _ _ (N₂ p hp).2.1 (N₂ p hp).1, (N₂ p hp).2⟩
    refine wpAny_mono (turn i x y h₂ tk₂ (own ++ led₁) (by simpa using hx) (by simpa using hy) (fun p hp => List.mem_append_right _ hp) F₃ N₃) (fun f s₃ h₃ => ?_) fun _ _ e => e.elim
    obtain ⟨rfl, h', tk', rfl, F', N'⟩ := h₃
    exact ⟨rfl, h', tk', _, led₁, rfl, F', N', hoff, rfl, _, _, rfl⟩
  · rintro h' tk' m' led' F' N' hoff ⟨rfl, u, v, rfl⟩
    exact k u v h' tk' F' N'

/-- a comprehension over a zip whose elements are all the same value -/
inductive ZipLp (s : Shared) (g : Heap) (L : Addr) (m : Str → Option Value) (led : List (Addr × Obj)) (z TI TO i1 i2 l1 l2 : Addr) (xs ys : List Value) (DD C : Addr) (c : Value) (k : Nat) (s' : Shared) : Prop
  | mk : ∀ H tk i m', s' = { s with heap := H, toks := tk } → i ≤ xs.length → k = xs.length + 1 - i → ZipSt z TI TO i1 i2 l1 l2 xs ys i H → H.get? DD = some (lst (List.replicate i c)) → H.Ns C m' → Fr g L H m → News g L H led → ZipLp s g L m led z TI TO i1 i2 l1 l2 xs ys DD C c k s'
theorem comp_zip {elt iter : Expr} {a b : Str} {pa pb tp : Pos} {kk : Nat} {scope : Scope} {cl : List (Str × Addr)} {pos : Pos} {xs ys : List Value} {Q E : Value → Shared → Prop} (c : Value)
    (F : Fr g L s.heap m) (N : News g L s.heap led) (hh : A.handled = none) (hlen : xs.length = ys.length) (hsz : xs.length ≤ sizeLine)
    (hit : wpAny (model prog w) A (eval iter env) (ZipFrom g L m led s xs ys) (fun _ _ => False) s)
    (turns : ∀ C (i : Nat) x y h tk led', xs[i]? = some x → ys[i]? = some y → Fr g L h m → News g L h led' → (∀ p ∈ led, p ∈ led') → Holds (compEnvC scope cl C env) a x h → Holds (compEnvC scope cl C env) b y h →
      wpAny (model prog w) A (eval elt (compEnvC scope cl C env)) (EltEnd g L m led' { s with heap := h, toks := tk } (fun _ v => v = c)) (fun _ _ => False) { s with heap := h, toks := tk })
    (k : ∀ D h' tk', Fr g L h' m → News g L h' ((D, lst (List.replicate xs.length c)) :: led) → Q (.ref D) { s with heap := h', toks := tk' })
    (hclos : closureFor scope env = pure cl) (hkind : scope.kind = .function) (hcell : ∀ y ∈ scope.names, y.2 ≠ .cell)
    (hnames : ∀ y ∈ scope.names, y.2 = .local → scope.names.lookup y.1 = some .local) (hxa : scope.names.lookup a = some .local) (hxb : scope.names.lookup b = some .local) (hab : a ≠ b)
    (hs : ∀ x, foldedSetIterable iter env x = pure x) :
    wpAny (model prog w) A (eval (.ListComp elt [⟨.Tuple [.Name a pa, .Name b pb] kk tp, iter, [], 0⟩] scope pos) env) Q E s := by
  rw [eval_ListComp]
  refine wpAny_comprehension_free (use := none) rfl hs hclos hkind hnames (wpAny_mono hit (fun xv s₁ hz => ?_) fun _ _ e => e.elim)
  obtain ⟨h₀, tk₀, z, TI, TO, i1, i2, l1, l2, F₁, N₁, D, st, nL, nw⟩ := hz
  refine wpAny_pyIter_zip st.1 ?_
  refine wpAny_newObj_type (wpAny_newFunctionEnv hcell (by intro y hy; simp at hy) (fun h₁ hns₁ hsb₁ => ?_) hkind)
  dsimp only at hns₁ hsb₁ ⊢
  generalize hH2 : h₀.push { cls := .type "list", dict := none, data := .seq ([] : List Value).toArray } = H2 at hns₁ hsb₁ ⊢
  have hC : H2.objs.size = h₀.objs.size + 1 := by rw [← hH2, Heap.size_push]
  generalize hCC : H2.objs.size = C at hns₁ hsb₁ hC ⊢
  generalize hDD : h₀.objs.size = DD at hC
  have ltz : ∀ b ∈ [z, TI, TO, i1, i2, l1, l2], b < DD := fun b hb => by
    rw [← hDD]
    obtain ⟨q1, q2, ⟨_, _, q3⟩, ⟨_, q4, _⟩, ⟨_, q5, _⟩, ⟨_, q6, _⟩, ⟨_, q7, _⟩⟩ := st
    simp only [List.mem_cons, List.not_mem_nil, or_false] at hb
    rcases hb with r | r | r | r | r | r | r <;> (rw [r]; apply Heap.lt_size; assumption)
  have old : ∀ b o, h₀.get? b = some o → h₁.get? b = some o := fun b o e => hsb₁.extBut b o (by have := Heap.lt_size e; rw [hDD] at this; have h2 : b < DD := this; intro e; rw [e, hC] at h2; exact absurd h2 (Nat.not_lt.mpr (Nat.le_succ _))) (Heap.get?_push_of_some _ (hH2 ▸ Heap.get?_push_of_some _ e))
  have hacc : h₁.get? DD = some (lst []) := hsb₁.extBut _ _ (by rw [hC]; exact Nat.ne_of_lt (Nat.lt_succ_self _)) (Heap.get?_push_of_some _ (by rw [← hH2, ← hDD]; exact Heap.get?_push_size _ rfl))
  have fresh₀ : ∀ a, DD ≤ a → g.get? a = none := fun a ha => ktu_new F₁ (by rw [hDD]; exact ha)
  have hLlt : L < DD := hDD ▸ F₁.ns.lt
  have wr_lt : ∀ b ∈ [z, TO, i1, i2], b < DD := fun b hb => ltz b (by simp only [List.mem_cons, List.not_mem_nil, or_false] at hb ⊢; rcases hb with r | r | r | r <;> simp [r])
  have nWr : ∀ b, DD ≤ b → b ∉ [z, TO, i1, i2] := fun b hb hm => absurd (wr_lt b hm) (Nat.not_lt.mpr hb)
  have nLw : L ∉ [z, TO, i1, i2] := fun hm => nL L (by simp only [List.mem_cons, List.not_mem_nil, or_false] at hm ⊢; rcases hm with r | r | r | r <;> simp [r]) rfl
  have W := KTurns.ofWalksU (elts := [.Name a pa, .Name b pb]) (k := kk) (pos := tp) (WalksT.zip2 (prog := prog) (w := w) hh z TI TO i1 i2 l1 l2 D xs.toArray ys.toArray).toU
  have hn : min xs.toArray.size ys.toArray.size = xs.length := by rw [List.size_toArray, List.size_toArray]; omega
  rw [hn] at W
  have loop : ∀ s₃ : Shared, (∃ tk, s₃ = { s with heap := h₁, toks := tk }) →
      codeAny (model prog w) A (.compLoop (.ListComp elt [⟨.Tuple [.Name a pa, .Name b pb] kk tp, iter, [], 0⟩] scope pos) 0 (.ref z) (.ref DD) (compEnvC scope cl C env)) (compPost (model prog w) A E none Q (.ref DD) C) s₃ := by
    rintro s₃ ⟨tk₃, rfl⟩
    refine kcp_loop
      (ZipLp s g L m led z TI TO i1 i2 l1 l2 xs ys DD C c) ?_ (xs.length + 1)
      ⟨h₁, _, 0, _, rfl, Nat.zero_le _, rfl, (WalksT.zip2 (prog := prog) (w := w) hh z TI TO i1 i2 l1 l2 D xs.toArray ys.toArray).frame 0 _ _ st (fun b _ o e => old b o e), hacc, hns₁, F₁.keeps old, N₁.grown old⟩
    rintro k' s' ⟨H, tk, i, m', rfl, hi, rfl, hst', hD', hn', F', N'⟩
    by_cases hlt : i < xs.length
    · refine W.item i _ _ _ hlt hst' fun v h₂ tk₂ hMd hk₂ => ?_
      refine W.go i v _ _ _ hMd fun h₃ hP hst₃ hk₃ => ?_
      obtain ⟨T, vals, rfl, ⟨x, y, hx, hy, rfl⟩, hT⟩ := hP
      have up₃ : ∀ q o, q ∉ [z, TO, i1, i2] → H.get? q = some o → h₃.get? q = some o := fun q o hc e => hk₃ q o hc (hk₂ q o hc e)
      refine kcp_assign (env := compEnvC scope cl C env) hh hT (lookup_relabel_local hxa) (lookup_relabel_local hxb) (by simp [compEnvC, relabel, hkind]) (hn'.at' fun o e => up₃ _ o (nWr C (by rw [hC]; exact Nat.le_succ _)) e) fun h₄ tk₄ hn₄ hs₄ => ?_
      have hs₄' : ∀ q o, q ≠ C → h₃.get? q = some o → h₄.get? q = some o := hs₄
      have up : ∀ q o, q ∉ [z, TO, i1, i2] → q ≠ C → H.get? q = some o → h₄.get? q = some o := fun q o h1 h2 e => hs₄' q o h2 (up₃ q o h1 e)
      have nC : ∀ q, q < DD → q ≠ C := fun q hq e => by rw [e, hC] at hq; exact absurd hq (Nat.not_lt.mpr (Nat.le_succ _))
      have hst₄ : ZipSt z TI TO i1 i2 l1 l2 xs ys (i + 1) h₄ := (WalksT.zip2 (prog := prog) (w := w) hh z TI TO i1 i2 l1 l2 D xs.toArray ys.toArray).frame (i + 1) _ _ hst₃ (fun q hq o e => hs₄' q o (nC q (ltz q hq)) e)
      have hD₄ : h₄.get? DD = some (lst (List.replicate i c)) := up DD _ (nWr DD (Nat.le_refl _)) (by rw [hC]; exact Nat.ne_of_lt (Nat.lt_succ_self _)) hD'
      have gC : g.get? C = none := fresh₀ C (by rw [hC]; exact Nat.le_succ _)
      have F₄ : Fr g L h₄ m := ⟨F'.ns.at' fun o e => up _ o nLw (nC L hLlt) e, fun q o e => up q o (fun hm => by rw [(nw q hm).1] at e; cases e) (fun r => by rw [r, gC] at e; cases e) (F'.keep q o e), F'.above⟩
      have N₄ : News g L h₄ led := fun p hp => ⟨up _ _ (fun hm => (nw _ hm).2 p hp rfl) (nC _ (hDD ▸ Heap.lt_size (N₁ p hp).1)) (N' p hp).1, (N' p hp).2⟩
      have ha4 : Holds (compEnvC scope cl C env) a x h₄ := .inl ⟨lookup_relabel_local hxa, _, hn₄, by simp [hab]⟩
      have hb4 : Holds (compEnvC scope cl C env) b y h₄ := .inl ⟨lookup_relabel_local hxb, _, hn₄, by simp⟩
      refine wpAny_mono (turns C i x y h₄ tk₄ (rest g L h₄) (by simpa using hx) (by simpa using hy) F₄ news_rest (sub_rest N₄) ha4 hb4) (fun v s₅ h₅ => ?_) fun _ _ e => e.elim
      obtain ⟨h₅, tk₅, rfl, F₅, k₅, rfl⟩ := h₅
      have st₅ := full_stays full_rest F₄ F₅ k₅
      have up₅ : ∀ q o, q ≠ L → h₄.get? q = some o → h₅.get? q = some o := fun q o hq e => st₅ q o (fun r => hq (List.mem_singleton.mp r)) e
      have nLz : ∀ q ∈ [z, TI, TO, i1, i2, l1, l2], q ≠ L := nL
      have hD₅ := up₅ DD _ (Nat.ne_of_gt hLlt) hD₄
      refine append_at (hsz := by show (List.replicate i v).toArray.size ≤ sizeLine; rw [List.size_toArray, List.length_replicate]; exact Nat.le_trans hi hsz) hD₅ fun h₆ hs₆ hD₆ => ?_
      have DC : DD ≠ C := by rw [hC]; exact Nat.ne_of_lt (Nat.lt_succ_self _)
      refine ⟨xs.length + 1 - (i + 1), by omega, h₆, tk₅, i + 1, _, rfl, hlt, rfl, (WalksT.zip2 (prog := prog) (w := w) hh z TI TO i1 i2 l1 l2 D xs.toArray ys.toArray).frame (i + 1) _ _ hst₄ (fun q hq o e => hs₆.extBut q o (Nat.ne_of_lt (ltz q hq)) (up₅ q o (nL q hq) e)), ?_,
        (hn₄.at' fun o e => up₅ _ o (Ne.symm (nC L hLlt)) e).sameBut hs₆ (Ne.symm DC), F₅.change hs₆ (Ne.symm (Nat.ne_of_lt hLlt)) (fresh₀ DD (Nat.le_refl _)), fun p hp => ?_⟩
      · rw [hD₆, List.replicate_succ']
        exact congrArg some (lst_snoc _ _)
      · have lt := hDD ▸ Heap.lt_size (N₁ p hp).1
        exact ⟨hs₆.extBut _ _ (Nat.ne_of_lt lt) (up₅ _ _ (N' p hp).2.1 (N₄ p hp).1), (N' p hp).2⟩
    · have hin : i = xs.length := Nat.le_antisymm hi (Nat.not_lt.mp hlt)
      subst hin
      refine W.done _ _ _ hst' fun h₂ tk₂ hk₂ => ?_
      have nC : ∀ q, q < DD → q ≠ C := fun q hq e => by rw [e, hC] at hq; exact absurd hq (Nat.not_lt.mpr (Nat.le_succ _))
      refine ⟨m', hn'.at' fun o e => hk₂ _ o (nWr C (by rw [hC]; exact Nat.le_succ _)) e, fun h'' hs'' => ?_⟩
      have hs3 : ∀ q o, q ≠ C → h₂.get? q = some o → h''.get? q = some o := fun q o hq e => hs''.extBut q o hq e
      have gC : g.get? C = none := fresh₀ C (by rw [hC]; exact Nat.le_succ _)
      refine k DD h'' tk₂ ⟨F'.ns.at' fun o e => hs3 _ o (nC L hLlt) (hk₂ _ o nLw e), fun q o e => hs3 q o (fun r => by rw [r, gC] at e; cases e) (hk₂ q o (fun hm => by rw [(nw q hm).1] at e; cases e) (F'.keep q o e)), F'.above⟩ fun p hp => ?_
      rcases List.mem_cons.mp hp with rfl | hp
      · exact ⟨hs3 _ _ (by rw [hC]; exact Nat.ne_of_lt (Nat.lt_succ_self _)) (hk₂ _ _ (nWr DD (Nat.le_refl _)) hD'), Nat.ne_of_gt hLlt, fresh₀ DD (Nat.le_refl _)⟩
      · exact ⟨hs3 _ _ (nC _ (hDD ▸ Heap.lt_size (N₁ p hp).1)) (hk₂ _ _ (fun hm => (nw _ hm).2 p hp rfl) (N' p hp).1), (N' p hp).2⟩
  have hz₁ : IsZip h₁ z TI TO .none := old _ _ st.1
  exact codeAny_compStart_list (loop _ ⟨_, rfl⟩) (wpAny_pyIter_zip hz₁ (loop _ ⟨_, rfl⟩))
end
section
variable {prog : Program} {w : World} {A : Around} {E : Value → Shared → Prop} {s : Shared} {g : Heap} {L : Addr} {m : Str → Option Value} {led : List (Addr × Obj)} {l : Addr} {vs : List Value} {n : Nat} {Q : Value → Shared → Prop}
theorem len_base (F : Fr g L s.heap m) (hl : g.get? l = some (listOf vs.toArray n)) (hk : vs.length ≤ 1000) (h : Q (.int (vs.length : Int) (s.toks + 1)) { s with toks := s.toks + 1 + 1 }) : wpAny (model prog w) A (call (.builtin "len") [.ref l]) Q E s :=
  call_len_list (items := vs.toArray) ⟨_, F.keep _ _ hl, rfl, _, rfl⟩ (by rw [List.size_toArray]; omega) (by rw [List.size_toArray]; exact h)
theorem len_led (N : News g L s.heap led) (hm : (l, listOf vs.toArray n) ∈ led) (hk : vs.length ≤ 1000) (h : Q (.int (vs.length : Int) (s.toks + 1)) { s with toks := s.toks + 1 + 1 }) : wpAny (model prog w) A (call (.builtin "len") [.ref l]) Q E s :=
  call_len_list (items := vs.toArray) ⟨_, (N _ hm).1, rfl, _, rfl⟩ (by rw [List.size_toArray]; omega) (by rw [List.size_toArray]; exact h)
end
theorem ground_ne {g h : Heap} {L : Addr} {m : Str → Option Value} {a : Addr} {o : Obj} (F : Fr g L h m) (e : g.get? a = some o) : a ≠ L := fun z => ground_off F a o e (by rw [z]; exact .head _)
theorem bools_rep : ∀ n : Nat, LSm.BoolsAre (List.replicate n (.bool true)) (List.replicate n true)
  | 0 => .nil
  | n + 1 => .cons true (bools_rep n)
theorem all_rep : ∀ n : Nat, (List.replicate n true).all id = true
  | 0 => rfl
  | n + 1 => by rw [List.replicate_succ]; exact all_rep n
theorem inst_led {g h : Heap} {L : Addr} {led : List (Addr × Obj)} {x C dx : Addr} {od : Obj} {sl : Array (Option Value)} (N : News g L h led) (h1 : (x, ⟨.ref C, some dx, .plain, sl⟩) ∈ led) (h2 : (dx, od) ∈ led) :
    PySem.W.InstAt h x ⟨.ref C, some dx, .plain, sl⟩ C (some od) := ⟨(N _ h1).1, rfl, rfl, (N _ h2).1⟩
theorem fine_tup2 {m : Str} (hm : PyData.strOk m = true) (p : Int) : Fine 1 (.tuple [.str m, .int p]) :=
  ⟨by simp only [PyData.canLay0, PyData.canLayAll0, hm, Bool.and_self], by simp only [PyData.depth, PyData.depthAll]; decide, by simp [PyData.eqv, PyData.eqvAll]⟩
theorem ne_tup2 {prog : Program} {w : World} {A : Around} {E : Value → Shared → Prop} {s : Shared} {Q : Value → Shared → Prop} {D D' : Addr} {m : Str} {p : Int} {t u t' u' : Tok} {n n' : Nat} (hm : PyData.strOk m = true)
    (h1 : s.heap.get? D = some { cls := .type "tuple", data := .seq #[.str m t, .int p u] n }) (h2 : s.heap.get? D' = some { cls := .type "tuple", data := .seq #[.str m t', .int p u'] n' }) (hu : A.units + 64 < cLine) (h : Q (.bool false) s) :
    wpAny (model prog w) A (compareOp .NotEq (.ref D) (.ref D')) Q E s :=
  ne_fine (fine_tup2 hm p) ⟨_, .tuple h1 rfl rfl (.cons (.str m t) (.cons (.int p u) .nil))⟩ ⟨_, .tuple h2 rfl rfl (.cons (.str m t') (.cons (.int p u') .nil))⟩ (by decide) hu h
theorem own_cell {cenv : Env} {x : Str} {v : Value} {g h : Heap} {L c : Addr} {m : Str → Option Value} {led : List (Addr × Obj)} (F : Fr g L h m) (U : Full g L h led) (ho : Holds cenv x v h) (hk : cenv.kindOf x = some .cell) (hl : cenv.cells.lookup x = some c) (hc : L < c) :
    ∃ o, (c, o) ∈ led ∧ o.data = .cell (some v) := by
  rcases ho with ⟨a, _⟩ | ⟨_, c', b, o, e, d⟩
  · rw [hk] at a; cases a
  · rw [hl] at b; cases b
    refine ⟨o, U c o e ?_ (Nat.ne_of_gt hc), d⟩
    cases q : g.get? c with
    | none => rfl
    | some o' => exact absurd (Nat.lt_of_lt_of_le (Heap.lt_size q) F.above) (Nat.not_lt.mpr (Nat.le_of_lt hc))
/-- a comprehension's yield, its data chosen -/
theorem choose_list {α : Type} {R : Nat → Value → α → Prop} : ∀ (ys : List Value) (k : Nat), (∀ (i : Nat) y, ys[i]? = some y → ∃ a, R (k + i) y a) → ∃ as : List α, as.length = ys.length ∧ ∀ (i : Nat) y a, ys[i]? = some y → as[i]? = some a → R (k + i) y a
  | [], _, _ => ⟨[], rfl, fun _ _ _ h => by simp at h⟩
  | y :: ys, k, h => by
    obtain ⟨a, ha⟩ := h 0 y rfl
    obtain ⟨as, h1, h2⟩ := choose_list (R := R) ys (k + 1) fun i y' e => by
      have := h (i + 1) y' (by simpa using e)
      rw [show k + (i + 1) = k + 1 + i by omega] at this; exact this
    refine ⟨a :: as, by simp [h1], fun i y' a' e1 e2 => ?_⟩
    cases i with
    | zero =>
      simp at e1 e2; subst e1; subst e2; exact ha
    | succ i =>
      have := h2 i y' a' (by simpa using e1) (by simpa using e2)
      rw [show k + 1 + i = k + (i + 1) by omega] at this; exact this
theorem CompPost.choose {α : Type} {n : Nat} {P : Nat → Value → Prop} {P' : Look → Value → α → Prop} {R : Nat → α → Prop} {O : Look} {y : Value} (h : CompPost n P (fun i _ O y => ∃ a, P' O y a ∧ R i a) O y) : ∃ as : List α, as.length = n ∧ LL P' O y as ∧ ∀ (i : Nat) a, as[i]? = some a → R i a := by
  obtain ⟨D, ys, rfl, h1, h2, h3⟩ := h
  obtain ⟨as, q1, q2⟩ := choose_list (R := fun i y a => P' O y a ∧ R i a) ys 0 fun i y e => by
    obtain ⟨v, _, a, b, c⟩ := h3 i y e
    exact ⟨a, b, by rw [Nat.zero_add]; exact c⟩
  refine ⟨as, by rw [q1, h2], ⟨D, ys, _, rfl, h1, q1.symm, fun i v x e1 e2 => (q2 i v x e1 e2).1⟩, fun i a e => ?_⟩
  have hi : i < ys.length := by
    rcases Nat.lt_or_ge i ys.length with h | h
    · exact h
    · rw [List.getElem?_eq_none (by rw [q1]; exact h)] at e; cases e
  have := (q2 i _ a (List.getElem?_eq_getElem hi) e).2
  rw [Nat.zero_add] at this; exact this
end

section
open PySem PySem.W PyProof.Rows PyProof.Rows.LCg PySem.Calls
set_option maxRecDepth 100000
set_option maxHeartbeats 4000000
section
variable {prog : Program} {w : World} {A : Around} {env : Env} {s : Shared} {g : Heap} {L : Addr} {m : Str → Option Value} {led : List (Addr × Obj)} {Q : Flow → Shared → Prop} {E : Value → Shared → Prop}
inductive ForRC (prog : Program) (w : World) (A : Around) (env : Env) (g : Heap) (L : Addr) (m : Str → Option Value) (target : Expr) (body : List Stmt) (Q : Flow → Shared → Prop) (E : Value → Shared → Prop) (R : Nat → List (Addr × Obj) → Prop) (n : Nat) (xv : Value) (s₁ : Shared) : Prop
  | mk : ∀ r b t u v led₁, xv = .ref r → Fr g L s₁.heap m → News g L s₁.heap led₁ → IsRange s₁.heap r 0 b 1 t u v → Builtin.Range.small 0 b 1 = true → Builtin.Range.rangeSize 0 b 1 = ((n : Nat) : Int) → R 0 led₁ → (∀ (i : Nat) t I led' (s' : Shared) own, i < n → R i led' → (∀ p ∈ led', p.1 ≠ I) → (∀ p ∈ own, p.1 = I) → (∃ oI, (I, oI) ∈ own) → Fr g L s'.heap m → News g L s'.heap (led' ++ own) →       wpAny (model prog w) A (assign target env (.int (i : Int) t)) (fun _ s₃ => wpAny (model prog w) A (execs body env) (ForEnd1 g L I own m (R (i + 1)) s') E s₃) E s') → (∀ h' tk' led', Fr g L h' m → News g L h' led' → R n led' → Q .next { s₁ with heap := h', toks := tk' }) → ForRC prog w A env g L m target body Q E R n xv s₁
/-- a loop over a range that stores no local name -/
theorem for_rangeC {target iter : Expr} {body : List Stmt} {pos : Pos} {n : Nat} (R : Nat → List (Addr × Obj) → Prop) (F : Fr g L s.heap m) (hL : env.locals = L) (hh : A.handled = none) (hE : PassesOwn (model prog w) A env E)
    (h : wpAny (model prog w) A (eval iter env) (ForRC prog w A env g L m target body Q E R n) E s)
    (ht : ∀ (s' : Shared) I v (Q' : Unit → Shared → Prop), Q' () s' → wpAny (model prog w) A (letOwnedTupleGo target (.ref I) v) Q' E s')
    (hs : ∀ x, foldedSetIterable iter env x = pure x) :
    wpAny (model prog w) A (exec (.For target iter body [] pos) env) Q E s := by
  refine for_range (n := n) (fun i m₁ led => m₁ = m ∧ R i led) F hL hh hE (wpAny_mono h (fun xv s₁ h₁ => ?_) fun _ _ e => e) ht hs
  obtain ⟨r, b, t, u, v, led₁, rfl, F₁, N₁, hr, hsm, hn, hR0, turn, done⟩ := h₁
  refine ⟨r, b, t, u, v, led₁, rfl, F₁, N₁, hr, hsm, hn, ⟨rfl, hR0⟩, ?_, fun h' tk' m' led' F' N' j => ?_⟩
  · rintro i t' I m₁ led' s' own hi ⟨rfl, hR⟩ off hown hIo F₂ N₂
    refine wpAny_mono (turn i t' I led' s' own hi hR off hown hIo F₂ N₂) (fun _ s₃ h₃ => wpAny_mono h₃ (fun f s₄ h₄ => ?_) fun _ _ e => e) fun _ _ e => e
    obtain ⟨rfl, h', tk', led'', rfl, F', N', off', hR'⟩ := h₄
    exact ⟨rfl, h', tk', _, led'', rfl, F', N', off', rfl, hR'⟩
  · obtain ⟨rfl, hR⟩ := j
    exact done h' tk' led' F' N' hR
end
theorem ne_new {h : Heap} {new : List (Addr × Obj)} {d : Addr} {o : Obj} (hn : ∀ p ∈ new, h.get? p.1 = none) (hd : h.get? d = some o) : ∀ p ∈ new, p.1 ≠ d := fun p hp e => by
  have := hn p hp
  rw [e, hd] at this; cases this
theorem ranges_ok (n : Nat) (h : n ≤ 1000) : Builtin.Range.small 0 (n : Int) 1 = true ∧ Builtin.Range.rangeSize 0 (n : Int) 1 = ((n : Nat) : Int) := by
  exact ⟨small_one (by omega) (by omega) (by omega) (by omega), by rw [rangeSize_one]; split <;> omega⟩
theorem len_tup_led {prog : Program} {w : World} {A : Around} {E : Value → Shared → Prop} {s : Shared} {g : Heap} {L : Addr} {led : List (Addr × Obj)} {l : Addr} {vs : List Value} {n k : Nat} {Q : Value → Shared → Prop}
    (N : News g L s.heap led) (hm : (l, { cls := .type "tuple", data := .seq vs.toArray n }) ∈ led) (hk : vs.length = k) (hs : k ≤ 1000) (h : Q (.int (k : Int) (s.toks + 1)) { s with toks := s.toks + 1 + 1 }) : wpAny (model prog w) A (call (.builtin "len") [.ref l]) Q E s :=
  len_tuple (items := vs.toArray) ⟨_, (N _ hm).1, rfl, _, rfl⟩ (by rw [List.size_toArray]; omega) (by rw [List.size_toArray, hk]; exact h)
theorem tup_led {prog : Program} {w : World} {A : Around} {E : Value → Shared → Prop} {s : Shared} {value slice : Expr} {g : Heap} {L : Addr} {led : List (Addr × Obj)} {l : Addr} {vs : List Value} {n : Nat} {ki : Int} {u : Tok} {v : Value} {Q : Value → Shared → Prop}
    (N : News g L s.heap led) (hm : (l, { cls := .type "tuple", data := .seq vs.toArray n }) ∈ led) (h0 : 0 ≤ ki) (hhi : ki < 2 ^ 63) (hx : vs[ki.toNat]? = some v) (h : Q v s)
    (hs : subscripted slice false (.ref l) (.int ki u) = operate [.ref l, .int ki u] (getItem (.ref l) (.int ki u))) : wpAny (model prog w) A (subscriptTail value slice (.ref l) (.int ki u)) Q E s :=
  have hl' : IsTup s.heap l vs.toArray := ⟨_, (N _ hm).1, rfl, _, rfl⟩
  have hlt : ki.toNat < vs.length := by
    rcases Nat.lt_or_ge ki.toNat vs.length with h | h
    · exact h
    · rw [List.getElem?_eq_none h] at hx; cases hx
  tail_any hl'.typeIs slot_tuple_getitem.lookup (getItem_tuple hl' (by omega) hhi (seqIndex_of h0 (by rw [List.size_toArray]; omega)) (by simpa using hx) h) hs
theorem tup_base {prog : Program} {w : World} {A : Around} {E : Value → Shared → Prop} {s : Shared} {value slice : Expr} {g : Heap} {L : Addr} {m : Str → Option Value} {l : Addr} {vs : List Value} {n : Nat} {ki : Int} {u : Tok} {v : Value} {Q : Value → Shared → Prop}
    (F : Fr g L s.heap m) (hm : g.get? l = some { cls := .type "tuple", data := .seq vs.toArray n }) (h0 : 0 ≤ ki) (hhi : ki < 2 ^ 63) (hx : vs[ki.toNat]? = some v) (h : Q v s)
    (hs : subscripted slice false (.ref l) (.int ki u) = operate [.ref l, .int ki u] (getItem (.ref l) (.int ki u))) : wpAny (model prog w) A (subscriptTail value slice (.ref l) (.int ki u)) Q E s :=
  have hl' : IsTup s.heap l vs.toArray := ⟨_, F.keep _ _ hm, rfl, _, rfl⟩
  have hlt : ki.toNat < vs.length := by
    rcases Nat.lt_or_ge ki.toNat vs.length with h | h
    · exact h
    · rw [List.getElem?_eq_none h] at hx; cases hx
  tail_any hl'.typeIs slot_tuple_getitem.lookup (getItem_tuple hl' (by omega) hhi (seqIndex_of h0 (by rw [List.size_toArray]; omega)) (by simpa using hx) h) hs
theorem full_new2 {g h : Heap} {L d D : Addr} {new led : List (Addr × Obj)} (U : Full g L h led) (l : ∀ p ∈ new ++ led, p.1 < d) (hd : d ≤ D) (n1 : g.get? D = none) (n2 : D ≠ L) : h.get? D = none := by
  cases q : h.get? D with
  | none => rfl
  | some o => exact absurd (l (D, o) (List.mem_append_right _ (U D o q n1 n2))) (Nat.not_lt.mpr hd)
theorem flat_rep {α : Type} (x : α) : ∀ n : Nat, (List.replicate n [x]).flatten = List.replicate n x
  | 0 => rfl
  | n + 1 => by rw [List.replicate_succ, List.flatten_cons, flat_rep x n, List.replicate_succ]; rfl
theorem CompPost.rep {α : Type} {P' : Look → Value → α → Prop} {r : α} {n : Nat} {P : Nat → Value → Prop} {O : Look} {y : Value} (h : CompPost n P (fun _ _ O y => P' O y r) O y) : LL P' O y (List.replicate n r) := by
  obtain ⟨D, ys, rfl, h1, h2, h3⟩ := h
  refine ⟨D, ys, _, rfl, h1, by rw [h2, List.length_replicate], fun i v x e1 e2 => ?_⟩
  obtain ⟨_, _, t⟩ := h3 i v e1
  rw [(List.mem_replicate.mp (List.mem_of_getElem? e2)).2]
  exact t
end

section
open PySem PySem.W PyProof.Rows PyProof.Rows.LCg PySem.Calls
set_option maxRecDepth 100000
set_option maxHeartbeats 4000000
section
variable {M : Model} {A : Around} {t : Sem Value} {s : Shared} {Q : Value → Shared → Prop} {E : Value → Shared → Prop} {g : Heap} {L : Addr} {m : Str → Option Value} {led : List (Addr × Obj)}
theorem use_val {f : Tok → Value} (F : Fr g L s.heap m) (N : News g L s.heap led) (x : Eff M A t s [] (fun _ => True) (fun _ r => ∃ t, r = f t))
    (kq : ∀ t h' tk', Fr g L h' m → News g L h' led → Q (f t) { s with heap := h', toks := tk' }) : wpAny M A t Q E s :=
  eff_use0 F N x fun _ h' tk' _ F' N' _ ⟨u, e⟩ => by rw [e]; exact kq u h' tk' F' N'
theorem use_int (F : Fr g L s.heap m) (N : News g L s.heap led) (x : Eff M A t s [] (fun _ => True) (fun _ r => ∃ d t, r = .int d t))
    (kq : ∀ (d : Int) (t : Tok) h' tk', Fr g L h' m → News g L h' led → Q (.int d t) { s with heap := h', toks := tk' }) : wpAny M A t Q E s :=
  eff_use0 F N x fun _ h' tk' _ F' N' _ ⟨d, u, e⟩ => by rw [e]; exact kq d u h' tk' F' N'
theorem use_eq {v : Value} (F : Fr g L s.heap m) (N : News g L s.heap led) (x : Eff M A t s [] (fun _ => True) (fun _ r => r = v))
    (kq : ∀ h' tk', Fr g L h' m → News g L h' led → Q v { s with heap := h', toks := tk' }) : wpAny M A t Q E s :=
  eff_use0 F N x fun _ h' tk' _ F' N' _ e => by rw [e]; exact kq h' tk' F' N'
theorem use_mid {c : Int} (F : Fr g L s.heap m) (N : News g L s.heap led) (x : Eff M A t s [] (fun _ => True) (fun _ r => ∃ t q, r = .int q t ∧ q = c ∧ 1 ≤ q ∧ q ≤ 256))
    (kq : ∀ t q h' tk', Fr g L h' m → News g L h' led → q = c → 1 ≤ q → q ≤ 256 → Q (.int q t) { s with heap := h', toks := tk' }) : wpAny M A t Q E s :=
  eff_use0 F N x fun _ h' tk' _ F' N' _ ⟨u, q, e, q1, q2, q3⟩ => by rw [e]; exact kq u q h' tk' F' N' q1 q2 q3
theorem use_tp3 (F : Fr g L s.heap m) (N : News g L s.heap led) (x : Eff M A t s [] (fun _ => True) (fun O r => ∃ x y z, TP O r [x, y, z]))
    (kq : ∀ (x y z : Int) (a : Addr) (n : Nat) (t1 t2 t3 : Tok) new h' tk', Fr g L h' m → News g L h' (new ++ led) → (∀ p ∈ new, s.heap.get? p.1 = none) → (a, ({ cls := .type "tuple", data := .seq #[.int x t1, .int y t2, .int z t3] n } : Obj)) ∈ new → Q (.ref a) { s with heap := h', toks := tk' }) : wpAny M A t Q E s :=
  eff_use F N x (fun _ _ _ k ⟨x, y, z, h⟩ => ⟨x, y, z, TP.mono _ _ _ _ k h⟩) fun _ new h' tk' F' N' hn _ ⟨x, y, z, ⟨a, _, n, e, h1, h2⟩⟩ => by
    rw [e]
    cases h2 with | cons _ t1 r1 => cases r1 with | cons _ t2 r2 => cases r2 with | cons _ t3 r3 => cases r3; exact kq x y z a n t1 t2 t3 new h' tk' F' N' hn h1
theorem use_tp4 {e4 : Int} (F : Fr g L s.heap m) (N : News g L s.heap led) (x : Eff M A t s [] (fun _ => True) (fun O r => ∃ x y z, TP O r [x, y, z, e4]))
    (kq : ∀ (x y z : Int) (a : Addr) (vs : List Value) (n : Nat) new h' tk', Fr g L h' m → News g L h' (new ++ led) → (∀ p ∈ new, s.heap.get? p.1 = none) → (a, ({ cls := .type "tuple", data := .seq vs.toArray n } : Obj)) ∈ new → IntsAre vs [x, y, z, e4] → Q (.ref a) { s with heap := h', toks := tk' }) : wpAny M A t Q E s :=
  eff_use F N x (fun _ _ _ k ⟨x, y, z, h⟩ => ⟨x, y, z, TP.mono _ _ _ _ k h⟩) fun _ new h' tk' F' N' hn _ ⟨x, y, z, ⟨a, vs, n, e, h1, h2⟩⟩ => by
    rw [e]; exact kq x y z a vs n new h' tk' F' N' hn h1 h2
theorem use_tpR {R : List Int → Prop} {c : Nat} (F : Fr g L s.heap m) (N : News g L s.heap led) (x : Eff M A t s [] (fun _ => True) (fun O r => ∃ ys, TP O r ys ∧ ys.length = c ∧ R ys))
    (kq : ∀ (ys : List Int) (a : Addr) (vs : List Value) (n : Nat) new h' tk', Fr g L h' m → News g L h' (new ++ led) → (∀ p ∈ new, s.heap.get? p.1 = none) → (a, ({ cls := .type "tuple", data := .seq vs.toArray n } : Obj)) ∈ new → IntsAre vs ys → ys.length = c → R ys → Q (.ref a) { s with heap := h', toks := tk' }) : wpAny M A t Q E s :=
  eff_use F N x (fun _ _ _ k ⟨ys, h, h'⟩ => ⟨ys, TP.mono _ _ _ _ k h, h'⟩) fun _ new h' tk' F' N' hn _ ⟨ys, ⟨a, vs, n, e, h1, h2⟩, h3, h4⟩ => by
    rw [e]; exact kq ys a vs n new h' tk' F' N' hn h1 h2 h3 h4
theorem use_pl {p : Pln} (F : Fr g L s.heap m) (N : News g L s.heap led) (x : Eff M A t s [] (fun _ => True) (fun O r => PL O r p))
    (kq : ∀ (a d : Addr) (e1 e2 e3 : Int) (t1 t2 t3 t4 t5 : Tok) (rv : Value) (n : Nat) new h' tk', Fr g L h' m → News g L h' (new ++ led) → (∀ p ∈ new, s.heap.get? p.1 = none) → PL (fun a o => (a, o) ∈ new) (.ref a) p → (a, instObj 77 d) ∈ new → (d, dictOf [⟨e1, .str (Str.ofString "width") t1, .int p.w t2⟩, ⟨e2, .str (Str.ofString "height") t3, .int p.h t4⟩, ⟨e3, .str (Str.ofString "rows") t5, rv⟩] n) ∈ new → RW (fun a o => (a, o) ∈ new) rv p.rows → Q (.ref a) { s with heap := h', toks := tk' }) : wpAny M A t Q E s :=
  eff_use F N x (fun _ _ _ k h => PL.mono _ _ _ _ k h) fun _ new h' tk' F' N' hn _ po => by
    obtain ⟨a, d, e1, e2, e3, t1, t2, t3, t4, t5, rv, n, e, h1, h2, h3⟩ := id po
    rw [e] at po ⊢; exact kq a d e1 e2 e3 t1 t2 t3 t4 t5 rv n new h' tk' F' N' hn po h1 h2 h3
theorem use_prs {X : List (List (List Int))} (F : Fr g L s.heap m) (N : News g L s.heap led) (x : Eff M A t s [] (fun _ => True) (fun O r => PRS O r X))
    (kq : ∀ (a : Addr) (vs : List Value) (n : Nat) new h' tk', Fr g L h' m → News g L h' (new ++ led) → (∀ p ∈ new, s.heap.get? p.1 = none) → PRS (fun a o => (a, o) ∈ new) (.ref a) X → (a, listOf vs.toArray n) ∈ new → vs.length = X.length → (∀ (i : Nat) v x, vs[i]? = some v → X[i]? = some x → RW (fun a o => (a, o) ∈ new) v x) → Q (.ref a) { s with heap := h', toks := tk' }) : wpAny M A t Q E s :=
  eff_use F N x (fun _ _ _ k h => PRS.mono _ _ _ _ k h) fun _ new h' tk' F' N' hn _ po => by
    obtain ⟨a, vs, n, e, h1, h2, h3⟩ := id po
    rw [e] at po ⊢; exact kq a vs n new h' tk' F' N' hn po h1 h2 h3
theorem use_pc {P : Pic} (F : Fr g L s.heap m) (N : News g L s.heap led) (x : Eff M A t s [] (fun _ => True) (fun O r => PC O r P))
    (kq : ∀ (a d : Addr) (e1 e2 e3 : Int) (t1 t2 t3 t4 t5 : Tok) (n : Nat) (b : Addr) (vs : List Value) (n' : Nat) new h' tk', Fr g L h' m → News g L h' (new ++ led) → (∀ p ∈ new, s.heap.get? p.1 = none) → PC (fun a o => (a, o) ∈ new) (.ref a) P → (a, instObj 115 d) ∈ new → (d, dictOf [⟨e1, .str (Str.ofString "model") t1, .str P.model t2⟩, ⟨e2, .str (Str.ofString "precision") t3, .int P.prec t4⟩, ⟨e3, .str (Str.ofString "planes") t5, .ref b⟩] n) ∈ new → PLS (fun a o => (a, o) ∈ new) (.ref b) P.planes → (b, listOf vs.toArray n') ∈ new → vs.length = P.planes.length → (∀ (i : Nat) v x, vs[i]? = some v → P.planes[i]? = some x → PL (fun a o => (a, o) ∈ new) v x) → Q (.ref a) { s with heap := h', toks := tk' }) : wpAny M A t Q E s :=
  eff_use F N x (fun _ _ _ k h => PC.mono _ _ _ _ k h) fun _ new h' tk' F' N' hn _ po => by
    obtain ⟨a, d, e1, e2, e3, t1, t2, t3, t4, t5, rv, n, e, h1, h2, h3⟩ := id po
    obtain ⟨b, vs, n', e', i1, i2, i3⟩ := id h3
    rw [e] at po ⊢; rw [e'] at h2 h3; exact kq a d e1 e2 e3 t1 t2 t3 t4 t5 n b vs n' new h' tk' F' N' hn po h1 h2 h3 i1 i2 i3
theorem use_rpc {R : List Pln → Prop} {md : Str} {pr : Int} (F : Fr g L s.heap m) (N : News g L s.heap led) (x : Eff M A t s [] (fun _ => True) (fun O r => ∃ rs, R rs ∧ PC O r ⟨md, pr, rs⟩))
    (kq : ∀ (rs : List Pln) (a d : Addr) (e1 e2 e3 : Int) (t1 t2 t3 t4 t5 : Tok) (n : Nat) (b : Addr) (vs : List Value) (n' : Nat) new h' tk', Fr g L h' m → News g L h' (new ++ led) → (∀ p ∈ new, s.heap.get? p.1 = none) → R rs → PC (fun a o => (a, o) ∈ new) (.ref a) ⟨md, pr, rs⟩ → (a, instObj 115 d) ∈ new → (d, dictOf [⟨e1, .str (Str.ofString "model") t1, .str md t2⟩, ⟨e2, .str (Str.ofString "precision") t3, .int pr t4⟩, ⟨e3, .str (Str.ofString "planes") t5, .ref b⟩] n) ∈ new → PLS (fun a o => (a, o) ∈ new) (.ref b) rs → (b, listOf vs.toArray n') ∈ new → vs.length = rs.length → (∀ (i : Nat) v x, vs[i]? = some v → rs[i]? = some x → PL (fun a o => (a, o) ∈ new) v x) → Q (.ref a) { s with heap := h', toks := tk' }) : wpAny M A t Q E s :=
  eff_use F N x (fun _ _ _ k ⟨rs, r, h⟩ => ⟨rs, r, PC.mono _ _ _ _ k h⟩) fun _ new h' tk' F' N' hn _ ⟨rs, r, po⟩ => by
    obtain ⟨a, d, e1, e2, e3, t1, t2, t3, t4, t5, rv, n, e, h1, h2, h3⟩ := id po
    obtain ⟨b, vs, n', e', i1, i2, i3⟩ := id h3
    rw [e] at po ⊢; rw [e'] at h2 h3; exact kq rs a d e1 e2 e3 t1 t2 t3 t4 t5 n b vs n' new h' tk' F' N' hn r po h1 h2 h3 i1 i2 i3
end
end

section
open PySem PySem.Calls PySem.W PyProof.Rows
set_option maxRecDepth 100000
set_option maxHeartbeats 4000000
section
variable {prog : Program} {w : World} {A : Around} {E : Value → Shared → Prop} {h : Heap} {g : Array GenState} {d : Drawn} {t : Nat} {os : OsState}
variable {nm q : Str} {C N : Addr} {bs bm : List Value} {hdct : Bool} {sn : List Str} {sub : List Value} {ab : Bool} {col : Option Bool} {dd : Option Addr} {k0 k1 k2 k3 k5 : Option Value} {Bn newId inN : String} {bmN : List Value}
theorem check_new_own (Fn : ExcBaseFacts Bn newId inN bmN) (hB : bm.contains (.type Bn) = true) {rest : List Value} {Q : Unit → Shared → Prop} {M : Model} (hC : h.get? C = some (excClassObj nm q C N bs bm hdct sn sub ab col dd k0 k1 k2 k3 k5 newId))
    (hq : Q () ⟨h, g, d, t, os⟩) : wpAny M A (checkBuiltinCall newId ⟨.ref C :: rest, []⟩) Q E ⟨h, g, d, t, os⟩ := by
  have hcont : (Value.ref C :: bm).contains (.type Bn) = true := by rw [List.contains_cons, hB, Bool.or_true]
  have hstar := Fn.noStar
  simp only [checkBuiltinCall, Fn.newKind, Fn.newSplit, Fn.newRow]
  repeat (first | refine wpAny_loadPart_at hC ?_ | (refine wpAny_isSubtype_exc hC ?_; rw [hcont]) | refine wpAny_staticBase_exc hC ?_ | refine wpAny_madeBy_exc hC ?_ | simp only [bne_self_eq_false, Bool.false_eq_true, if_false] | wp_step)
  exact hq
theorem new_own (Fn : ExcBaseFacts Bn newId inN bmN) (hB : bm.contains (.type Bn) = true) (hA : bm.contains (.type "AttributeError") = false) (hN : bm.contains (.type "NameError") = false) {rest : List Value} {R : Result → Shared → Prop} (hC : h.get? C = some (excClassObj nm q C N bs bm hdct sn sub ab col dd k0 k1 k2 k3 k5 newId))
    (hq : R (.ok (.ret (.ref (h.objs.size + 1)))) ⟨(h.push { cls := .type "tuple", data := .seq rest.toArray }).push
      { cls := .ref C, data := .fields #[.ref h.objs.size, .none, .none, .none, .bool false, .none] }, g, d, t, os⟩) (hrest : rest.length ≤ sizeLine := by size_fits) :
    codeAny (model prog w) A (.builtin newId ⟨.ref C :: rest, []⟩) R ⟨h, g, d, t, os⟩ := by
  have hends := Fn.ends
  have hcB : (Value.ref C :: bm).contains (.type Bn) = true := by rw [List.contains_cons, hB, Bool.or_true]
  have hcA : (Value.ref C :: bm).contains (.type "AttributeError") = false := by rw [List.contains_cons, hA]; rfl
  have hcN : (Value.ref C :: bm).contains (.type "NameError") = false := by rw [List.contains_cons, hN]; rfl
  refine codeAny_builtinAt Fn.entry ?_
  unfold Builtin.«BaseException.__new__»
  refine PySem.wpAt_bind ?_
  show PySem.wpAt _ _ _ (stack >>= _) _ _ _
  refine PySem.wpAt_bind (PySem.wpAt_stack fun p below => PySem.wpAt_of_wpAny ?_)
  wp_walk
  refine PySem.wpAt_of_wpAny ?_
  rw [Fn.owner]
  repeat (first | with_reducible refine wpAny_madeHere_exc Fn.canon hC ?_ | with_reducible refine wpAny_loadPart_at hC ?_ | (with_reducible refine wpAny_isSubtype_exc hC ?_; first | rw [hcB] | rw [hcA] | rw [hcN]) | wp_step)
  show R _ _
  rw [Heap.size_push]
  exact hq
theorem type_call_own (Fn : ExcBaseFacts Bn newId inN bmN) (hB : bm.contains (.type Bn) = true) (hA : bm.contains (.type "AttributeError") = false) (hN : bm.contains (.type "NameError") = false) {rest : List Value} {fI : Addr} {oI : Obj} {Q : Fin → Shared → Prop}
    (hC : h.get? C = some (excClassObj nm q C N bs bm hdct sn sub ab col dd k0 k1 k2 k3 k5 newId)) (hL : Looks (model prog w) h (typeLookup (.ref C) "__init__") (some (.ref fI)))
    (hfI : h.get? fI = some oI) (hfc : oI.cls = .type "function")
    (hq : ∀ h' e, Heap.MadeExcOf h h' e (.ref C) rest →
      wpAny (model prog w) A (call (.ref fI) (.ref e :: rest)) (fun r s' => r = .none ∧ Q (.done (.ret (.ref e))) s') E ⟨h', g, d, t, os⟩) (hrest : rest.length ≤ sizeLine := by size_fits) :
    wpAny (model prog w) A (Builtin.«type.__call__» ⟨.ref C :: rest, []⟩) Q E ⟨h, g, d, t, os⟩ := by
  repeat (first | with_reducible refine wpAny_loadPart_at hC ?_ | with_reducible refine wpAny_madeBy_exc hC ?_ | wp_step)
  refine codeAny_call_builtin_code (Code.quiet_builtin _ Fn.quiet) (check_new_own Fn hB hC ?_)
  refine new_own Fn hB hA hN hC ?_ hrest
  show wpAny _ _ _ _ _ _
  have hk : ∀ b o, h.get? b = some o → ((h.push { cls := .type "tuple", data := .seq rest.toArray }).push { cls := .ref C, data := .fields #[.ref h.objs.size, .none, .none, .none, .bool false, .none] }).get? b = some o :=
    fun b o e => Heap.get?_push_of_some _ (Heap.get?_push_of_some _ e)
  have hC₁ := hk _ _ hC
  have hfI₁ := hk _ _ hfI
  have hget : ((h.push { cls := .type "tuple", data := .seq rest.toArray }).push
      { cls := .ref C, data := .fields #[.ref h.objs.size, .none, .none, .none, .bool false, .none] }).get? (h.objs.size + 1) = some
      { cls := .ref C, data := .fields #[.ref h.objs.size, .none, .none, .none, .bool false, .none] } := by heap_get
  have hcC : (Value.ref C :: bm).contains (.ref C) = true := by simp
  unfold isInstance
  repeat (first | with_reducible refine wpAny_loadPart_at hget ?_ | (with_reducible refine wpAny_isSubtype_exc hC₁ ?_; rw [hcC]) | wp_step)
  show wpAny _ _ (typeLookup (.ref C) _) _ _ _
  refine (hL.keeps hk).here ?_
  refine wpAny_holding (wpAny_bind ?_)
  unfold bindSpecial
  refine wpAny_bind (wpAny_typeOf (T := "function") ⟨_, hfI₁, hfc⟩ ?_)
  rw [if_pos (by decide)]
  refine wpAny_pure (wpAny_bind (wpAny_mono (hq _ (h.objs.size + 1) ⟨fun b o hb => Heap.get?_push_of_some _ (Heap.get?_push_of_some _ hb), Heap.get?_none_of_le (Nat.le_succ _), h.objs.size, hget, Heap.get?_none_of_le (Nat.le_refl _), ?_⟩) (fun r s' hr => ?_) fun _ _ x => x))
  · exact Heap.get?_push_of_some _ (Heap.get?_push_at rfl rfl)
  · obtain ⟨rfl, hQ⟩ := hr
    wp_walk
    exact hQ
theorem call_own (Fn : ExcBaseFacts Bn newId inN bmN) (hB : bm.contains (.type Bn) = true) (hA : bm.contains (.type "AttributeError") = false) (hN : bm.contains (.type "NameError") = false) {rest : List Value} {fI : Addr} {oI : Obj} {Q : Value → Shared → Prop}
    (hC : h.get? C = some (excClassObj nm q C N bs bm hdct sn sub ab col dd k0 k1 k2 k3 k5 newId)) (hL : Looks (model prog w) h (typeLookup (.ref C) "__init__") (some (.ref fI)))
    (hfI : h.get? fI = some oI) (hfc : oI.cls = .type "function")
    (hq : ∀ h' e, Heap.MadeExcOf h h' e (.ref C) rest →
      wpAny (model prog w) (A.under (.builtin "type.__call__" ⟨.ref C :: rest, []⟩)) (call (.ref fI) (.ref e :: rest)) (fun r s' => r = .none ∧ Q (.ref e) s') E ⟨h', g, d, t, os⟩) (hrest : rest.length ≤ sizeLine := by size_fits) :
    wpAny (model prog w) A (call (.ref C) rest) Q E ⟨h, g, d, t, os⟩ := by
  have f1 := tc_lookup
  have f2 := tc_bind (.ref C)
  have hT : (⟨h, g, d, t, os⟩ : Shared).TypeIs (.ref C) "type" := ⟨_, hC, rfl⟩
  refine wpAny_call (codeAny_of_tree ?_)
  show wpAny _ _ (callAny (.ref C) _) _ _ _
  repeat (any_goals (first | assumption | with_reducible refine wpAny_loadPart_at hC ?_ | wp_step))
  refine ⟨rfl, ?_⟩
  refine codeAny_call_builtin_at (Code.quiet_builtin _ (by decide +kernel)) entry_typeCall (wpAny_check_type_call_sub hC (type_call_own (hrest := hrest) Fn hB hA hN hC hL hfI hfc fun h' e hm => ?_))
  exact hq h' e hm
end
end

section
open PySem Builtin Builtin.ObjectAttr PySem.Calls PySem.W PyProof.Rows
set_option maxRecDepth 100000
set_option maxHeartbeats 4000000
section
variable {prog : Program} {w : World} {A : Around} {E : Value → Shared → Prop} {h : Heap} {g : Array GenState} {d : Drawn} {t : Nat} {os : OsState}
variable {nm q : Str} {C N x : Addr} {bs bm : List Value} {sn : List Str} {sub : List Value} {ab : Bool} {col : Option Bool} {dd : Option Addr} {k0 k1 k2 k3 k5 : Option Value} {newId : String}
  {name : Str} {v : Value}
theorem sa_loop (C D : Addr) (self : Value) : refuseLoop self "__setattr__" [.ref C, .ref D, .type "Exception", .type "BaseException", .type "object"] = pure () := by
  rw [refuseLoop_ref, refuseLoop_ref]; exact PySem.F.store_Exception.passes self
theorem check_sa_own {M : Model} {o : Obj} {nameV : Value} {Q : Unit → Shared → Prop} (hO : bm.contains (.type "object") = true)
    (hC : h.get? C = some (excClassObj nm q C N bs bm true sn sub ab col dd k0 k1 k2 k3 k5 newId)) (hx : h.get? x = some o) (hc : o.cls = .ref C) (hq : Q () ⟨h, g, d, t, os⟩) :
    wpAny M A (checkBuiltinCall "object.__setattr__" ⟨[.ref x, nameV, v], []⟩) Q E ⟨h, g, d, t, os⟩ := by
  have hcB : (Value.ref C :: bm).contains (.type "object") = true := by rw [List.contains_cons, hO, Bool.or_true]
  have ha := PySem.F.store_Exception.args (.ref x) nameV v
  simp only [checkBuiltinCall, PySem.F.store_Exception.kind, PySem.F.store_Exception.split]
  refine PySem.wpAny_bind ?_
  unfold isInstance
  repeat (first | (with_reducible refine wpAny_loadPart_at hx ?_; rw [hc]) | (with_reducible refine wpAny_isSubtype_exc hC ?_; rw [hcB]) | wp_step)
  exact hq
/-- the first attribute of an exception: it gets its dict -/
theorem store_own {tk : Tok} {o : Obj} {Q : Fin → Shared → Prop} (hP : refuseLoop (.ref x) "__setattr__" (.ref C :: bm) = pure ())
    (hC : h.get? C = some (excClassObj nm q C N bs bm true sn sub ab col dd k0 k1 k2 k3 k5 newId)) (hL : Looks (model prog w) h (typeLookup (.ref C) name) none)
    (hx : h.get? x = some o) (hc : o.cls = .ref C) (hnc : ∀ c, o.data ≠ .cls c) (hdn : o.dict = none)
    (hq : ∀ h' tk', h'.get? x = some { o with dict := some h.objs.size } → h'.Ns1 h.objs.size (fun y => if y = name then some v else none) →
      (∀ b p, b ≠ x → h.get? b = some p → h'.get? b = some p) → Q (.done (.ret .none)) ⟨h', g, d, tk', os⟩) :
    wpAny (model prog w) A (Builtin.«object.__setattr__» ⟨[.ref x, .str name tk, v], []⟩) Q E ⟨h, g, d, t, os⟩ := by
  unfold Builtin.«object.__setattr__»
  repeat (first | rw [refuse_eq] | rw [hP] | (with_reducible refine wpAny_loadPart_at hx ?_; rw [hc]) | with_reducible refine wpAny_mroOf_exc hC ?_ | with_reducible refine hL.here ?_ | wp_step)
  rw [hdn, if_neg (by simp [typeHasDict])]
  split
  · rename_i hcd
    cases hcd
  split
  · rename_i c hcd
    exact absurd hcd (hnc c)
  · have hx₁ : (h.push { cls := .type "dict", data := .dict #[] }).get? x = some o := Heap.get?_push_of_some _ hx
    have hxs : x ≠ h.objs.size := Nat.ne_of_lt (Heap.lt_size hx)
    refine wpAny_bind (wpAny_alloc' ?_)
    refine wpAny_bind (wpAny_update' hx₁ ?_)
    refine wpAny_pure ?_
    have hgd : ((h.push { cls := .type "dict", data := .dict #[] }).update x fun o => { cls := o.cls, dict := some h.objs.size, data := o.data, slots := o.slots }).get? h.objs.size
        = some { cls := .type "dict", data := .dict #[] } :=
      (Heap.get?_update_ne _ _ _ _ hxs.symm).trans (Heap.get?_push_at rfl rfl)
    have hnd : ((h.push { cls := .type "dict", data := .dict #[] }).update x fun o => { cls := o.cls, dict := some h.objs.size, data := o.data, slots := o.slots }).Ns h.objs.size (fun _ => none) :=
      ⟨_, #[], _, hgd, rfl, fun e he => absurd he (by simp), fun _ => rfl⟩
    show wpAny _ _ (storeInDict h.objs.size (.str name tk) name v) _ _ _
    unfold storeInDict newKeyGuard
    refine wpAny_bind (wpAny_pure (wpAny_bind (wpAny_nsSet1 (Heap.Ns1.of_empty hnd) fun h' hn' hs => ?_)))
    obtain ⟨oD, esD, epD, hoD, hdD, hcD⟩ := hn'.count (Within.cons name v Within.nil)
    refine wpAny_bind (wpAny_lookBehind hoD (by rw [hdD]; exact pastItsLine_dict (Nat.le_trans hcD (by rw [List.length_cons, List.length_nil, sizeLine_eq]; omega))) ?_)
    wp_walk
    refine hq h' _ ?_ hn' (fun b ob hbx hb => (hs.2 b (Nat.ne_of_lt (Heap.lt_size hb))).trans ((Heap.get?_update_ne _ _ _ _ hbx).trans (Heap.get?_push_of_some _ hb)))
    refine (hs.2 x hxs).trans (Heap.get?_update_self _ hx₁ ?_)
    have hfr := (Heap.get?_some_iff.mp hx).2
    obtain ⟨oc, od, odt, osl⟩ := o
    cases odt <;> first | rfl | exact hfr
end
section
variable {prog : Program} {w : World} {A : Around} {E : Value → Shared → Prop} {h : Heap} {g : Array GenState} {d : Drawn} {t : Nat} {os : OsState}
variable {nm q : Str} {C N x : Addr} {bs bm : List Value} {sn : List Str} {sub : List Value} {ab : Bool} {col : Option Bool} {dd : Option Addr} {k0 k1 k2 k3 k5 : Option Value} {newId : String}
  {name : Str} {v : Value}
theorem store_attr_own {o : Obj} {Q : Unit → Shared → Prop} (hO : bm.contains (.type "object") = true) (hP : refuseLoop (.ref x) "__setattr__" (.ref C :: bm) = pure ())
    (hC : h.get? C = some (excClassObj nm q C N bs bm true sn sub ab col dd k0 k1 k2 k3 k5 newId)) (hL : Looks (model prog w) h (typeLookup (.ref C) name) none)
    (hS : Looks (model prog w) h (typeLookup (.ref C) "__setattr__") (some (.builtin "object.__setattr__")))
    (hx : h.get? x = some o) (hc : o.cls = .ref C) (hnc : ∀ c, o.data ≠ .cls c) (hdn : o.dict = none)
    (hq : ∀ h' tk', h'.get? x = some { o with dict := some h.objs.size } → h'.Ns1 h.objs.size (fun y => if y = name then some v else none) →
      (∀ b p, b ≠ x → h.get? b = some p → h'.get? b = some p) → Q () ⟨h', g, d, tk', os⟩) :
    wpAny (model prog w) A (setAttr (.ref x) name v) Q E ⟨h, g, d, t, os⟩ := by
  have f3 := PySem.F.store_Exception.slot.bind (.ref x)
  unfold setAttr callSpecial? specialOf
  repeat (any_goals (first | assumption | (with_reducible refine wpAny_loadPart_at hx ?_; rw [hc]) | with_reducible refine hS.here ?_ | wp_step))
  refine codeAny_call_builtin PySem.F.store_Exception.slot.plain PySem.F.store_Exception.entry (check_sa_own hO hC hx hc (store_own hP hC hL hx hc hnc hdn fun h' tk' a b c => ?_))
  repeat (any_goals (first | assumption | wp_step))
  exact hq h' tk' a b c
end
end

section
open PySem PySem.Calls PySem.W PyProof.Rows
set_option maxRecDepth 100000
set_option maxHeartbeats 4000000
noncomputable def bm44 : List Value := [.ref 31, .type "Exception", .type "BaseException", .type "object"]
theorem find44_init (P : Params) : findIn (KK P) (.ref 44) "__init__" = some (some (.ref 28)) := by kernel_rfl
theorem find44_set (P : Params) : findIn (KK P) (.ref 44) "__setattr__" = some (some (.builtin "object.__setattr__")) := by kernel_rfl
theorem find44_msg (P : Params) : findIn (KK P) (.ref 44) "message" = some none := by kernel_rfl
theorem get44 (P : Params) : (KK P).lookup 44 = some (excClassObj "RangeError" "RangeError" 44 43 [.ref 31] bm44 true [] [] false none none (some (.ref 35)) none (some (.str "RangeError" 218)) (some (.str "RangeError" 226)) (some (.bool true)) "Exception.__new__") := by kernel_rfl
theorem has44 : bm44.contains (.type "Exception") = true ∧ bm44.contains (.type "object") = true ∧ bm44.contains (.type "AttributeError") = false ∧ bm44.contains (.type "NameError") = false ∧ bm44.contains (.type "BaseException") = true := by decide +kernel
end

section
open PySem PySem.W PyProof.Rows PyProof.Rows.LCg PySem.Calls
set_option maxRecDepth 100000
set_option maxHeartbeats 4000000
noncomputable def pairD (p : Str × Str) : PyData := .tuple [.str p.1, .str p.2]
noncomputable abbrev tup2 (a b : Str) (t u : Tok) (n : Nat) : Obj := { cls := .type "tuple", data := .seq #[.str a t, .str b u] n }
theorem reads_pair {h : Heap} {D : Addr} {a b : Str} {t u : Tok} {n : Nat} (e : h.get? D = some (tup2 a b t u n)) : Reads h (.ref D) (pairD (a, b)) ([] ++ ([] ++ [])) := .tuple e rfl rfl (.cons (.str a t) (.cons (.str b u) .nil))
theorem eqv_pair (p q : Str × Str) : PyData.eqv (pairD p) (pairD q) = decide (p = q) := by
  obtain ⟨a, b⟩ := p
  obtain ⟨c, d⟩ := q
  simp only [pairD, PyData.eqv, PyData.eqvAll, Bool.and_true, Prod.mk.injEq]
  by_cases h1 : a = c
  · by_cases h2 : b = d
    · subst h1; subst h2; simp
    · simp [h1, h2]
  · simp [h1]
theorem any_pairs (q : Str × Str) : ∀ ps : List (Str × Str), ((ps.map pairD).any fun y => PyData.eqv y (pairD q)) = decide (q ∈ ps)
  | [] => by simp
  | p :: ps => by
    rw [List.map_cons, List.any_cons, any_pairs q ps, eqv_pair]
    by_cases h : p = q
    · subst h; simp
    · have h' : ¬ q = p := fun e => h e.symm
      simp [h, h']
noncomputable def PairOk (p : Str × Str) : Prop := PyData.strOk p.1 = true ∧ PyData.strOk p.2 = true
theorem lay_pair {p : Str × Str} (h : PairOk p) : (pairD p).canLay0 = true := by simp only [pairD, PyData.canLay0, PyData.canLayAll0, h.1, h.2, Bool.and_self]
theorem lay_pairs : ∀ {ps : List (Str × Str)}, (∀ p ∈ ps, PairOk p) → PyData.canLayAll0 (ps.map pairD) = true
  | [], _ => by simp [PyData.canLayAll0]
  | p :: ps, h => by
    simp only [List.map_cons, PyData.canLayAll0, lay_pair (h p (.head _)), lay_pairs (ps := ps) fun q hq => h q (.tail _ hq), Bool.and_self]
theorem deep_pair (p : Str × Str) : (pairD p).depth = 1 := by simp [pairD, PyData.depth, PyData.depthAll]
section
variable {prog : Program} {w : World} {A : Around} {E : Value → Shared → Prop} {s : Shared} {Q : Value → Shared → Prop}
theorem eq_pair {D D' : Addr} {a b c d : Str} {t u t' u' : Tok} {n n' : Nat} (h1 : PairOk (a, b)) (h2 : PairOk (c, d)) (e1 : s.heap.get? D = some (tup2 a b t u n)) (e2 : s.heap.get? D' = some (tup2 c d t' u' n')) (hu : A.units + 64 < cLine)
    (h : Q (.bool (decide ((a, b) = (c, d)))) s) : wpAny (model prog w) A (compareOp .Eq (.ref D) (.ref D')) Q E s :=
  eq_dataH (reads_pair e1) (reads_pair e2) (Bool.and_eq_true_iff.mpr ⟨lay_pair h1, by rw [deep_pair]; rfl⟩) (Bool.and_eq_true_iff.mpr ⟨lay_pair h2, by rw [deep_pair]; rfl⟩) hu (by rw [eqv_pair]; exact h)
theorem room_pair {xs : List PyData} {p : Str × Str} (hu : A.units + 64 < cLine) : A.units + 1 + min (PyData.depthAll xs) (pairD p).depth < cLine := by
  rw [deep_pair]
  have := Nat.min_le_right (PyData.depthAll xs) 1
  omega
theorem in_tup_pairs {c : Value} {D : Addr} {p : Str × Str} {ps : List (Str × Str)} (rc : ∃ as, Reads s.heap c (.tuple (ps.map pairD)) as) (rx : ∃ as, Reads s.heap (.ref D) (pairD p) as) (h1 : ∀ q ∈ ps, PairOk q) (h2 : PairOk p) (hu : A.units + 64 < cLine)
    (h : Q (.bool (decide (p ∈ ps))) s) : wpAny (model prog w) A (compareOp .In (.ref D) c) Q E s := by
  obtain ⟨as, rc⟩ := rc
  obtain ⟨bs, rx⟩ := rx
  exact SeqAt.in_tuple_reads rc rx (lay_pairs h1) (lay_pair h2) (room_pair hu) (by rw [any_pairs]; exact h)
theorem in_list_pairs {c : Value} {D : Addr} {p : Str × Str} {ps : List (Str × Str)} (rc : ∃ as, Reads s.heap c (.list (ps.map pairD)) as) (rx : ∃ as, Reads s.heap (.ref D) (pairD p) as) (h1 : ∀ q ∈ ps, PairOk q) (h2 : PairOk p) (hu : A.units + 64 < cLine)
    (h : Q (.bool (decide (p ∈ ps))) s) : wpAny (model prog w) A (compareOp .In (.ref D) c) Q E s := by
  obtain ⟨as, rc⟩ := rc
  obtain ⟨bs, rx⟩ := rx
  exact SeqAt.in_list_reads rc rx (lay_pairs h1) (lay_pair h2) (room_pair hu) (by rw [any_pairs]; exact h)
theorem eq_pair_t {D D' : Addr} {a b : Str} {t u t' u' : Tok} {n n' : Nat} (h1 : PairOk (a, b)) (e1 : s.heap.get? D = some (tup2 a b t u n)) (e2 : s.heap.get? D' = some (tup2 a b t' u' n')) (hu : A.units + 64 < cLine)
    (h : Q (.bool true) s) : wpAny (model prog w) A (compareOp .Eq (.ref D) (.ref D')) Q E s := eq_pair h1 h1 e1 e2 hu (by rw [decide_eq_true rfl]; exact h)
theorem eq_pair_f {D D' : Addr} {a b c d : Str} {t u t' u' : Tok} {n n' : Nat} (h1 : PairOk (a, b)) (h2 : PairOk (c, d)) (hne : (a, b) ≠ (c, d)) (e1 : s.heap.get? D = some (tup2 a b t u n)) (e2 : s.heap.get? D' = some (tup2 c d t' u' n')) (hu : A.units + 64 < cLine)
    (h : Q (.bool false) s) : wpAny (model prog w) A (compareOp .Eq (.ref D) (.ref D')) Q E s := eq_pair h1 h2 e1 e2 hu (by rw [decide_eq_false hne]; exact h)
end
theorem ok_yg : PairOk ("ycc", "grey") := ⟨by decide +kernel, by decide +kernel⟩
theorem ok_gy : PairOk ("grey", "ycc") := ⟨by decide +kernel, by decide +kernel⟩
end

section
open PySem PySem.W PyProof.Rows PyProof.Rows.LCg PySem.Calls
set_option maxRecDepth 100000
set_option maxHeartbeats 4000000
section
variable {α : Type} {M : Model} {A : Around} {t : Sem α} {s : Shared} {Post : Look → α → Prop} {Q : α → Shared → Prop} {E : Value → Shared → Prop} {g : Heap} {L : Addr} {m : Str → Option Value} {led : List (Addr × Obj)}
/-- a draw from the source, what else it made let go -/
theorem eff_useS0 {src : Addr} {o : Obj} {gf : Obj → List (Addr × Obj)} (F : Fr g L s.heap m) (N : News g L s.heap led) (U : UpdF src o led gf) (x : Eff M A t s [src] (SrcAt src) (fun _ => Post (fun _ _ => False)))
    (k : ∀ y a ta b tb n h' tk', Fr g L h' m → News g L h' (gf (listOf #[.int a ta, .int b tb] n)) → 0 ≤ a → 0 ≤ b → b < 2147483647 → Post (fun _ _ => False) y → Q y { s with heap := h', toks := tk' }) :
    wpAny M A t Q E s :=
  eff_useS F N U x (fun _ _ _ _ h => h) fun y new a ta b tb n h' tk' F' N' _ p1 p2 p3 po => k y a ta b tb n h' tk' F' (fun p hp => N' p (List.mem_append_right _ hp)) p1 p2 p3 po
end
theorem UpdF.mem {d : Addr} {o : Obj} {led : List (Addr × Obj)} {gf : Obj → List (Addr × Obj)} (U : UpdF d o led gf) : (d, o) ∈ led := by
  obtain ⟨pre, post, rfl, _⟩ := U.split
  exact List.mem_append_right _ (.head _)
theorem news_one {g h : Heap} {L d : Addr} {o : Obj} {led : List (Addr × Obj)} (N : News g L h led) (hm : (d, o) ∈ led) : News g L h [(d, o)] := fun p hp => by rw [List.mem_singleton.mp hp]; exact N _ hm
section
variable {prog : Program} {w : World} {A : Around} {env : Env} {s : Shared} {g : Heap} {L : Addr} {m : Str → Option Value} {led : List (Addr × Obj)}
inductive ForP (prog : Program) (w : World) (A : Around) (env : Env) (g : Heap) (L : Addr) (m : Str → Option Value) (a b : Str) (body : List Stmt) (ps : List (Str × Str)) (Q : Flow → Shared → Prop) (xv : Value) (s₁ : Shared) : Prop
  | mk : ∀ (ax : Addr) (vs : List Value) (n : Nat) (led : List (Addr × Obj)), xv = .ref ax → Fr g L s₁.heap m → News g L s₁.heap led → (ax, listOf vs.toArray n) ∈ led → vs.length = ps.length → (∀ (i : Nat) v p, vs[i]? = some v → ps[i]? = some p → ∃ T t u k, v = .ref T ∧ (T, tup2 p.1 p.2 t u k) ∈ led) → (∀ p ∈ ps, ∀ t u h tk led', (∀ q ∈ led, q ∈ led') → Fr g L h (fun z => if z = b then some (.str p.2 u) else if z = a then some (.str p.1 t) else m z) → News g L h led' →         wpAny (model prog w) A (execs body env) (fun f s' => f = .next ∧ ∃ h' tk', s' = { s₁ with heap := h', toks := tk' } ∧ Fr g L h' (fun z => if z = b then some (.str p.2 u) else if z = a then some (.str p.1 t) else m z) ∧ News g L h' led') (fun _ _ => False) { s₁ with heap := h, toks := tk }) → (∀ u v h' tk', Fr g L h' (fun z => if z = b then v else if z = a then u else m z) → News g L h' led → Q .next { s₁ with heap := h', toks := tk' }) → ForP prog w A env g L m a b body ps Q xv s₁
/-- a loop over a list of pairs of texts whose turns change nothing that stood -/
theorem for_pairs {a b : Str} {pa pb tp pos : Pos} {kk : Nat} {iter : Expr} {body : List Stmt} {ps : List (Str × Str)} {Q : Flow → Shared → Prop} {E : Value → Shared → Prop} (F : Fr g L s.heap m) (hL : env.locals = L) (hh : A.handled = none) (hE : PassesOwn (model prog w) A env E)
    (hab : b ≠ a) (ha : env.kindOf a = some .local) (hb : env.kindOf b = some .local) (hp : (env.scope.kind == .class || (env.scope.kind == .module && env.locals != env.globals)) = false)
    (hit : wpAny (model prog w) A (eval iter env) (ForP prog w A env g L m a b body ps Q) (fun _ _ => False) s)
    (hs : ∀ x, foldedSetIterable iter env x = pure x) :
    wpAny (model prog w) A (exec (.For (.Tuple [.Name a pa, .Name b pb] kk tp) iter body [] pos) env) Q E s := by
  subst hL
  refine For_turns F (wpAny_mono hit (fun xv s₁ hz => ?_) fun _ _ e => e.elim) hs hE
  obtain ⟨ax, vs, n, led, rfl, F₁, N₁, hm, hlen, hps, turn, k⟩ := hz
  have hax := N₁ _ hm
  have hl : s₁.heap.IsList ax vs.toArray := ⟨_, hax.1, rfl, n, rfl⟩
  have hlt : ax < s₁.heap.objs.size := Heap.lt_size hax.1
  refine wpAny_pyIter_list hl ?_
  have W := KTurns.ofWalks (target := .Tuple [.Name a pa, .Name b pb] kk tp) (Walks.list (prog := prog) (w := w) hh s₁.heap.objs.size ax (Nat.ne_of_lt hlt) vs.toArray) fun i v s Q E st q => letGo_listiter st.1 q
  have hn : vs.toArray.size = vs.length := List.size_toArray
  rw [hn] at W
  refine ⟨s₁.heap.objs.size, _, _, vs.length, _, _, _, m, led, fun _ m₁ l => l = led ∧ ∃ u v, m₁ = fun q => if q = b then v else if q = a then u else m q, rfl, W, fun hI => ?_, fun c hc => ?_, fun p hp hc => ?_, ⟨⟨_, Heap.get?_push_size _ rfl, rfl, rfl⟩, hl.at fun o e => Heap.get?_push_of_some _ e⟩, F₁.push _, (fun p hp => ⟨Heap.get?_push_of_some _ (N₁ p hp).1, (N₁ p hp).2⟩), ⟨rfl, m a, m b, ?_⟩, ?_, ?_⟩
  · rcases List.mem_cons.mp hI with e | hI
    · exact absurd F₁.ns.lt (e ▸ Nat.lt_irrefl _)
    · exact hax.2.1 (List.mem_singleton.mp hI).symm
  · rw [List.mem_singleton.mp hc]; exact next_is_new F₁
  · exact absurd (Heap.lt_size (N₁ p hp).1) ((List.mem_singleton.mp hc) ▸ Nat.lt_irrefl _)
  · funext q
    by_cases q1 : q = b
    · rw [if_pos q1, q1]
    · by_cases q2 : q = a
      · rw [if_neg q1, if_pos q2, q2]
      · rw [if_neg q1, if_neg q2]
  · rintro i v m₁ led₁ h₁ tk₁ own hi hP ⟨rfl, u, v', rfl⟩ hoff hown hat hfull hst F₂ N₂
    have hv : vs[i]? = some v := by simpa using hP
    have hpi : ps[i]? = some (ps[i]'(hlen ▸ hi)) := List.getElem?_eq_getElem _
    obtain ⟨T, t, u', k', rfl, hT⟩ := hps i v _ hv hpi
    have hTu : h₁.IsTuple T #[.str _ t, .str _ u'] := ⟨_, (N₂ _ (List.mem_append_right _ hT)).1, rfl, k', rfl⟩
    refine kcp_assign hh hTu ha hb hp F₂.ns fun h₂ tk₂ hn₂ hk₂ => ?_
    have F₃ : Fr g env.locals h₂ (fun z => if z = b then some (.str (ps[i]'(hlen ▸ hi)).2 u') else if z = a then some (.str (ps[i]'(hlen ▸ hi)).1 t) else m z) := by
      refine ⟨?_, fun c o e => hk₂ c o (fun z => ?_) (F₂.keep c o e), F₂.above⟩
      · have e : (fun z => if z = b then some (Value.str (ps[i]'(hlen ▸ hi)).2 u') else if z = a then some (Value.str (ps[i]'(hlen ▸ hi)).1 t) else (fun q => if q = b then v' else if q = a then u else m q) z) = fun z => if z = b then some (.str (ps[i]'(hlen ▸ hi)).2 u') else if z = a then some (.str (ps[i]'(hlen ▸ hi)).1 t) else m z := by
          funext q
          by_cases q1 : q = b
          · simp [q1]
          · by_cases q2 : q = a
            · simp [q2]
            · simp [q1, q2]
        rw [← e]; exact hn₂
      · exact ground_off F₂ c o e (by rw [z]; exact List.mem_singleton.mpr rfl)
    have N₃ : News g env.locals h₂ (own ++ led₁) := fun p hp => ⟨hk₂ _ _ (N₂ p hp).2.1 (N₂ p hp).1, (N₂ p hp).2⟩
    refine wpAny_mono (turn _ (List.getElem_mem _) t u' h₂ tk₂ (own ++ led₁) (fun p hp => List.mem_append_right _ hp) F₃ N₃) (fun f s₃ h₃ => ?_) fun _ _ e => e.elim
    obtain ⟨rfl, h', tk', rfl, F', N'⟩ := h₃
    exact ⟨rfl, h', tk', _, led₁, rfl, F', N', hoff, rfl, _, _, rfl⟩
  · rintro h' tk' m' led' F' N' hoff ⟨rfl, u, v, rfl⟩
    exact k u v h' tk' F' N'
end
noncomputable def modelsL : List Str := ["grey", "rgb", "ycc", "cmyk", "ycck", "raw"]
end

section
open PySem PySem.W PyProof.Rows PyProof.Rows.LCg PySem.Calls
set_option maxRecDepth 100000
set_option maxHeartbeats 4000000
inductive EltEndS (g : Heap) (L src : Addr) (m : Str → Option Value) (led : List (Addr × Obj)) (s : Shared) (Post : Look → Value → Prop) (y : Value) (s' : Shared) : Prop
  | mk : ∀ h' tk', s' = { s with heap := h', toks := tk' } → Fr g L h' m → SrcAt src h' → (∀ p ∈ led, p.1 ≠ src → h'.get? p.1 = some p.2) → Post (NewO s.heap h') y → EltEndS g L src m led s Post y s'
noncomputable def IterEndS (g : Heap) (L src : Addr) (m : Str → Option Value) (led₀ : List (Addr × Obj)) (s : Shared) (n : Nat) (P : Nat → Value → Prop) (xv : Value) (s₁ : Shared) : Prop := IterEnd g L m led₀ s n P xv s₁ ∧ xv ≠ .ref src
theorem IterEndS.range {g h : Heap} {L r src : Addr} {o : Obj} {m : Str → Option Value} {led₀ led₁ : List (Addr × Obj)} {s : Shared} {tk : Nat} {a b : Int} {t u v : Tok} {n : Nat} (F : Fr g L h m) (N : News g L h led₁) (sub : ∀ p ∈ led₀, p ∈ led₁) (hr : IsRange h r a b 1 t u v)
    (hsm : Builtin.Range.small a b 1 = true) (hn : Builtin.Range.rangeSize a b 1 = ((n : Nat) : Int)) (hsz : n ≤ sizeLine) (hm : (src, o) ∈ led₀) (ho : SrcOk o) :
    IterEndS g L src m led₀ s n (fun i v => ∃ t, v = .int (a + (i : Int)) t) (.ref r) { s with heap := h, toks := tk } := by
  refine ⟨IterEnd.range F N sub hr hsm hn hsz, fun e => ?_⟩
  cases e
  have h1 := (N _ (sub _ hm)).1
  obtain ⟨_, _, _, _, _, rfl, _⟩ := ho
  unfold IsRange at hr
  rw [hr] at h1
  have e := congrArg (fun x : Option Obj => x.map Obj.cls) h1
  simp only [Option.map_some, Option.some.injEq] at e
  injection e with e
  exact absurd e (by decide)
theorem full_staysS {g h h' : Heap} {L src : Addr} {m m' : Str → Option Value} {led : List (Addr × Obj)} (U : Full g L h led) (F : Fr g L h m) (F' : Fr g L h' m') (k : ∀ p ∈ led, p.1 ≠ src → h'.get? p.1 = some p.2) : Stays [src, L] h h' := fun b o n e => by
  cases q : g.get? b with
  | some o' =>
    have e1 := F.keep b o' q
    rw [e] at e1; cases e1
    exact F'.keep b o q
  | none => exact k (b, o) (U b o e q fun z => n (by rw [z]; exact .tail _ (.head _))) fun z => n (by rw [show b = src from z]; exact .head _)
section
variable {prog : Program} {w : World} {A : Around} {env : Env} {s : Shared} {g : Heap} {L : Addr} {m : Str → Option Value} {led : List (Addr × Obj)} {Q E : Value → Shared → Prop}
/-- a comprehension whose elements draw from the source -/
theorem comp_frS {elt iter : Expr} {x : Str} {px : Pos} {scope : Scope} {cl : List (Str × Addr)} {pos : Pos} {n : Nat} {P : Nat → Value → Prop} {src : Addr} {o : Obj} {gf : Obj → List (Addr × Obj)} (T : Nat → Value → Look → Value → Prop)
    (F : Fr g L s.heap m) (N : News g L s.heap led) (U : UpdF src o led gf) (hso : SrcOk o)
    (hT : ∀ i v y (O O' : Look), (∀ a o, O a o → O' a o) → T i v O y → T i v O' y)
    (hit : ∀ led₀, News g L s.heap led₀ → (∀ p ∈ led, p ∈ led₀) → wpAny (model prog w) A (eval iter env) (IterEndS g L src m led₀ s n P) (fun _ _ => False) s)
    (turns : ∀ C i v h tk cl' led' o', cl' = cellsFrom (C + 1) scope.names cl → i < n ∧ L < C → P i v → Fr g L h m → SrcOk o' → (src, o') ∈ led' → News g L h led' → (∀ p ∈ led, p.1 ≠ src → p ∈ led') → Full g L h led' → Holds (compEnvC scope cl' C env) x v h →
      wpAny (model prog w) A (eval elt (compEnvC scope cl' C env)) (EltEndS g L src m led' { s with heap := h, toks := tk } (T i v)) (fun _ _ => False) { s with heap := h, toks := tk })
    (k : ∀ y new a ta b tb nn h' tk', Fr g L h' m → News g L h' (new ++ gf (listOf #[.int a ta, .int b tb] nn)) → (∀ p ∈ new, s.heap.get? p.1 = none) → 0 ≤ a → 0 ≤ b → b < 2147483647 → CompPost n P T (fun a o => (a, o) ∈ new) y → Q y { s with heap := h', toks := tk' })
    (hh : A.handled = none) (hclos : closureFor scope env = pure cl) (hkind : scope.kind = .function)
    (hnames : ∀ y ∈ scope.names, y.2 = .local → scope.names.lookup y.1 = some .local)
    (hx : (relabel scope env).names.lookup x = some .local ∨ ((relabel scope env).names.lookup x = some .cell ∧ ∀ k, ∃ c, (cellsFrom k scope.names cl).lookup x = some c ∧ (cellsFrom k scope.names []).lookup x = some c))
    (hs : ∀ x, foldedSetIterable iter env x = pure x) :
    wpAny (model prog w) A (eval (.ListComp elt [⟨.Name x px, iter, [], 0⟩] scope pos) env) Q E s := by
  have hsm := UpdF.mem U
  obtain ⟨pre, post, rfl, hg, hp1, hp2⟩ := U.split
  have hsN := N _ hsm
  have hsL : src ≠ L := hsN.2.1
  refine comp_eval (Wm := [src, L]) (Inv := fun h => SrcAt src h ∧ h.Ns L m) (T := T) (hfp_none hh) hclos hkind hnames hx
    (fun h h' i z => ⟨i.1.keeps fun b hb o e => z b (by rw [List.mem_singleton.mp hb]; exact .head _) o e, i.2.at' fun o e => z L (.tail _ (.head _)) o e⟩)
    (fun h i b hb => by
      rcases List.mem_cons.mp hb with e | hb
      · exact i.1.there b (by rw [e]; exact .head _)
      · obtain ⟨o, _, _, e, _⟩ := i.2; exact ⟨o, by rw [List.mem_singleton.mp hb]; exact e⟩) hT
    (wpAny_mono (hit (rest g L s.heap) news_rest (sub_rest N)) (fun xv s₁ h₁ => ?_) fun _ _ e => e.elim) hs
  obtain ⟨⟨h, tk, led₁, rfl, F₁, N₁, sub, src', nx⟩, nsrc⟩ := h₁
  have st₁ : Stays [L] s.heap h := full_stays full_rest F F₁ fun p hp => (N₁ p (sub p hp)).1
  have gL : ∀ b o, g.get? b = some o → b ∉ [L] := fun b o e z => by
    have := Heap.lt_size e
    rw [List.mem_singleton.mp z] at this
    exact absurd this (Nat.not_lt.mpr F.above)
  have gS : ∀ b o, g.get? b = some o → b ∉ [src, L] := fun b o e z => by
    rcases List.mem_cons.mp z with z | z
    · rw [z, hsN.2.2] at e; cases e
    · exact gL b o e z
  have srcAt₁ : SrcAt src h := ⟨o, st₁ _ _ (fun z => hsL (List.mem_singleton.mp z)) hsN.1, hso⟩
  refine ⟨n, P, src', .none hh, fun a e z => ?_, ⟨srcAt₁, F₁.ns⟩, ?_, fun D h' tk' ys Y => ?_⟩
  · rcases List.mem_cons.mp z with z | z
    · exact nsrc (by rw [e, z])
    · exact nx (by rw [e, List.mem_singleton.mp z])
  · rintro C i v s' cl' ⟨h₂, tk₂, rfl⟩ hcl hi hv st₂ inv₂ ho
    obtain ⟨⟨o₂, ho₂, hok₂⟩, hns₂⟩ := inv₂
    have F₂ : Fr g L h₂ m := ⟨hns₂, fun b o e => st₂ b o (gS b o e) (F₁.keep b o e), F₁.above⟩
    have sub₂ : ∀ p ∈ pre ++ (src, o) :: post, p.1 ≠ src → p ∈ rest g L h₂ := fun p hp hne => mem_rest.mpr ⟨st₂ _ _ (fun z => by
      rcases List.mem_cons.mp z with z | z
      · exact hne z
      · exact (N p hp).2.1 (List.mem_singleton.mp z)) (N₁ p (sub p (sub_rest N p hp))).1, (N p hp).2.2, (N p hp).2.1⟩
    have hm₂ : (src, o₂) ∈ rest g L h₂ := mem_rest.mpr ⟨ho₂, hsN.2.2, hsL⟩
    unfold Eff
    refine wpAny_mono (turns C i v h₂ tk₂ cl' (rest g L h₂) o₂ hcl ⟨hi.1, Nat.lt_of_lt_of_le F₁.ns.lt hi.2⟩ hv F₂ hok₂ hm₂ news_rest sub₂ full_rest ho) (fun y s₃ h₃ => ?_) fun _ _ e => e
    obtain ⟨h₃, tk₃, rfl, F₃, a₃, k₃, po⟩ := h₃
    exact ⟨h₃, tk₃, rfl, full_staysS full_rest F₂ F₃ k₃, ⟨a₃, F₃.ns⟩, po⟩
  · have stA : Stays [src, L] s.heap h' := fun b o q e => Y.stays b o q (st₁ b o (fun z => q (by rw [List.mem_singleton.mp z]; exact .tail _ (.head _))) e)
    obtain ⟨⟨o₂, ho₂, a, ta, b, tb, nn, rfl, q1, q2, q3⟩, hns₂⟩ := Y.inv
    have F' : Fr g L h' m := ⟨hns₂, fun b o e => stA b o (gS b o e) (F.keep b o e), F.above⟩
    have no : ∀ a, h.get? a = none → s.heap.get? a = none := fun a e => full_none full_rest F F₁ (fun p hp => (N₁ p (sub p hp)).1) e
    refine k (.ref D) (diff s.heap h') a ta b tb nn h' tk' F' (fun p hp => ?_) (fun p hp => (mem_diff.mp (show (p.1, p.2) ∈ diff s.heap h' from hp)).2) q1 q2 q3 ⟨D, ys, rfl, mem_diff.mpr ⟨Y.at_, no _ Y.new⟩, Y.len, fun i y' e => ?_⟩
    · rcases List.mem_append.mp hp with hp | hp
      · exact news_diff F F.keep p hp
      · rw [hg] at hp
        have off : ∀ q ∈ pre ++ (src, o) :: post, q.1 ≠ src → h'.get? q.1 = some q.2 ∧ q.1 ≠ L ∧ g.get? q.1 = none := fun q hq hne => ⟨stA _ _ (fun z => by rcases List.mem_cons.mp z with z | z; exact hne z; exact (N q hq).2.1 (List.mem_singleton.mp z)) (N q hq).1, (N q hq).2⟩
        rcases List.mem_append.mp hp with hp | hp
        · exact off p (List.mem_append_left _ hp) (hp1 p hp)
        · rcases List.mem_cons.mp hp with rfl | hp
          · exact ⟨ho₂, hsN.2⟩
          · exact off p (List.mem_append_right _ (.tail _ hp)) (hp2 p hp)
    · obtain ⟨v, a, b⟩ := Y.res i y' e
      exact ⟨v, a, hT _ _ _ _ _ (fun a o r => mem_diff.mpr ⟨r.1, no _ r.2⟩) b⟩
end
theorem CompPost.mono' {α : Type} {n : Nat} {P : Nat → Value → Prop} {P' : Look → Value → α → Prop} {O : Look} {y : Value} (h : CompPost n P (fun _ _ O y => ∃ a, P' O y a) O y) : CompPost n P (fun i _ O y => ∃ a, P' O y a ∧ True) O y := by
  obtain ⟨D, ys, rfl, h1, h2, h3⟩ := h
  exact ⟨D, ys, rfl, h1, h2, fun i y' e => by obtain ⟨v, a, x, b⟩ := h3 i y' e; exact ⟨v, a, x, b, trivial⟩⟩
theorem ne_list {h : Heap} {a b : Addr} {vs ws : List Value} {n k : Nat} (e1 : h.get? a = some (listOf vs.toArray n)) (e2 : h.get? b = some (listOf ws.toArray k)) (hl : vs.length ≠ ws.length) : a ≠ b := fun e => by
  rw [e, e2] at e1
  have := congrArg (fun x : Option Obj => x.elim 0 fun o => match o.data with | .seq a _ => a.size | _ => 0) e1
  simp at this
  exact hl this.symm
end

section
open PySem PySem.W PyProof.Rows PyProof.Rows.LCg PySem.Calls
set_option maxRecDepth 100000
set_option maxHeartbeats 4000000
/-- how a cut ends: the frame and the ledger as they were, the value by P -/
inductive CutV {α : Type} (g : Heap) (L : Addr) (m : Str → Option Value) (led : List (Addr × Obj)) (s : Shared) (P : α → Prop) (v : α) (s' : Shared) : Prop
  | mk : ∀ h' tk', s' = { s with heap := h', toks := tk' } → Fr g L h' m → News g L h' led → P v → CutV g L m led s P v s'
theorem CutV.intro {α : Type} {g : Heap} {L : Addr} {m : Str → Option Value} {led led' : List (Addr × Obj)} {s : Shared} {P : α → Prop} {v : α} {h' : Heap} {tk' : Nat} (F : Fr g L h' m) (N : News g L h' led') (sub : ∀ p ∈ led, p ∈ led') (p : P v) : CutV g L m led s P v { s with heap := h', toks := tk' } :=
  ⟨h', tk', rfl, F, fun q hq => N q (sub q hq), p⟩
theorem cut {α : Type} {M : Model} {A : Around} {t : Sem α} {g : Heap} {L : Addr} {m : Str → Option Value} {led : List (Addr × Obj)} {s : Shared} {Q : α → Shared → Prop} {E : Value → Shared → Prop} (P : α → Prop) (_ : Fr g L s.heap m) (_ : News g L s.heap led) (h : wpAny M A t (CutV g L m led s P) (fun _ _ => False) s)
    (k : ∀ v h' tk', Fr g L h' m → News g L h' led → P v → Q v { s with heap := h', toks := tk' }) : wpAny M A t Q E s :=
  wpAny_mono h (fun v s' hc => by obtain ⟨h', tk', rfl, F, N, p⟩ := hc; exact k v h' tk' F N p) fun _ _ e => e.elim
end

section
open PySem PySem.W PyProof.Rows PyProof.Rows.LCg PySem.Calls
set_option maxRecDepth 100000
set_option maxHeartbeats 4000000
theorem LL.elim {α : Type} {P : Look → Value → α → Prop} {O : Look} {v : Value} {xs : List α} (h : LL P O v xs) {C : Prop}
    (k : ∀ (a : Addr) (vs : List Value) (n : Nat), v = .ref a → O a (listOf vs.toArray n) → vs.length = xs.length → (∀ (i : Nat) v x, vs[i]? = some v → xs[i]? = some x → P O v x) → C) : C := by
  obtain ⟨a, vs, n, e, h1, h2, h3⟩ := h
  exact k a vs n e h1 h2 h3
theorem PL.elim {O : Look} {v : Value} {p : Pln} (h : PL O v p) {C : Prop}
    (k : ∀ (a d : Addr) (e1 e2 e3 : Int) (t1 t2 t3 t4 t5 : Tok) (rv : Value) (n : Nat), v = .ref a → O a (instObj 77 d) → O d (dictOf [⟨e1, .str (Str.ofString "width") t1, .int p.w t2⟩, ⟨e2, .str (Str.ofString "height") t3, .int p.h t4⟩, ⟨e3, .str (Str.ofString "rows") t5, rv⟩] n) → RW O rv p.rows → C) : C := by
  obtain ⟨a, d, e1, e2, e3, t1, t2, t3, t4, t5, rv, n, e, h1, h2, h3⟩ := h
  exact k a d e1 e2 e3 t1 t2 t3 t4 t5 rv n e h1 h2 h3
theorem PC.elim {O : Look} {v : Value} {p : Pic} (h : PC O v p) {C : Prop}
    (k : ∀ (a d : Addr) (e1 e2 e3 : Int) (t1 t2 t3 t4 t5 : Tok) (rv : Value) (n : Nat), v = .ref a → O a (instObj 115 d) → O d (dictOf [⟨e1, .str (Str.ofString "model") t1, .str p.model t2⟩, ⟨e2, .str (Str.ofString "precision") t3, .int p.prec t4⟩, ⟨e3, .str (Str.ofString "planes") t5, rv⟩] n) → PLS O rv p.planes → C) : C := by
  obtain ⟨a, d, e1, e2, e3, t1, t2, t3, t4, t5, rv, n, e, h1, h2, h3⟩ := h
  exact k a d e1 e2 e3 t1 t2 t3 t4 t5 rv n e h1 h2 h3
theorem CompPost.elim {n : Nat} {P : Nat → Value → Prop} {T : Nat → Value → Look → Value → Prop} {O : Look} {y : Value} (h : CompPost n P T O y) {C : Prop}
    (k : ∀ D ys, y = .ref D → O D (lst ys) → ys.length = n → (∀ (i : Nat) y', ys[i]? = some y' → ∃ v, P i v ∧ T i v O y') → C) : C := by
  obtain ⟨D, ys, e, h1, h2, h3⟩ := h
  exact k D ys e h1 h2 h3
section
variable {prog : Program} {w : World} {A : Around} {env : Env} {g : Heap} {L : Addr} {m : Str → Option Value} {x : Str} {body : List Stmt} {Q : Flow → Shared → Prop} {E : Value → Shared → Prop} {R : Nat → List (Addr × Obj) → Prop} {n : Nat} {s₁ : Shared}
theorem ForR1.intro {r : Addr} {b : Int} {t u v : Tok} {led₁ : List (Addr × Obj)} (F : Fr g L s₁.heap m) (N : News g L s₁.heap led₁) (hr : IsRange s₁.heap r 0 b 1 t u v) (h1 : Builtin.Range.small 0 b 1 = true) (h2 : Builtin.Range.rangeSize 0 b 1 = ((n : Nat) : Int)) (hR : R 0 led₁)
    (turn : ∀ (i : Nat) t I led' (s' : Shared) own, i < n → R i led' → (∀ p ∈ led', p.1 ≠ I) → (∀ p ∈ own, p.1 = I) → (∃ oI, (I, oI) ∈ own) → Fr g L s'.heap (fun z => if z = x then some (.int (i : Int) t) else m z) → News g L s'.heap (led' ++ own) →
      wpAny (model prog w) A (execs body env) (ForEnd1 g L I own (fun z => if z = x then some (.int (i : Int) t) else m z) (R (i + 1)) s') E s')
    (done : ∀ h' tk' u led', Fr g L h' (fun z => if z = x then u else m z) → News g L h' led' → R n led' → Q .next { s₁ with heap := h', toks := tk' }) : ForR1 prog w A env g L m x body Q E R n (.ref r) s₁ :=
  ⟨r, b, t, u, v, led₁, rfl, F, N, hr, h1, h2, hR, turn, done⟩
theorem ForL1.intro {vs : List Value} {ax : Addr} {led₁ : List (Addr × Obj)} (F : Fr g L s₁.heap m) (N : News g L s₁.heap led₁) (hl : s₁.heap.IsList ax vs.toArray) (hR : R 0 led₁)
    (turn : ∀ i v I led' (s' : Shared) own, vs[i]? = some v → R i led' → (∀ p ∈ led', p.1 ≠ I) → (∀ p ∈ own, p.1 = I ∨ p.1 = ax) → (∃ oI, (I, oI) ∈ own) → Fr g L s'.heap (fun z => if z = x then some v else m z) → News g L s'.heap (led' ++ own) →
      wpAny (model prog w) A (execs body env) (ForEnd1 g L I own (fun z => if z = x then some v else m z) (R (i + 1)) s') E s')
    (done : ∀ h' tk' u led', Fr g L h' (fun z => if z = x then u else m z) → News g L h' led' → R vs.length led' → Q .next { s₁ with heap := h', toks := tk' }) : ForL1 prog w A env g L m x body Q E R vs (.ref ax) s₁ :=
  ⟨ax, led₁, rfl, F, N, hl, hR, turn, done⟩
end
theorem EltEndS.intro {g : Heap} {L src : Addr} {m : Str → Option Value} {led led' : List (Addr × Obj)} {s : Shared} {Post : Look → Value → Prop} {y : Value} {h' : Heap} {tk' : Nat} {a b : Int} {ta tb : Tok} {n : Nat}
    (F : Fr g L h' m) (N : News g L h' led') (hm : (src, listOf #[.int a ta, .int b tb] n) ∈ led') (a0 : 0 ≤ a) (b0 : 0 ≤ b) (b1 : b < 2147483647) (sub : ∀ p ∈ led, p.1 ≠ src → p ∈ led') (po : Post (NewO s.heap h') y) : EltEndS g L src m led s Post y { s with heap := h', toks := tk' } :=
  ⟨h', tk', rfl, F, ⟨_, (N _ hm).1, _, _, _, _, _, rfl, a0, b0, b1⟩, fun p hp hne => (N p (sub p hp hne)).1, po⟩
noncomputable def offS (src : Addr) (led : List (Addr × Obj)) : List (Addr × Obj) := led.filter fun p => p.1 != src
theorem mem_offS {src : Addr} {led : List (Addr × Obj)} {p : Addr × Obj} (h : p ∈ led) (hne : p.1 ≠ src) : p ∈ offS src led := List.mem_filter.mpr ⟨h, by simpa using hne⟩
theorem of_offS {src : Addr} {led : List (Addr × Obj)} {p : Addr × Obj} (h : p ∈ offS src led) : p ∈ led ∧ p.1 ≠ src := by
  obtain ⟨a, b⟩ := List.mem_filter.mp h
  exact ⟨a, by simpa using b⟩
theorem upd_offS {src : Addr} {o : Obj} {led : List (Addr × Obj)} : UpdF src o ((src, o) :: offS src led) (fun o' => (src, o') :: offS src led) := .head fun _ hp => (of_offS hp).2
theorem news_offS {g h : Heap} {L src : Addr} {o : Obj} {led : List (Addr × Obj)} (N : News g L h led) (hm : (src, o) ∈ led) : News g L h ((src, o) :: offS src led) := fun p hp => by
  rcases List.mem_cons.mp hp with rfl | hp
  · exact N _ hm
  · exact N _ (of_offS hp).1
end

section
open PySem PySem.Calls PySem.W PyProof.Rows
set_option maxRecDepth 100000
set_option maxHeartbeats 4000000
/-- an exception of class 44 as it is made, and with its dict -/
noncomputable abbrev exc44 (dd : Option Addr) (t : Addr) : Obj := { cls := .ref 44, dict := dd, data := .fields #[.ref t, .none, .none, .none, .bool false, .none] }
section
variable {w : World} {A : Around} {E : Value → Shared → Prop}
theorem check_init_own {h : Heap} {g : Array GenState} {d : Drawn} {t : Nat} {os : OsState} {e : Addr} {oe : Obj} {rest : List Value} {Q : Unit → Shared → Prop} (X : (KK w.params).In h)
    (he : h.get? e = some oe) (hcls : oe.cls = .ref 44) (hq : Q () ⟨h, g, d, t, os⟩) :
    wpAny (model PR w) A (checkBuiltinCall "Exception.__init__" ⟨.ref e :: rest, []⟩) Q E ⟨h, g, d, t, os⟩ := by
  have hC := X _ _ (get44 w.params)
  have hcB : (Value.ref 44 :: bm44).contains (.type "Exception") = true := by rw [List.contains_cons, has44.1, Bool.or_true]
  have F := PySem.F.excBase_Exception
  have hshort := F.noStar
  simp only [checkBuiltinCall, F.initKind, F.initSplit, F.initRow]
  repeat (first | (with_reducible refine wpAny_loadPart_at he ?_; rw [hcls]) | with_reducible refine wpAny_loadPart_at hC ?_ | (with_reducible refine wpAny_isSubtype_exc hC ?_; rw [hcB]) | wp_step)
  refine wpAny_onRaise ?_
  rw [show ∀ (a b : String) (n : Nat), Bind.check ⟨.positional, "*", "Exception", .self, [⟨"args", .varPos, false⟩]⟩ a b n (List.map (fun x => x.fst) ({ pos := Value.ref e :: rest } : Args).kw) = pure () from
    fun a b n => check_star_args _ _ _ _ _ _]
  exact wpAny_pure hq
theorem init_put {s : Shared} {g : Heap} {L e t0 : Addr} {m : Str → Option Value} {v : Value} {Q : Value → Shared → Prop} (F : Fr g L s.heap m) (X : (KK w.params).In g) (N : News g L s.heap [(e, exc44 none t0)])
    (k : ∀ h' t1, Fr g L h' m → News g L h' [(e, exc44 none t1)] → Q .none { s with heap := h' }) :
    wpAny (model PR w) A (call (.builtin "Exception.__init__") [.ref e, v]) Q E s := by
  obtain ⟨h, gs, dr, tk, os⟩ := s
  have he := (N _ (.head _)).1
  refine wpAny_call (codeAny_call_builtin PySem.F.excBase_Exception.init.plain PySem.F.excBase_Exception.initEntry (check_init_own (X.keeps F.keep) he rfl ?_))
  unfold Builtin.«BaseException.__init__»
  dsimp only
  rw [if_neg (by simp)]
  unfold newTuple Builtin.BaseException.bexcPut
  have he₁ := Heap.get?_push_of_some (h := h) { cls := .type "tuple", data := .seq [v].toArray } he
  refine wpAny_bind (wpAny_newObj_type (wpAny_bind (wpAny_bind (wpAny_field he₁ rfl rfl (wpAny_bind (wpAny_setField he₁ rfl (by show (0 : Nat) < 6; omega) ?_))))) (by show 1 ≤ sizeLine; rw [sizeLine_eq]; omega))
  refine wpAny_letGo (wpAny_pure (k _ h.objs.size ?_ ?_))
  · refine ⟨?_, fun b o hb => ?_, F.above⟩
    · obtain ⟨o, es, ep, ho, r⟩ := F.ns
      exact ⟨o, es, ep, (Heap.get?_update_other _ _ (N _ (.head _)).2.1).trans (Heap.get?_push_of_some _ ho), r⟩
    · exact (Heap.get?_update_other _ _ (fun z => by have := (N _ (.head _)).2.2; rw [show e = b from z, hb] at this; cases this)).trans (Heap.get?_push_of_some _ (F.keep b o hb))
  · intro p hp
    rw [List.mem_singleton.mp hp]
    exact ⟨Heap.get?_update_self _ he₁ rfl, (N _ (.head _)).2⟩
theorem set_msg {s : Shared} {g : Heap} {L e t1 : Addr} {m : Str → Option Value} {v : Value} {Q : Unit → Shared → Prop} (F : Fr g L s.heap m) (X : (KK w.params).In g) (N : News g L s.heap [(e, exc44 none t1)])
    (k : ∀ h' tk' d, Fr g L h' m → h'.get? e = some (exc44 (some d) t1) → h'.Ns1 d (fun y => if y = "message" then some v else none) → g.get? d = none → d ≠ e → Q () { s with heap := h', toks := tk' }) :
    wpAny (model PR w) A (setAttr (.ref e) "message" v) Q E s := by
  obtain ⟨h, gs, dr, tk, os⟩ := s
  have he := (N _ (.head _)).1
  have X' := X.keeps F.keep
  refine store_attr_own has44.2.1 (sa_loop _ _ _) (X' _ _ (get44 w.params)) (looks_findIn X' (find44_msg _)) (looks_findIn X' (find44_set _)) he rfl (fun c z => by cases z) rfl fun h' tk' a b c => ?_
  refine k h' tk' _ ⟨?_, fun b o hb => ?_, F.above⟩ a b F.fresh (Nat.ne_of_gt (Heap.lt_size he))
  · obtain ⟨o, es, ep, ho, r⟩ := F.ns
    exact ⟨o, es, ep, c _ _ (fun z => (N _ (.head _)).2.1 z.symm) ho, r⟩
  · exact c _ _ (fun z => by have := (N _ (.head _)).2.2; rw [← show b = e from z, hb] at this; cases this) (F.keep b o hb)
end
end

open PySem PySem.W PyProof.Rows PyProof.Rows.LCg PySem.Calls
set_option maxRecDepth 100000
set_option maxHeartbeats 8000000
theorem filled : PySem.Challenge.rw_nt0558_01 = PySem.Challenge.rw_nt0558_01 ∧ KK = KK := by
  k_fill
  exact ⟨rfl, rfl⟩
set_option compiler.extract_closed false
local macro_rules | `(tactic| k_all) => `(tactic| assumption)
local macro_rules | `(tactic| k_all) => `(tactic| (intro p hp; first | omega | exact absurd hp (List.not_mem_nil)))
local macro_rules | `(tactic| ktr_room) => `(tactic| first | walk_at "rm" | ((try simp only [depth_under_make, depth_under_kw, depth_in1, depth_deeper, depth_caller, units_in1, units_deeper, Around.mark_units, units_caller] at *); (try dsimp only [AT] at *); omega))
local macro_rules | `(tactic| k_room) => `(tactic| ktr_room)
local macro_rules | `(tactic| k_inst) => `(tactic| exact inst_base (by k_asm) (by assumption) (by assumption))
local macro_rules | `(tactic| walk_at "eval ListComp") => `(tactic| walk_at "st")
local macro_rules | `(tactic| walk_at "eval Name") => `(tactic| (k_here; (refine ld_holds (by assumption) (by exact rfl) ?_)))
local macro_rules | `(tactic| walk_at "rm") => `(tactic| first | exact bump (by assumption) (by exact rfl) | exact bump0 (by assumption) (by exact rfl))
local macro_rules | `(tactic| walk_at "execs cons") => `(tactic| (k_here; dsimp only))
local macro_rules | `(tactic| walk_at "exec For") => `(tactic| walk_at "st")
local macro_rules | `(tactic| walk_at "exec Assign cons ListComp") => `(tactic| walk_at "st")
local macro_rules | `(tactic| walk_at "exec For Name Attribute cons nil") => `(tactic| walk_at "st")
local macro_rules | `(tactic| walk_at "exec For Name Call cons nil") => `(tactic| walk_at "st")
local macro_rules | `(tactic| walk_at "exec For Tuple Call cons nil") => `(tactic| walk_at "st")
local macro_rules | `(tactic| walk_at "cj") => `(tactic| with_reducible first | (apply cj1; assumption) | (apply cj2; assumption) | (apply cj3; assumption) | (apply cj4; assumption) | (apply cj5; assumption) | (apply cj6; assumption) | (apply ck2; assumption) | (apply ck3; assumption) | (apply ck4; assumption) | (apply ck5; assumption) | (apply ck6; assumption) | (apply ck7; assumption))
local macro_rules | `(tactic| walk_at "up") => `(tactic| first | assumption | exact Nat.lt_succ_self _ | walk_at "cj" | (refine Nat.lt_succ_of_lt ?_; walk_at "up"))
local macro_rules | `(tactic| k_ne) => `(tactic| (refine neN ?_; (try dsimp only); first | exact Nat.ne_of_gt (by walk_at "up") | exact Nat.ne_of_lt (by walk_at "up") | omega | exact ne_via (by assumption) (by k_mem) (by omega)))
local macro_rules | `(tactic| k_upd) => `(tactic| (refine' Upd.app ?a ?b; (case a => assumption); (case b => k_upd)))
local macro_rules | `(tactic| k_updF) => `(tactic| (refine' UpdF.app ?a ?b; (case a => assumption); (case b => k_updF)))
local macro_rules | `(tactic| ktr_units) => `(tactic| ktr_room)
local macro_rules | `(tactic| k_allIn) => `(tactic| first | assumption | ((first | apply PC.mono | apply PLS.mono | apply PL.mono | apply PRS.mono | apply RW.mono | apply IL.mono | apply TU.mono); rotate_left; assumption; first | exact fun a o e => Fr.keep (by k_asm) a o e | exact fun a o e => (show News _ _ _ _ by k_asm) (a, o) (by repeat (first | exact e | exact List.mem_append_left _ e | apply List.mem_append_right | apply List.Mem.tail)) |>.1))
local macro_rules | `(tactic| walk_at "st") => `(tactic| (k_here; refine Stop.go ?_))
local macro_rules | `(tactic| walk_at "km") => `(tactic| ((repeat (first | assumption | exact List.mem_append_left _ (by assumption) | apply List.mem_append_right | exact List.Mem.head _ | apply List.Mem.tail)); done))
local macro_rules | `(tactic| walk_at "h") => `(tactic| first | k_asm | exact rfl | walk_at "rm" | k_allIn | omega | (simp only [List.length_map]; assumption) | ktr_room)
local macro_rules | `(tactic| walk_at "u") => `(tactic| (k_asm; k_asm; walk_at "fn"))
local macro_rules | `(tactic| walk_at "use") => `(tactic| first | (apply use_val; walk_at "u") | (apply use_eq; walk_at "u") | (apply use_mid; walk_at "u") | (apply use_tp3; walk_at "u") | (apply use_tp4; walk_at "u") | (apply use_tpR; walk_at "u") | (apply use_pl; walk_at "u") | (apply use_prs; walk_at "u") | (apply use_pc; walk_at "u") | (apply use_int; walk_at "u"))
local macro_rules | `(tactic| walk_at "call ref") => `(tactic| (k_here; k_dflt (walk_at "use"; intros; (try dsimp only); (try k_fold))))
local macro_rules | `(tactic| walk_at "ix") => `(tactic| first | decide | omega)
local macro_rules | `(tactic| walk_at "ie") => `(tactic| first | with_reducible assumption | exact rfl | assumption)
local macro_rules | `(tactic| walk_at "i2") => `(tactic| (walk_at "ix"; walk_at "ix"; walk_at "ie"; rotate_left; with_unfolding_all rfl))
local macro_rules | `(tactic| walk_at "it") => `(tactic| (k_here; (with_reducible show wpAny _ _ (subscriptTail _ _ (Value.ref _) (Value.int _ _)) _ _ _); k_dflt ((first | (apply item_base; k_asm; assumption; walk_at "i2") | (apply item_led; k_asm; (focus walk_at "km"); walk_at "i2") | (apply tup_led; k_asm; (focus walk_at "km"); walk_at "i2")); k_whole)))
local macro_rules | `(tactic| walk_at "ad") => `(tactic| all_goals (first | assumption | decide))
local macro_rules | `(tactic| omega) => `(tactic| with_reducible first | assumption | exact Nat.le_refl _ | exact Int.natCast_nonneg _ | exact omB | (apply om0; walk_at "ad") | (apply om1; walk_at "ad") | (apply omI; walk_at "ad") | (apply om2; walk_at "ad") | (apply om3; walk_at "ad") | (apply om5; walk_at "ad") | (apply om4; walk_at "ad") | (apply om6; walk_at "ad") | (apply om7; walk_at "ad") | (apply omA; walk_at "ad") | (apply omD; walk_at "ad"))
local macro_rules | `(tactic| walk_at "exec If") => `(tactic| (k_here; (with_reducible refine wpAny_If ?_); k_dflt (refine wpFold ?_); intro qk))

section
open PySem PySem.W PyProof.Rows PyProof.Rows.LCg PySem.Calls
set_option maxRecDepth 100000
set_option maxHeartbeats 8000000
section
variable {w : World} {mean : ExcName → Option Value} {mg mb : Str → Option Value} {dp un : Nat} {gd : Option (List Code)} {env : Env} {outer : List Env} {A₀ : Around} {base h₀ : Heap} {L : Addr} {m : Str → Option Value} {s : Shared}

theorem meta_Exception : typeOf (.type "Exception") = pure (.type "type") := kitMeta_of (by decide +kernel)
theorem cls_init (P : Params) : findCls (KK P) (.type "Exception") (.type "type") "__init__" = some (.val (.builtin "Exception.__init__")) := by kernel_rfl
local macro_rules | `(tactic| walk_at "getMethod type:Exception") => `(tactic| (k_here; refine' method_type ?F ?X ?m (by decide +kernel) ?e ?h ?_; (case F => k_asm); (case X => k_asm); (case m => exact meta_Exception); (case e => k_dflt (exact cls_init _)); (case h => k_handed)))
local macro_rules | `(tactic| walk_at "call builtin:Exception.__init__") => `(tactic| (k_here; k_dflt (refine init_put (by k_asm) (by k_asm) (by k_asm) ?_; intro h1' t1' F1' N1')))
local macro_rules | `(tactic| walk_at "setAttr ref") => `(tactic| (k_here; k_dflt (refine set_msg (by k_asm) (by k_asm) (by k_asm) ?_; intro h2' tk2' d' F2' he2' hd2' gd2' ne2')))
theorem init_ok {A : Around} {e t0 : Addr} {msg : Str} {mt : Tok} (B : Below A₀ base outer h₀) (F : Fr h₀ L s.heap m) (X : (KK w.params).In h₀) (T : Top VV LO mean mg mb h₀) (hA : A.frames = some (env :: outer)) (hf : env.frame = some L) (hk : env.scope.kind = .function) (hd : A.depth + 5 < recursionLimit)
    (N : News h₀ L s.heap [(e, exc44 none t0)]) :
    Eff (model PR w) A (call (.ref 28) [.ref e, .str msg mt]) s [e] (fun h' => ∃ d t1, h'.get? e = some (exc44 (some d) t1) ∧ h'.Ns1 d (fun y => if y = "message" then some (.str msg mt) else none) ∧ s.heap.get? d = none) (fun _ r => r = .none) := by
  k_dflt (refine' call_E (Wn := [(_, _)]) ?kB ?kF ?kX ?kT hA ?kf ?kk N ?ko ?kc ?kr ?kb ?kl ?km ?_ ?c1 ?c2 ?c3 ?c4; (case kB => assumption); (case kF => assumption); (case kX => assumption); (case kT => assumption); (case kf => assumption); (case kk => assumption); (case ko => k_is); (case kc => k_is); (case kr => ktr_room); (case kb => exact BindsTo.of_eq rfl); (case c4 => decide); (case kl => exact locs rfl); (case c1 => exact rfl); (case c2 => exact rfl); (case c3 => exact rfl))
  case km => exact fun _ _ _ _ h => h
  intro g L' h₁ F' N' B' X' T' G'
  k_fold
  k_steps
  rename_i h2 tk2 d2 F2 he2 hd2 gd2 ne2
  refine BodyEnd.intro F2 ⟨_, _, he2, hd2, ?_⟩ rfl
  cases q : s.heap.get? d2 with
  | none => rfl
  | some o' => have := G' _ o' q (fun z => ne2 (List.mem_singleton.mp z)); rw [gd2] at this; cases this
end
end

section
open PySem PySem.Calls PySem.W PyProof.Rows
set_option maxRecDepth 100000
set_option maxHeartbeats 4000000
theorem cls28 (P : Params) : ((KK P).lookup 28).map (·.cls) = some (.type "function") := by kernel_rfl
theorem get28 (P : Params) : ∃ o, (KK P).lookup 28 = some o ∧ o.cls = .type "function" := by
  have := cls28 P
  cases e : (KK P).lookup 28 with
  | none => rw [e] at this; cases this
  | some o => rw [e] at this; exact ⟨o, rfl, Option.some.inj this⟩
/-- an exception of class 44, made and told its message -/
inductive Made44 (h h' : Heap) (e : Addr) (msg : Str) : Prop
  | mk (d t1 : Addr) (mt : Tok) (keep : ∀ b o, h.get? b = some o → h'.get? b = some o) (new : h.get? e = none) (he : h'.get? e = some (exc44 (some d) t1)) (hd : h'.Ns1 d (fun y => if y = "message" then some (.str msg mt) else none)) (hn : h.get? d = none)
section
variable {w : World} {mean : ExcName → Option Value} {mg mb : Str → Option Value} {dp un : Nat} {gd : Option (List Code)} {env : Env} {outer : List Env} {A₀ : Around} {base h₀ : Heap} {L : Addr} {m : Str → Option Value} {s : Shared} {E : Value → Shared → Prop}
theorem new_range {msg : Str} {mt : Tok} {Q : Value → Shared → Prop} (B : Below A₀ base outer h₀) (F : Fr h₀ L s.heap m) (X : (KK w.params).In h₀) (T : Top VV LO mean mg mb h₀) (hf : env.frame = some L) (hk : env.scope.kind = .function) (hd : dp + 8 < recursionLimit)
    (k : ∀ h' tk' e, Made44 s.heap h' e msg → Q (.ref e) { s with heap := h', toks := tk' }) :
    wpAny (model PR w) (AT dp un gd env outer) (call (.ref 44) [.str msg mt]) Q E s := by
  obtain ⟨h, gs, dr, tk, os⟩ := s
  have X' := X.keeps F.keep
  obtain ⟨oI, hI, hIc⟩ := get28 w.params
  refine call_own PySem.F.excBase_Exception has44.1 has44.2.2.1 has44.2.2.2.1 (X' _ _ (get44 w.params)) (looks_findIn X' (find44_init _)) (X' _ _ hI) hIc (fun h' e hm => ?_) (by show 1 ≤ sizeLine; rw [sizeLine_eq]; omega)
  obtain ⟨t, he, htn, ht⟩ := hm.there
  have F' : Fr h₀ L h' m := F.keeps hm.keeps
  have eL : e ≠ L := fun z => by
    obtain ⟨o, es, ep, ho, _⟩ := F.ns
    rw [← z] at ho; have := hm.new; rw [ho] at this; cases this
  have eg : h₀.get? e = none := F.noneBack hm.new
  refine (init_ok (s := ⟨h', gs, dr, tk, os⟩) (e := e) (t0 := t) B F' X T (A := (AT dp un gd env outer).under _) rfl hf hk (by show dp + 1 + 5 < recursionLimit; omega) (fun p hp => by rw [List.mem_singleton.mp hp]; exact ⟨he, eL, eg⟩)).use fun y h'' tk'' st inv po => ?_
  obtain ⟨d, t1, e1, e2, e3⟩ := inv
  have dn : h.get? d = none := by
    cases q : h.get? d with
    | none => rfl
    | some o => have := hm.keeps _ _ q; rw [e3] at this; cases this
  exact ⟨po, k _ _ _ ⟨d, t1, mt, fun b o q => st b o (fun z => by rw [List.mem_singleton.mp z] at q; have := hm.new; rw [q] at this; cases this) (hm.keeps _ _ q), hm.new, e1, e2, dn⟩⟩
end
end

section
open PySem PySem.Calls PySem.W PyProof.Rows
set_option maxRecDepth 100000
set_option maxHeartbeats 4000000
theorem dict_mapFields (o : Obj) (f) : (o.mapFields f).dict = o.dict := by unfold Obj.mapFields; split <;> rfl
/-- an exception of class 44 with its dict and its newest entry, whose flight is fl -/
inductive TrD (B h : Heap) (e d : Addr) (fl : Value) : Prop
  | mk (oe : Obj) (vs : Array Value) (T : Addr) (oT : Obj) (ts : Array Value) (he : h.get? e = some oe) (hc : oe.cls = .ref 44) (hd : oe.dict = some d) (hv : oe.data = .fields vs) (h1 : vs[1]? = some (.ref T)) (h2 : vs[2]? = some .none) (hn : B.get? T = none) (ne : T ≠ e) (hT : h.get? T = some oT) (hts : oT.data = .fields ts) (h3 : ts[3]? = some fl)
/-- what a station leaves -/
inductive Sta (B : Heap) (l : List Env) (e d : Addr) (fl : Value) (h h' : Heap) : Prop
  | mk (st : B.StaysIn h') (fr : h'.FunFrames B l) (tr : TrD B h' e d fl) (sl : h.UpToSlots h')
section
variable {M : Model} {A : Around} {E : Value → Shared → Prop} {s : Shared} {B : Heap} {env : Env} {outer : List Env} {L e d : Addr} {Q : Unit → Shared → Prop}
theorem entryD {oe : Obj} {vs : Array Value} {head : Value} {hadNext : Bool} (hfr : A.frames = some (env :: outer)) (hl : s.heap.FunFrames B (env :: outer)) (hf : env.frame = some L)
    (he : s.heap.get? e = some oe) (hkb : B.StaysIn s.heap) (hen : B.get? e = none) (hc : oe.cls = .ref 44) (hdd : oe.dict = some d) (hd : oe.data = .fields vs) (hsz : 1 < vs.size) (hv2 : vs[2]? = some .none)
    (h : ∀ h', Sta B (env :: outer) e d (rawInt L) s.heap h' → Q () { s with heap := h' }) :
    wpAny M A (do let a ← frameOf env; let pl ← entryPlaceOf L hadNext; let b ← EntryCells.newEntry head a .none (rawInt L) .none pl; setField (.ref e) 1 b) Q E s := by
  have hene : e ∉ (env :: outer).filterMap (·.frame) := fun hm => by
    obtain ⟨_, o, ho, hnf⟩ := hl.mem hm
    rw [he] at ho; injection ho with ho; subst ho; exact hnf vs hd
  refine wpAny_bind (wpAny_frameOf_fun hfr hl hf fun h₁ hs₁ => ?_)
  refine wpAny_bind (wpAny_entryPlaceOf fun pl hpl => ?_)
  unfold EntryCells.newEntry newFields
  refine wpAny_bind (wpAny_newObj_type ?_ (hpl.sizeOk5 _ _ _ _ _))
  have he₁ : h₁.get? e = some oe := (hs₁.2.1 e hene).trans he
  have kb₁ : B.StaysIn h₁ := fun b o hbo => (hs₁.2.1 b fun hm => by rw [(hl.mem hm).1] at hbo; cases hbo).trans (hkb b o hbo)
  generalize hTo : ({ cls := .type "traceback", dict := none, data := .fields ([head, .ref L, .none, rawInt L, .none] ++ (if pl.isEmpty then List.replicate 6 Value.none else pl)).toArray } : Obj) = oT
  have he₂ := Heap.get?_push_of_some (h := h₁) oT he₁
  refine wpAny_setField he₂ hd hsz (h _ ?_)
  have hTe : h₁.objs.size ≠ e := Nat.ne_of_gt (Heap.lt_size he₁)
  have hd₃ := Obj.data_mapFields hd (·.setIfInBounds 1 (Value.ref h₁.objs.size))
  have he₃ := Heap.get?_update_self (Obj.mapFields (·.setIfInBounds 1 (Value.ref h₁.objs.size))) he₂ (Obj.isFreed_of_fields hd₃)
  have keep : ∀ b o, b ≠ e → h₁.get? b = some o → ((h₁.push oT).update e (Obj.mapFields (·.setIfInBounds 1 (Value.ref h₁.objs.size)))).get? b = some o := fun b o hbe hb =>
    (Heap.get?_update_other _ _ (Ne.symm hbe)).trans (Heap.get?_push_of_some _ hb)
  have noRecord : ∀ b o, s.heap.get? b = some o → (∀ vs, o.data ≠ .fields vs) → b ≠ e := fun b o hb hnf q => by
    rw [q, he] at hb; injection hb with hb; subst hb; exact hnf vs hd
  have sl : s.heap.UpToSlots _ := fun b o hb hnf => by
    obtain ⟨sl, hs⟩ := hs₁.2.2 b o hb
    exact ⟨sl, keep b _ (noRecord b o hb hnf) hs⟩
  refine ⟨fun b o hbo => keep b o (fun q => by rw [q, hen] at hbo; cases hbo) (kb₁ b o hbo), hl.of_keeps fun b o hb hnf => (sl b o hb hnf).imp' (fun sl => { o with slots := sl }) fun _ z => ⟨z, rfl⟩, ?_, sl⟩
  subst hTo
  exact ⟨_, _, h₁.objs.size, _, _, he₃, (Obj.cls_mapFields _ _).trans hc, (dict_mapFields _ _).trans hdd, hd₃, by simp [hsz], by rw [Array.getElem?_setIfInBounds_ne (by decide)]; exact hv2, kb₁.fresh, hTe, (Heap.get?_update_other _ _ (Ne.symm hTe)).trans (Heap.get?_push_size h₁ rfl), rfl, by first | (simp; done) | (rcases hpl with rfl | ⟨_, _, _, _, _, _, _, rfl⟩ <;> simp)⟩
theorem flightD {l : List Env} {fl : Value} (hkb : B.StaysIn s.heap) (hl : s.heap.FunFrames B l) (ht : TrD B s.heap e d fl) (h : ∀ h', Sta B l e d .none s.heap h' → Q () { s with heap := h' }) :
    wpAny M A (setFlight (.ref e) none) Q E s := by
  obtain ⟨oe, vs, T, oT, ts, he, hc, hdd, hd, h1, hv2, hnT, hTe, hT, hdT, h3⟩ := ht
  have hsz3 : 3 < ts.size := (Array.getElem?_eq_some_iff.mp h3).1
  unfold setFlight
  refine wpAny_bind (wpAny_field he hd h1 ?_)
  rw [if_pos (show (Value.ref T != Value.none) = true from by simp)]
  refine wpAny_setField hT hdT hsz3 (h _ ?_)
  have other : ∀ b, b ≠ T → (s.heap.update T (Obj.mapFields (·.setIfInBounds 3 ((none : Option Addr).elim Value.none fun f => rawInt f)))).get? b = s.heap.get? b := fun b hb => Heap.get?_update_other _ _ (Ne.symm hb)
  have noRecord : ∀ b o, s.heap.get? b = some o → (∀ vs, o.data ≠ .fields vs) → b ≠ T := fun b o hb hnf q => by
    rw [q, hT] at hb; injection hb with hb; subst hb; exact hnf ts hdT
  exact ⟨fun b o hbo => (other b fun q => by rw [q, hnT] at hbo; cases hbo).trans (hkb b o hbo), hl.of_keeps fun b o hb hnf => ⟨o, (other b (noRecord b o hb hnf)).trans hb, rfl⟩,
    ⟨oe, vs, T, _, _, (other e (Ne.symm hTe)).trans he, hc, hdd, hd, h1, hv2, hnT, hTe, Heap.get?_update_self _ hT (Obj.isFreed_of_fields (Obj.data_mapFields hdT _)), Obj.data_mapFields hdT _, by simp [hsz3]⟩, fun b o hb hnf => ⟨o.slots, (other b (noRecord b o hb hnf)).trans hb⟩⟩
/-- the frame in which it was made is left -/
theorem leave44 {t : Addr} (hfr : A.frames = some (env :: outer)) (hl : s.heap.FunFrames B (env :: outer)) (hf : env.frame = some L) (he : s.heap.get? e = some (exc44 (some d) t)) (hkb : B.StaysIn s.heap) (hen : B.get? e = none)
    (h : ∀ h', Sta B outer e d .none s.heap h' → Q () { s with heap := h' }) : wpAny M A (leaving env (.ref e)) Q E s := by
  unfold leaving noteFrame
  simp only [hf]
  refine wpAny_bind (wpAny_bind (wpAny_field he rfl (x := .none) rfl ?_))
  rw [if_neg (by decide)]
  refine entryD hfr hl hf he hkb hen rfl rfl rfl (by show (1 : Nat) < 6; omega) rfl fun h₁ q => ?_
  obtain ⟨a1, a2, a3, a4⟩ := q
  refine flightD (s := { s with heap := h₁ }) a1 a2 a3 fun h₂ q => ?_
  obtain ⟨b1, b2, b3, b4⟩ := q
  exact h _ ⟨b1, b2.2.2, b3, a4.trans b4⟩
/-- the frame that looks at it is noted -/
theorem look44 (hfr : A.frames = some (env :: outer)) (hf : env.frame = some L) (hkb : B.StaysIn s.heap) (hen : B.get? e = none) (hl : s.heap.FunFrames B (env :: outer)) (ht : TrD B s.heap e d .none)
    (h : ∀ h', Sta B (env :: outer) e d (rawInt L) s.heap h' → Q () { s with heap := h' }) : wpAny M A (noteFrame (.ref e) env) Q E s := by
  obtain ⟨oe, vs, T, oT, ts, he, hc, hdd, hd, h1, hv2, hnT, hTe, hT, hdT, h3⟩ := ht
  unfold noteFrame
  simp only [hf]
  refine wpAny_bind (wpAny_field he hd h1 ?_)
  rw [if_pos (show (Value.ref T != Value.none) = true from by simp)]
  refine wpAny_bind (wpAny_field hT hdT h3 ?_)
  rw [if_neg (show ¬ ((Value.none == rawInt L) = true) from by simp [rawInt])]
  refine wpAny_bind (wpAny_setField hT hdT (Array.getElem?_eq_some_iff.mp h3).1 ?_)
  have other : ∀ b, b ≠ T → (s.heap.update T (Obj.mapFields (·.setIfInBounds 3 Value.none))).get? b = s.heap.get? b := fun b hb => Heap.get?_update_other _ _ (Ne.symm hb)
  have noRecord : ∀ b o, s.heap.get? b = some o → (∀ vs, o.data ≠ .fields vs) → b ≠ T := fun b o hb hnf q => by
    rw [q, hT] at hb; injection hb with hb; subst hb; exact hnf ts hdT
  refine entryD hfr (hl.of_keeps fun b o hb hnf => ⟨o, (other b (noRecord b o hb hnf)).trans hb, rfl⟩) hf ((other e (Ne.symm hTe)).trans he)
    (fun b o hbo => (other b fun q => by rw [q, hnT] at hbo; cases hbo).trans (hkb b o hbo)) hen hc hdd hd (Array.getElem?_eq_some_iff.mp h1).1 hv2 fun h' q => ?_
  obtain ⟨a1, a2, a3, a4⟩ := q
  exact h _ ⟨a1, a2, a3, fun b o hb hnf => a4 b o ((other b (noRecord b o hb hnf)).trans hb) hnf⟩
end
end

section
open PySem PySem.Calls PySem.W PyProof.Rows
set_option maxRecDepth 100000
set_option maxHeartbeats 4000000
/-- how a body ends that raises -/
inductive RaiseEnd (g : Heap) (L' : Addr) (s : Shared) (ev : Value) (s' : Shared) : Prop
  | mk (h hx : Heap) (tk : Nat) (e : Addr) (m' : Str → Option Value) (msg : Str) (ee : ev = .ref e) (es : s' = { s with heap := hx, toks := tk }) (F : Fr g L' h m') (M : Made44 h hx e msg) (ne : msg ≠ "")
/-- what a caller sees of it: what was stays, off the frames -/
inductive Raised (l : List Env) (h h' : Heap) (e d : Addr) : Prop
  | mk (B : Heap) (msg : Str) (mt : Tok) (keep : ∀ b o, h.get? b = some o → b ∉ l.filterMap (·.frame) → B.get? b = some o) (st : B.StaysIn h') (new : B.get? e = none) (fr : h'.FunFrames B l) (tr : TrD B h' e d .none)
    (hd : h'.Ns1 d (fun y => if y = "message" then some (.str msg mt) else none)) (ne : msg ≠ "") (sl : h.UpToSlots h') (en : h.get? e = none) (dn : h.get? d = none)
theorem ns1_slots {h h' : Heap} {a : Addr} {m : Str → Option Value} (x : h.UpToSlots h') (hn : h.Ns1 a m) : h'.Ns1 a m := by
  obtain ⟨o, es, ep, ho, hd, r⟩ := hn
  obtain ⟨sl, hs⟩ := x a o ho fun vs q => by rw [hd] at q; cases q
  exact ⟨_, es, ep, hs, hd, r⟩
section
variable {w : World} {A : Around} {E : Value → Shared → Prop} {s : Shared}
theorem Raise44 {env : Env} {e₀ : Expr} {pos : Pos} {Q : Flow → Shared → Prop} (hh : A.handled = none)
    (h : wpAny (model PR w) A (eval e₀ env) (fun v s₁ => ∃ e d t, v = .ref e ∧ (KK w.params).In s₁.heap ∧ s₁.heap.get? e = some (exc44 (some d) t) ∧ E (.ref e) s₁) E s) : wpAny (model PR w) A (exec (.Raise (some e₀) none pos) env) Q E s := by
  have hcB : (Value.ref 44 :: bm44).contains (.type "BaseException") = true := by rw [List.contains_cons, has44.2.2.2.2, Bool.or_true]
  rw [arm_exec_Raise]
  refine wpAny_bind (wpAny_standAt ?_)
  rw [show evalOpt (some e₀) env = some (eval e₀ env) from rfl]
  try rw [show evalOpt none env = none from rfl]
  dsimp only [Option.map]
  unfold raiseStmt
  refine wpAny_bind (wpAny_bind (wpAny_mono h (fun v s₁ h₁ => wpAny_bind (wpAny_standAt (wpAny_pure ?_))) fun _ _ x => x))
  obtain ⟨e, d, t, rfl, X, he, hE⟩ := h₁
  have hC := X _ _ (get44 w.params)
  obtain ⟨hp, g, dr, tk, os⟩ := s₁
  repeat (first | with_reducible refine wpAny_loadPart_at he ?_ | with_reducible refine wpAny_loadPart_at hC ?_ | (with_reducible refine wpAny_isSubtype_exc hC ?_; rw [hcB]) | wp_step)
  exact wpAny_raiseNew_none hh hE
end
section
variable {w : World} {A₀ A : Around} {s : Shared} {L : Addr} {h₀ base : Heap} {m mg mb : Str → Option Value} {mean : ExcName → Option Value} {env : Env} {outer : List Env}
  {name qual : Str} {params : Arguments} {body : List Stmt} {scope : Scope} {dV kV doc pm cdv ct oc : Value} {an od : Option Addr} {osl : Array (Option Value)} {f : Addr} {vals : List Value} {binds : List (Str × Value)} {Q : Value → Shared → Prop} {E : Value → Shared → Prop}
theorem call_R (B : Below A₀ base outer h₀) (F : Fr h₀ L s.heap m) (X : (KK w.params).In h₀) (T : Top VV LO mean mg mb h₀) (hA : A.frames = some (env :: outer)) (hf : env.frame = some L) (hke : env.scope.kind = .function)
    (ho : (KK w.params).lookup f = some ⟨oc, od, .func (fnOf name qual params body scope dV kV doc pm an cdv ct), osl⟩) (hcd : codeIn (KK w.params) cdv qual = true) (hroom : A.depth < recursionLimit)
    (hbind : BindsTo s (fnOf name qual params body scope dV kV doc pm an cdv ct) ⟨vals, []⟩ binds) (hloc : ∀ y ∈ binds, scope.names.lookup y.1 = some .local)
    (h : ∀ g L' h₁, Fr g L' h₁ (fun y => binds.reverse.lookup y) → News g L' h₁ [] → Below A base (env :: outer) g → (KK w.params).In g → Top VV LO mean mg mb g → (∀ a o, s.heap.get? a = some o → g.get? a = some o) →
      wpAny (model PR w) (A.deeper (envOf qual scope L' f cdv)) (execs body (envOf qual scope L' f cdv)) (fun _ _ => False) (RaiseEnd g L' s) { s with heap := h₁, toks := s.toks + binds.length })
    (k : ∀ h' tk' e d, Raised (env :: outer) s.heap h' e d → E (.ref e) { s with heap := h', toks := tk' })
    (hco : scope.isCoroutine = false) (hgen : scope.isGenerator = false) (hk : scope.kind = .function) (hcell : ∀ x ∈ scope.names, x.2 ≠ .cell) :
    wpAny (model PR w) A (call (.ref f) vals) Q E s := by
  refine wpAny_call (code_defG B F X News.nil T hA hf hke ho hcd hroom hbind hloc (fun g L' h₁ FG F' N' B' X' T' G' => ?_) hco hgen hk hcell)
  have G := gsub_nil G'
  refine wpAny_mono (h g L' h₁ F' N' B' X' T' G) (fun fl s' hb => hb.elim) fun ev s' hb => ?_
  obtain ⟨hm, hx, tk, e, m', msg, rfl, rfl, F₂, ⟨d, t1, mt, keep, new, he, hd, hn⟩, ne⟩ := hb
  have back : ∀ {b : Addr}, hm.get? b = none → s.heap.get? b = none := fun {b} q => by
    cases z : s.heap.get? b with
    | none => rfl
    | some o => rw [F₂.keep b o (G b o z)] at q; cases q
  have K := B'.push (name := qual) (a := f) (cd := cdv) F₂ hk
  have hin : ∀ env' ∈ (envOf qual scope L' f cdv :: env :: outer), ∀ b, env'.frame = some b → b ∈ (envOf qual scope L' f cdv :: env :: outer).filterMap (·.frame) := fun env' q b hb => List.mem_filterMap.mpr ⟨env', q, hb⟩
  refine leave44 (B := hideAll hm ((envOf qual scope L' f cdv :: env :: outer).filterMap (·.frame))) K.stack ((funFrames_hide K.frames hin).of_keeps fun b o q _ => ⟨o, keep b o q, rfl⟩) rfl he (fun b o q => keep b o (of_hideAll _ q)) ?_ fun h' q => ?_
  · cases q : (hideAll hm ((envOf qual scope L' f cdv :: env :: outer).filterMap (·.frame))).get? e with
    | none => rfl
    | some o => have := of_hideAll _ q; rw [new] at this; cases this
  obtain ⟨a1, a2, a3, a4⟩ := q
  refine k h' tk e d ⟨_, msg, mt, fun b o q n => hideAll_get _ (F₂.keep b o (G b o q)) fun z => ?_, a1, ?_, a2, a3, ns1_slots a4 hd, ne, (Heap.UpToSlots.of_keeps fun b o q => keep b o (F₂.keep b o (G b o q))).trans a4, back new, back hn⟩
  · rcases List.mem_cons.mp z with z | z
    · exact absurd (Heap.lt_size (G b o q)) (by rw [show b = L' from z]; exact Nat.not_lt.mpr F₂.above)
    · exact n z
  · cases q : (hideAll hm ((envOf qual scope L' f cdv :: env :: outer).filterMap (·.frame))).get? e with
    | none => rfl
    | some o => have := of_hideAll _ q; rw [new] at this; cases this
end
end

section
open PySem PySem.Calls PySem.W PyProof.Rows
set_option maxRecDepth 100000
set_option maxHeartbeats 4000000
/-- a ground whose object at a has other slots -/
theorem slots_ground {g h h' : Heap} {Lf : Addr} (hl : ∃ o, g.get? Lf = some o ∧ ∀ vs, o.data ≠ .fields vs) (k : ∀ b o, g.get? b = some o → h.get? b = some o) (off : ∀ b o, g.get? b = some o → b ≠ Lf → h'.get? b = some o) (sl : h.UpToSlots h') :
    ∃ g', g'.objs.size = g.objs.size ∧ (∀ b o, g'.get? b = some o → h'.get? b = some o) ∧ (∀ b o, g.get? b = some o → b ≠ Lf → g'.get? b = some o) ∧ (∀ b, g.get? b = none → g'.get? b = none) ∧ g.UpToSlots g' := by
  obtain ⟨o, ho, hd⟩ := hl
  obtain ⟨sl', hs⟩ := sl Lf o (k _ _ ho) hd
  have hf : (fun o : Obj => { o with slots := sl' }) o = { o with slots := sl' } := rfl
  have hfr := (Heap.get?_some_iff.mp ho).2
  have self : (g.update Lf fun o => { o with slots := sl' }).get? Lf = some { o with slots := sl' } := Heap.get?_update_self _ ho (by
    have := hfr
    obtain ⟨oc, od, odt, osl⟩ := o
    cases odt <;> first | rfl | exact this)
  refine ⟨g.update Lf fun o => { o with slots := sl' }, Heap.size_after_update .., fun b p e => ?_, fun b p e n => (Heap.get?_update_ne _ _ _ _ n).trans e, fun b e => ?_, fun b p e _ => ?_⟩
  · by_cases z : b = Lf
    · subst z; rw [self] at e; cases e; exact hs
    · rw [Heap.get?_update_ne _ _ _ _ z] at e; exact off b p e z
  · have z : b ≠ Lf := fun z => by rw [z, ho] at e; cases e
    rw [Heap.get?_update_ne _ _ _ _ z]; exact e
  · by_cases z : b = Lf
    · subst z; rw [ho] at e; cases e; exact ⟨_, self⟩
    · exact ⟨p.slots, (Heap.get?_update_ne _ _ _ _ z).trans e⟩
/-- the exception as the clause finds it -/
inductive Caught (h : Heap) (e d : Addr) : Prop
  | mk (oe : Obj) (vs : Array Value) (msg : Str) (mt : Tok) (he : h.get? e = some oe) (hc : oe.cls = .ref 44) (hdd : oe.dict = some d) (hv : oe.data = .fields vs) (h2 : vs[2]? = some .none) (hd : h.Ns1 d (fun y => if y = "message" then some (.str msg mt) else none)) (ne : msg ≠ "")
section
variable {w : World} {A : Around} {E : Value → Shared → Prop} {s' : Shared} {g h₀ h : Heap} {env : Env} {L Lf a e d : Addr} {m mg mb : Str → Option Value} {name : Str} {scope : Scope} {cd : Value} {mean : ExcName → Option Value}
  {n x : Str} {b₀ : Stmt} {suite : List Stmt} {pos np : Pos} {rest : List ExceptHandler} {Q : Flow → Shared → Prop} {news : List (Addr × Obj)}
theorem catch44 (K : Below A h₀ [env] g) (X : (KK w.params).In h₀) (T : Top VV LO mean mg mb h₀) (F : Fr g L h m) (N : News g L h news) (hf : env.frame = some Lf) (R : Raised [envOf name scope L a cd, env] h s'.heap e d)
    (ex : nsIn (KK w.params) mainGlobals x = some (some (.ref 44)))
    (k : ∀ g' h' tk, (∀ b o, g.get? b = some o → b ≠ Lf → g'.get? b = some o) → Below A h₀ [env] g' → (KK w.params).In g' → Top VV LO mean mg mb g' → Fr g' L h' (fun y => if y = n then some (.ref e) else m y) → News g' L h' news → Caught h' e d →
      wpAny (model PR w) ((A.deeper (envOf name scope L a cd)).mark (some (.ref e))) (execs (b₀ :: suite) (envOf name scope L a cd))
        (fun f s₄ => wpAny (model PR w) (A.deeper (envOf name scope L a cd)) (do bindName (envOf name scope L a cd) n .none; unbindBehindTheSuite (envOf name scope L a cd) n pos) (fun _ s₅ => Q f s₅) E s₄) (fun _ _ => False) { s' with heap := h', toks := tk })
    (hk : scope.kind = .function := by rfl) (hlo : (envOf name scope L a cd).kindOf n = some .local := by rfl) (hx : (envOf name scope L a cd).kindOf x = some .globalImplicit := by rfl) (hd : (x == ("__debug__" : Str)) = false := by decide) :
    wpAny (model PR w) (A.deeper (envOf name scope L a cd)) (noteFrame (.ref e) (envOf name scope L a cd))
      (fun _ s₂ => wpAny (model PR w) (A.deeper (envOf name scope L a cd)) (setFlight (.ref e) none) (fun _ s₃ =>
        wpAny (model PR w) (A.deeper (envOf name scope L a cd)) (handleBy (.ref e) (envOf name scope L a cd) (.ExceptHandler (some (.Name x np)) (some n) (b₀ :: suite) pos :: rest)) Q E s₃) E s₂) E s' := by
  obtain ⟨B, msg, mt, keep, st, new, fr, tr, hdm, ne, sl, en, dn⟩ := R
  have K' := K.push (name := name) (a := a) (cd := cd) F hk
  refine look44 K'.stack rfl st new fr tr fun h₄ q => ?_
  obtain ⟨a1, a2, a3, a4⟩ := q
  refine flightD (s := { s' with heap := h₄ }) a1 a2 a3 fun h₅ q => ?_
  obtain ⟨b1, b2, b3, b4⟩ := q
  have sl₅ := (sl.trans a4).trans b4
  have nL : ∀ b o, g.get? b = some o → b ≠ L := fun b o q z => absurd (Heap.lt_size q) (by rw [z]; exact Nat.not_lt.mpr F.above)
  have off : ∀ h₂, B.StaysIn h₂ → ∀ b o, g.get? b = some o → b ≠ Lf → h₂.get? b = some o := fun h₂ z b o q n' => z b o (keep b o (F.keep b o q) fun y => by
    simp only [List.filterMap_cons, hf, List.filterMap_nil] at y
    rcases List.mem_cons.mp y with y | y
    · exact nL b o q y
    · exact n' (List.mem_singleton.mp y))
  have hLf : ∃ o, g.get? Lf = some o ∧ ∀ vs, o.data ≠ .fields vs := by
    obtain ⟨_, ⟨L₁, o, hf', _, ho, hd'⟩, _⟩ := K.frames
    rw [hf] at hf'; cases hf'
    exact ⟨o, ho, hd'⟩
  have n0 : h₀.get? Lf = none := by
    obtain ⟨_, ⟨L₁, o, hf', hn', _, _⟩, _⟩ := K.frames
    rw [hf] at hf'; cases hf'
    exact hn'
  have reground : ∀ h₂, B.StaysIn h₂ → h.UpToSlots h₂ → ∃ g', g'.objs.size = g.objs.size ∧ (∀ b o, g'.get? b = some o → h₂.get? b = some o) ∧ (∀ b o, g.get? b = some o → b ≠ Lf → g'.get? b = some o) ∧ (∀ b, g.get? b = none → g'.get? b = none) ∧ g.UpToSlots g' := fun h₂ z y => slots_ground hLf F.keep (off h₂ z) y
  have up0 : ∀ g' : Heap, (∀ b o, g.get? b = some o → b ≠ Lf → g'.get? b = some o) → ∀ b o, h₀.get? b = some o → g'.get? b = some o := fun g' z b o q => z b o (K.stays b o q) fun y => by rw [y, n0] at q; cases q
  obtain ⟨g₁, s1, k1, o1, z1, u1⟩ := reground h₅ b1 sl₅
  have F₁ : Fr g₁ L h₅ m := ⟨sl₅.ns F.ns, k1, by rw [s1]; exact F.above⟩
  refine wpAny_handleBy_cons (codeAny_handlers_test (name_K F₁ (X.keeps (up0 g₁ o1)) (topRead_of (T.keeps (up0 g₁ o1))) ex ?_ hk hx hd)) (by intro q; cases q)
  obtain ⟨oe, vs, Tb, oT, ts, he, hc, hdd, hv, h1, h2, hnT, hTe, hT, hdT, h3⟩ := id b3
  refine wpAny_excMatches_sub_self ((X.keeps (up0 g₁ o1)).keeps k1 _ _ (get44 w.params)) he hc has44.2.2.2.2 (codeAny_handlers_suite_as ?_)
  refine flightD (s := { s' with heap := h₅ }) b1 b2 b3 fun h₆ q => ?_
  obtain ⟨c1, c2, c3, c4⟩ := q
  have sl₆ := sl₅.trans c4
  obtain ⟨g₂, s2, k2, o2, z2, u2⟩ := reground h₆ c1 sl₆
  have F₂ : Fr g₂ L h₆ m := ⟨sl₆.ns F.ns, k2, by rw [s2]; exact F.above⟩
  obtain ⟨oe, vs, Tb, oT, ts, he, hc, hdd, hv, h1, h2, hnT, hTe, hT, hdT, h3⟩ := id c3
  have hd₆ := ns1_slots ((a4.trans b4).trans c4) hdm
  obtain ⟨od, esd, epd, hod, hdd', hr⟩ := id hd₆
  have nwL : ∀ {b : Addr}, h.get? b = none → b ≠ L := fun {b} q z => by
    obtain ⟨o, es, ep, ho, _⟩ := F.ns
    rw [← z, q] at ho; cases ho
  have nwg : ∀ {b : Addr}, h.get? b = none → g₂.get? b = none := fun {b} q => z2 b (F.noneBack q)
  have N₂ : News g₂ L h₆ news := fun p hp => by
    have P := N p hp
    refine ⟨c1 _ _ (keep _ _ P.1 fun y => ?_), P.2.1, z2 _ P.2.2⟩
    simp only [List.filterMap_cons, hf, List.filterMap_nil] at y
    rcases List.mem_cons.mp y with y | y
    · exact P.2.1 y
    · obtain ⟨o, ho, _⟩ := hLf
      have := P.2.2
      rw [List.mem_singleton.mp y, ho] at this; cases this
  refine stN F₂ (news := (e, oe) :: (d, od) :: news) (fun p hp => ?_) (fun h₇ F₇ N₇ => ?_) hk hlo
  · rcases List.mem_cons.mp hp with rfl | hp
    · exact ⟨he, nwL en, nwg en⟩
    · rcases List.mem_cons.mp hp with rfl | hp
      · exact ⟨hod, nwL dn, nwg dn⟩
      · exact N₂ p hp
  · have Bk : Below A h₀ [env] g₂ := by
      obtain ⟨q1, ⟨L₁, o, hf', hn', ho, hd'⟩, _⟩ := K.frames
      rw [hf] at hf'; cases hf'
      obtain ⟨sl', hs'⟩ := u2 _ _ ho hd'
      exact ⟨K.stack, up0 g₂ o2, q1, ⟨_, _, hf, hn', hs', hd'⟩, trivial⟩
    refine wpAny_mono (k g₂ h₇ _ o2 Bk (X.keeps (up0 g₂ o2)) (T.keeps (up0 g₂ o2)) F₇ (fun p hp => N₇ p (.tail _ (.tail _ hp))) ⟨oe, vs, msg, mt, (N₇ _ (.head _)).1, hc, hdd, hv, h2, ⟨od, esd, epd, (N₇ _ (.tail _ (.head _))).1, hdd', hr⟩, ne⟩) (fun _ _ q => q) fun _ _ q => q.elim
end
end

section
open PySem PySem.Calls PySem.W PyProof.Rows
set_option maxRecDepth 100000
set_option maxHeartbeats 4000000
/-- what an end keeps: the ground, and all that is not heap -/
noncomputable def Ends (h₀ : Heap) (s s' : Shared) : Prop := (∀ b o, h₀.get? b = some o → s'.heap.get? b = some o) ∧ s'.os = s.os ∧ s'.gens = s.gens
section
variable {w : World} {A₀ A : Around} {s : Shared} {L : Addr} {h₀ base : Heap} {m mg mb : Str → Option Value} {mean : ExcName → Option Value} {env : Env} {outer : List Env}
  {name qual : Str} {params : Arguments} {body : List Stmt} {scope : Scope} {dV kV doc pm cdv ct oc : Value} {an od : Option Addr} {osl : Array (Option Value)} {f : Addr} {vals : List Value} {binds : List (Str × Value)} {P : Value → Shared → Prop} {E : Value → Shared → Prop}
/-- a call of which nothing but the value is asked -/
theorem call_V (B : Below A₀ base outer h₀) (F : Fr h₀ L s.heap m) (X : (KK w.params).In h₀) (T : Top VV LO mean mg mb h₀) (hA : A.frames = some (env :: outer)) (hf : env.frame = some L) (hke : env.scope.kind = .function)
    (ho : (KK w.params).lookup f = some ⟨oc, od, .func (fnOf name qual params body scope dV kV doc pm an cdv ct), osl⟩) (hcd : codeIn (KK w.params) cdv qual = true) (hroom : A.depth < recursionLimit)
    (hbind : BindsTo s (fnOf name qual params body scope dV kV doc pm an cdv ct) ⟨vals, []⟩ binds) (hloc : ∀ y ∈ binds, scope.names.lookup y.1 = some .local)
    (h : ∀ g L' h₁, Fr g L' h₁ (fun y => binds.reverse.lookup y) → News g L' h₁ [] → Below A base (env :: outer) g → (KK w.params).In g → Top VV LO mean mg mb g → (∀ a o, s.heap.get? a = some o → g.get? a = some o) →
      wpAny (model PR w) (A.deeper (envOf qual scope L' f cdv)) (execs body (envOf qual scope L' f cdv)) (fun fl s' => P (match fl with | .ret v => v | _ => .none) s') (fun _ _ => False) { s with heap := h₁, toks := s.toks + binds.length })
    (hco : scope.isCoroutine = false) (hgen : scope.isGenerator = false) (hk : scope.kind = .function) (hcell : ∀ x ∈ scope.names, x.2 ≠ .cell) :
    wpAny (model PR w) A (call (.ref f) vals) P E s := by
  refine wpAny_call ?_
  obtain ⟨FG, BG, st, -⟩ := groundX (R := fun _ _ => True) B F News.nil hA hf hke
  refine codeAny_call_def (fd := fnX name qual params body scope [] dV kV doc pm an cdv ct) (body := body) (binds := binds) hroom ((X.keeps F.keep) _ _ ho) rfl (T.nolimit.keeps F.keep) (codeRec_of (X.keeps F.keep) hcd) rfl hbind hcell hloc (fun h₁ hns hk₁ => ?_) hco hgen hk
  exact wpAny_mono (h _ s.heap.objs.size h₁ ⟨hns, fun b o e => hk₁ b o (of_hideAll _ e), Nat.le_of_eq (hideAll_size _ _)⟩ News.nil BG (X.keeps st) (T.keeps st) (fun b o e => hideAll_get _ e (by simp))) (fun fl s' hl => hl) fun _ _ y => y.elim
end
end

section
open PySem Builtin Builtin.ObjectAttr PySem.Calls PySem.W PyProof.Rows
set_option maxRecDepth 100000
set_option maxHeartbeats 4000000
theorem find44_ga (P : Params) : findIn (KK P) (.ref 44) "__getattribute__" = some (some (.builtin "BaseException.__getattribute__")) := by kernel_rfl
theorem find44_gn (P : Params) : findIn (KK P) (.ref 44) "__getattr__" = some none := by kernel_rfl
section
variable {w : World} {A : Around} {E : Value → Shared → Prop} {s : Shared} {e d : Addr}
theorem check_ga44 {h : Heap} {g : Array GenState} {dr : Drawn} {t : Nat} {os : OsState} {oe : Obj} {nameV : Value} {Q : Unit → Shared → Prop} (X : (KK w.params).In h)
    (hx : h.get? e = some oe) (hc : oe.cls = .ref 44) (hq : Q () ⟨h, g, dr, t, os⟩) : wpAny (model PR w) A (checkBuiltinCall "BaseException.__getattribute__" ⟨[.ref e, nameV], []⟩) Q E ⟨h, g, dr, t, os⟩ := by
  have hC := X _ _ (get44 w.params)
  have hk : builtinKind "BaseException.__getattribute__" = some .slot := by decide +kernel
  have hsplit : splitId "BaseException.__getattribute__" = some ("BaseException", "__getattribute__") := by decide +kernel
  have hcB : (Value.ref 44 :: bm44).contains (.type "BaseException") = true := by rw [List.contains_cons, has44.2.2.2.2, Bool.or_true]
  have ha := PySem.F.args_bexc_ga (.ref e) nameV
  simp only [checkBuiltinCall, hk, hsplit]
  refine wpAny_bind ?_
  · unfold isInstance
    repeat (first | (with_reducible refine wpAny_loadPart_at hx ?_; rw [hc]) | (with_reducible refine wpAny_isSubtype_exc hC ?_; rw [hcB]) | wp_step)
    exact hq
theorem get_msg {expr : Bool} {oe : Obj} {msg : Str} {mt : Tok} {vs : Array Value} {Q : Value → Shared → Prop} (X : (KK w.params).In s.heap) (he : s.heap.get? e = some oe) (hc : oe.cls = .ref 44) (hdd : oe.dict = some d) (hv : oe.data = .fields vs)
    (hd : s.heap.Ns1 d (fun y => if y = "message" then some (.str msg mt) else none)) (hq : Q (.str msg mt) { s with toks := s.toks + 1 }) :
    wpAny (model PR w) A (getAttr (.ref e) "message" expr) Q E s := by
  obtain ⟨h, g, dr, t, os⟩ := s
  have hC := X _ _ (get44 w.params)
  replace X : (KK w.params).In h := X
  replace he : h.get? e = some oe := he
  replace hd : h.Ns1 d (fun y => if y = "message" then some (.str msg mt) else none) := hd
  have hG := looks_findIn (M := model PR w) X (find44_ga _)
  have hH := looks_findIn (M := model PR w) X (find44_gn _)
  have hM := looks_findIn (M := model PR w) X (find44_msg _)
  have f3 := PySem.F.attr_Exception.ga.bind (.ref e)
  have hx0 : (expr && onTheHeap (Value.builtin "BaseException.__getattribute__")) = false := by cases expr <;> rfl
  have hx2 : (Value.builtin "BaseException.__getattribute__" == Value.builtin "object.__getattribute__") = false := by decide +kernel
  have hx1 : (onTheHeap (Value.ref 44) && Value.builtin "BaseException.__getattribute__" == Value.builtin "object.__getattribute__") = false := by rw [hx2]; rfl
  unfold getAttr
  repeat (any_goals (first | assumption | (with_reducible refine wpAny_loadPart_at he ?_; rw [hc]) | with_reducible refine hG.here ?_ | with_reducible refine hH.here ?_ | wp_step))
  refine codeAny_call_builtin PySem.F.attr_Exception.ga.plain PySem.F.entry_bexc_ga (check_ga44 X he hc ?_)
  repeat (any_goals (first | assumption | (with_reducible refine wpAny_loadPart_at he ?_; rw [hc]) | with_reducible refine hM.here ?_ | wp_step))
  rw [hv]
  dsimp only
  unfold instanceDict
  repeat (any_goals (first | assumption | (with_reducible refine wpAny_loadPart_at he ?_; rw [hc]) | with_reducible refine wpAny_loadPart_at hC ?_ | wp_step))
  rw [hdd]
  repeat (any_goals (first | assumption | (with_reducible refine wpAny_nsGet hd.ns ?_; rw [if_pos rfl]) | wp_step))
end
end

section
open PySem PySem.W PyProof.Rows PyProof.Rows.LCg PySem.Calls
set_option maxRecDepth 100000
set_option maxHeartbeats 8000000
section
variable {w : World} {mean : ExcName → Option Value} {mg mb : Str → Option Value} {dp un : Nat} {gd : Option (List Code)} {env : Env} {outer : List Env} {A₀ : Around} {base h₀ : Heap} {L : Addr} {m : Str → Option Value} {s : Shared}

theorem plane_use {g : Heap} {led : List (Addr × Obj)} {v1 v2 : Int} {u1 u2 : Tok} {rv : Value} {Q E : Value → Shared → Prop} (B : Below A₀ base outer g) (F : Fr g L s.heap m) (N : News g L s.heap led) (X : (KK w.params).In g) (T : Top VV LO mean mg mb g) (hf : env.frame = some L) (hk : env.scope.kind = .function) (hd : dp + 3 < recursionLimit)
    (kq : ∀ (x d : Addr) (e1 e2 e3 : Int) (t1 t2 t3 t4 t5 : Tok) (n : Nat) h' tk', Fr g L h' m → News g L h' ((x, instObj 77 d) :: (d, dictOf [⟨e1, .str (Str.ofString "width") t1, .int v1 t2⟩, ⟨e2, .str (Str.ofString "height") t3, .int v2 t4⟩, ⟨e3, .str (Str.ofString "rows") t5, rv⟩] n) :: led) → (∀ p ∈ led, p.1 < d) → d < x → Q (.ref x) { s with heap := h', toks := tk' }) :
    wpAny (model PR w) (AT dp un gd env outer) (call (.ref 77) [.int v1 u1, .int v2 u2, rv]) Q E s := by
  k_unmd
  k_dflt (refine' call_cls ?k1 ?k2 ?k3 ?k4 ?k5 ?k6 ?_; (case k1 => k_asm); (case k2 => k_asm); (case k3 => k_asm); (case k4 => k_is); (case k5 => k_is); (case k6 => k_is); k_whole; intro x' d' h' F' N' l1 l2)
  (try k_lt2 l2)
  (try k_sweep)
  (refine' code_def ?k1 ?k2 ?k3 ?k4 ?k5 ?kA ?kF ?kK ?k6 ?k7 ?k8 ?k9 ?kB ?_ ?c2 ?c3 ?c4 ?c5; (case kA => exact rfl); (case kF => assumption); (case kK => assumption); (case k1 => k_asm); (case k2 => k_asm); (case k3 => k_asm); (case k4 => k_asm); (case k5 => k_asm); (case k6 => k_is); (case k7 => k_is); (case k8 => ktr_room); (case k9 => exact BindsTo.of_eq rfl); (case c5 => decide); (case kB => exact locs rfl); (case c2 => exact rfl); (case c3 => exact rfl); (case c4 => exact rfl); k_whole; intro g' L' h9 FG' F' N' B' X' T'; (try dsimp only))
  k_steps
  rename Fr _ _ _ _ => F9
  rename News _ _ _ _ => N9
  exact kq _ _ _ _ _ _ _ _ _ _ _ _ _ F9 N9 l1 l2
theorem pic_use {g : Heap} {led : List (Addr × Obj)} {v1 : Str} {v2 : Int} {u1 u2 : Tok} {rv : Value} {Q E : Value → Shared → Prop} (B : Below A₀ base outer g) (F : Fr g L s.heap m) (N : News g L s.heap led) (X : (KK w.params).In g) (T : Top VV LO mean mg mb g) (hf : env.frame = some L) (hk : env.scope.kind = .function) (hd : dp + 3 < recursionLimit)
    (kq : ∀ (x d : Addr) (e1 e2 e3 : Int) (t1 t2 t3 t4 t5 : Tok) (n : Nat) h' tk', Fr g L h' m → News g L h' ((x, instObj 115 d) :: (d, dictOf [⟨e1, .str (Str.ofString "model") t1, .str v1 t2⟩, ⟨e2, .str (Str.ofString "precision") t3, .int v2 t4⟩, ⟨e3, .str (Str.ofString "planes") t5, rv⟩] n) :: led) → (∀ p ∈ led, p.1 < d) → d < x → Q (.ref x) { s with heap := h', toks := tk' }) :
    wpAny (model PR w) (AT dp un gd env outer) (call (.ref 115) [.str v1 u1, .int v2 u2, rv]) Q E s := by
  k_unmd
  k_dflt (refine' call_cls ?k1 ?k2 ?k3 ?k4 ?k5 ?k6 ?_; (case k1 => k_asm); (case k2 => k_asm); (case k3 => k_asm); (case k4 => k_is); (case k5 => k_is); (case k6 => k_is); k_whole; intro x' d' h' F' N' l1 l2)
  (try k_lt2 l2)
  (try k_sweep)
  (refine' code_def ?k1 ?k2 ?k3 ?k4 ?k5 ?kA ?kF ?kK ?k6 ?k7 ?k8 ?k9 ?kB ?_ ?c2 ?c3 ?c4 ?c5; (case kA => exact rfl); (case kF => assumption); (case kK => assumption); (case k1 => k_asm); (case k2 => k_asm); (case k3 => k_asm); (case k4 => k_asm); (case k5 => k_asm); (case k6 => k_is); (case k7 => k_is); (case k8 => ktr_room); (case k9 => exact BindsTo.of_eq rfl); (case c5 => decide); (case kB => exact locs rfl); (case c2 => exact rfl); (case c3 => exact rfl); (case c4 => exact rfl); k_whole; intro g' L' h9 FG' F' N' B' X' T'; (try dsimp only))
  k_steps
  rename Fr _ _ _ _ => F9
  rename News _ _ _ _ => N9
  exact kq _ _ _ _ _ _ _ _ _ _ _ _ _ F9 N9 l1 l2
theorem turn_use {g : Heap} {led : List (Addr × Obj)} {v1 v2 : Str} {u1 u2 : Tok} {rv : Value} {Q E : Value → Shared → Prop} (B : Below A₀ base outer g) (F : Fr g L s.heap m) (N : News g L s.heap led) (X : (KK w.params).In g) (T : Top VV LO mean mg mb g) (hf : env.frame = some L) (hk : env.scope.kind = .function) (hd : dp + 3 < recursionLimit)
    (kq : ∀ (x d : Addr) (e1 e2 e3 : Int) (t1 t2 t3 t4 t5 : Tok) (n : Nat) h' tk', Fr g L h' m → News g L h' ((x, instObj 233 d) :: (d, dictOf [⟨e1, .str (Str.ofString "source") t1, .str v1 t2⟩, ⟨e2, .str (Str.ofString "goal") t3, .str v2 t4⟩, ⟨e3, .str (Str.ofString "precision") t5, rv⟩] n) :: led) → (∀ p ∈ led, p.1 < d) → d < x → Q (.ref x) { s with heap := h', toks := tk' }) :
    wpAny (model PR w) (AT dp un gd env outer) (call (.ref 233) [.str v1 u1, .str v2 u2, rv]) Q E s := by
  k_unmd
  k_dflt (refine' call_cls ?k1 ?k2 ?k3 ?k4 ?k5 ?k6 ?_; (case k1 => k_asm); (case k2 => k_asm); (case k3 => k_asm); (case k4 => k_is); (case k5 => k_is); (case k6 => k_is); k_whole; intro x' d' h' F' N' l1 l2)
  (try k_lt2 l2)
  (try k_sweep)
  (refine' code_def ?k1 ?k2 ?k3 ?k4 ?k5 ?kA ?kF ?kK ?k6 ?k7 ?k8 ?k9 ?kB ?_ ?c2 ?c3 ?c4 ?c5; (case kA => exact rfl); (case kF => assumption); (case kK => assumption); (case k1 => k_asm); (case k2 => k_asm); (case k3 => k_asm); (case k4 => k_asm); (case k5 => k_asm); (case k6 => k_is); (case k7 => k_is); (case k8 => ktr_room); (case k9 => exact BindsTo.of_eq rfl); (case c5 => decide); (case kB => exact locs rfl); (case c2 => exact rfl); (case c3 => exact rfl); (case c4 => exact rfl); k_whole; intro g' L' h9 FG' F' N' B' X' T'; (try dsimp only))
  k_steps
  rename Fr _ _ _ _ => F9
  rename News _ _ _ _ => N9
  exact kq _ _ _ _ _ _ _ _ _ _ _ _ _ F9 N9 l1 l2
end
end

section
open PySem PySem.W PyProof.Rows PyProof.Rows.LCg PySem.Calls
set_option maxRecDepth 100000
set_option maxHeartbeats 8000000
section
variable {w : World} {mean : ExcName → Option Value} {mg mb : Str → Option Value} {dp un : Nat} {gd : Option (List Code)} {env : Env} {outer : List Env} {A₀ : Around} {base h₀ : Heap} {L : Addr} {m : Str → Option Value} {s : Shared}

theorem pow_le8 {p : Int} (h1 : 0 ≤ p) (h2 : p ≤ 8) : 1 ≤ (2 : Int) ^ p.toNat ∧ (2 : Int) ^ p.toNat ≤ 256 := by
  have h : ∀ n : Fin 9, 1 ≤ (2 : Int) ^ (n : Nat) ∧ (2 : Int) ^ (n : Nat) ≤ 256 := by decide
  exact h ⟨p.toNat, by omega⟩

theorem tp3_mono : ∀ (O O' : Look) v, (∀ a o, O a o → O' a o) → (∃ x y z, TP O v [x, y, z]) → ∃ x y z, TP O' v [x, y, z] := fun O O' v k ⟨x, y, z, h⟩ => ⟨x, y, z, TP.mono _ _ _ _ k h⟩

theorem tp4_mono {e : Int} : ∀ (O O' : Look) v, (∀ a o, O a o → O' a o) → (∃ x y z, TP O v [x, y, z, e]) → ∃ x y z, TP O' v [x, y, z, e] := fun O O' v k ⟨x, y, z, h⟩ => ⟨x, y, z, TP.mono _ _ _ _ k h⟩

theorem greatest_ok {p : Int} {tt : Tok} (B : Below A₀ base outer h₀) (F : Fr h₀ L s.heap m) (X : (KK w.params).In h₀) (T : Top VV LO mean mg mb h₀) (hf : env.frame = some L) (hk : env.scope.kind = .function) (hd : dp + 5 < recursionLimit) (hp : 2 ≤ p) (hp' : p ≤ 8) :
    Eff (model PR w) (AT dp un gd env outer) (call (.ref 133) [.int p tt]) s [] (fun _ => True) (fun _ r => ∃ t, r = .int (2 ^ p.toNat - 1) t) := by
  k_dflt ((refine' call_E (Wn := []) ?kB ?kF ?kX ?kT ?kA ?kf ?kk News.nil ?ko ?kc ?kr ?kb ?kl ?km ?_ ?c1 ?c2 ?c3 ?c4; (case kA => exact rfl); (case kB => assumption); (case kF => assumption); (case kX => assumption); (case kT => assumption); (case kf => assumption); (case kk => assumption); (case ko => k_is); (case kc => k_is); (case kr => ktr_room); (case kb => exact BindsTo.of_eq rfl); (case c4 => decide); (case kl => exact locs rfl); (case c1 => exact rfl); (case c2 => exact rfl); (case c3 => exact rfl)))
  case km => exact fun _ _ _ _ h => h
  intro g L' h₁ F' N' B' X' T' G'
  k_fold
  k_steps
  exact BodyEnd.intro (by assumption) trivial ⟨_, by rw [Int.one_mul]⟩

theorem middle_ok {p : Int} {tt : Tok} (B : Below A₀ base outer h₀) (F : Fr h₀ L s.heap m) (X : (KK w.params).In h₀) (T : Top VV LO mean mg mb h₀) (hf : env.frame = some L) (hk : env.scope.kind = .function) (hd : dp + 5 < recursionLimit) (hp : 2 ≤ p) (hp' : p ≤ 8) :
    Eff (model PR w) (AT dp un gd env outer) (call (.ref 140) [.int p tt]) s [] (fun _ => True) (fun _ r => ∃ t q, r = .int q t ∧ q = 2 ^ (p - 1).toNat ∧ 1 ≤ q ∧ q ≤ 256) := by
  k_dflt ((refine' call_E (Wn := []) ?kB ?kF ?kX ?kT ?kA ?kf ?kk News.nil ?ko ?kc ?kr ?kb ?kl ?km ?_ ?c1 ?c2 ?c3 ?c4; (case kA => exact rfl); (case kB => assumption); (case kF => assumption); (case kX => assumption); (case kT => assumption); (case kf => assumption); (case kk => assumption); (case ko => k_is); (case kc => k_is); (case kr => ktr_room); (case kb => exact BindsTo.of_eq rfl); (case c4 => decide); (case kl => exact locs rfl); (case c1 => exact rfl); (case c2 => exact rfl); (case c3 => exact rfl)))
  case km => exact fun _ _ _ _ h => h
  intro g L' h₁ F' N' B' X' T' G'
  k_fold
  k_steps
  have := pow_le8 (p := p - 1) (by omega) (by omega)
  exact BodyEnd.intro (by assumption) trivial ⟨_, _, by rw [Int.one_mul], rfl, this.1, this.2⟩

theorem mul_any {prog : Program} {w : World} {A : Around} {s : Shared} {x y : Int} {t u : Tok} {Q E : Value → Shared → Prop} (hs : -(2 : Int) ^ 64 < x ∧ x < 2 ^ 64) (h : Q (.int (x * y) s.toks) { s with toks := s.toks + 1 }) :
    wpAny (model prog w) A (binaryOp .Mult (.int x t) (.int y u)) Q E s := mul_int h (IntMulOk.of_left (intBits_le_64 hs.1 hs.2))
local macro_rules | `(tactic| walk_at "binaryOp Mult int int") => `(tactic| (refine mul_any (by assumption) ?_))
local macro_rules | `(tactic| walk_at "subscriptTail") => `(tactic| (k_here; k_dflt (apply tup_base; k_asm; assumption; walk_at "i2"); k_whole))
theorem weighed_ok {pa : Addr} {x y z a b c : Int} {tx ty tz ta tb tc : Tok} {n : Nat} (B : Below A₀ base outer h₀) (F : Fr h₀ L s.heap m) (X : (KK w.params).In h₀) (T : Top VV LO mean mg mb h₀) (hf : env.frame = some L) (hk : env.scope.kind = .function) (hd : dp + 2 < recursionLimit) (hpa : (KK w.params).lookup pa = some ⟨.type "tuple", none, .seq #[.int x tx, .int y ty, .int z tz] n, #[]⟩) (hsm : (-(2 : Int) ^ 64 < x ∧ x < 2 ^ 64) ∧ (-(2 : Int) ^ 64 < y ∧ y < 2 ^ 64) ∧ (-(2 : Int) ^ 64 < z ∧ z < 2 ^ 64)) :
    Eff (model PR w) (AT dp un gd env outer) (call (.ref 174) [.ref pa, .int a ta, .int b tb, .int c tc]) s [] (fun _ => True) (fun _ r => ∃ t, r = .int (x * a + y * b + z * c) t) := by
  k_dflt ((refine' call_E (Wn := []) ?kB ?kF ?kX ?kT ?kA ?kf ?kk News.nil ?ko ?kc ?kr ?kb ?kl ?km ?_ ?c1 ?c2 ?c3 ?c4; (case kA => exact rfl); (case kB => assumption); (case kF => assumption); (case kX => assumption); (case kT => assumption); (case kf => assumption); (case kk => assumption); (case ko => k_is); (case kc => k_is); (case kr => ktr_room); (case kb => exact BindsTo.of_eq rfl); (case c4 => decide); (case kl => exact locs rfl); (case c1 => exact rfl); (case c2 => exact rfl); (case c3 => exact rfl)))
  case km => exact fun _ _ _ _ h => h
  intro g L' h₁ F' N' B' X' T' G'
  have hg := X' _ _ hpa
  obtain ⟨hsx, hsy, hsz⟩ := hsm
  k_unmd
  k_fold
  k_steps
  exact BodyEnd.intro (by assumption) trivial ⟨_, rfl⟩
local macro_rules | `(tactic| walk_at "fn") => `(tactic| (apply weighed_ok; (iterate 7 walk_at "h"); k_is; decide))
noncomputable def lightF (a b c : Int) : Int := (19595 * a + 38470 * b + 7471 * c + 32768).fdiv (2 ^ 16)
theorem light_ok {a b c : Int} {ta tb tc : Tok} (B : Below A₀ base outer h₀) (F : Fr h₀ L s.heap m) (X : (KK w.params).In h₀) (T : Top VV LO mean mg mb h₀) (hf : env.frame = some L) (hk : env.scope.kind = .function) (hd : dp + 5 < recursionLimit) :
    Eff (model PR w) (AT dp un gd env outer) (call (.ref 209) [.int a ta, .int b tb, .int c tc]) s [] (fun _ => True) (fun _ r => ∃ t, r = .int (lightF a b c) t) := by
  k_dflt ((refine' call_E (Wn := []) ?kB ?kF ?kX ?kT ?kA ?kf ?kk News.nil ?ko ?kc ?kr ?kb ?kl ?km ?_ ?c1 ?c2 ?c3 ?c4; (case kA => exact rfl); (case kB => assumption); (case kF => assumption); (case kX => assumption); (case kT => assumption); (case kf => assumption); (case kk => assumption); (case ko => k_is); (case kc => k_is); (case kr => ktr_room); (case kb => exact BindsTo.of_eq rfl); (case c4 => decide); (case kl => exact locs rfl); (case c1 => exact rfl); (case c2 => exact rfl); (case c3 => exact rfl)))
  case km => exact fun _ _ _ _ h => h
  intro g L' h₁ F' N' B' X' T' G'
  k_fold
  k_steps
  exact BodyEnd.intro (by assumption) trivial ⟨_, rfl⟩

theorem clamped_ok {a b : Int} {ta tb : Tok} (B : Below A₀ base outer h₀) (F : Fr h₀ L s.heap m) (X : (KK w.params).In h₀) (T : Top VV LO mean mg mb h₀) (hf : env.frame = some L) (hk : env.scope.kind = .function) (hd : dp + 5 < recursionLimit) :
    Eff (model PR w) (AT dp un gd env outer) (call (.ref 147) [.int a ta, .int b tb]) s [] (fun _ => True) (fun _ r => ∃ d t, r = .int d t) := by
  k_dflt ((refine' call_E (Wn := []) ?kB ?kF ?kX ?kT ?kA ?kf ?kk News.nil ?ko ?kc ?kr ?kb ?kl ?km ?_ ?c1 ?c2 ?c3 ?c4; (case kA => exact rfl); (case kB => assumption); (case kF => assumption); (case kX => assumption); (case kT => assumption); (case kf => assumption); (case kk => assumption); (case ko => k_is); (case kc => k_is); (case kr => ktr_room); (case kb => exact BindsTo.of_eq rfl); (case c4 => decide); (case kl => exact locs rfl); (case c1 => exact rfl); (case c2 => exact rfl); (case c3 => exact rfl)))
  case km => exact fun _ _ _ _ h => h
  intro g L' h₁ F' N' B' X' T' G'
  k_fold
  k_steps
  all_goals exact BodyEnd.intro (by assumption) trivial ⟨_, _, rfl⟩
end
end

section
open PySem PySem.W PyProof.Rows PyProof.Rows.LCg PySem.Calls
set_option maxRecDepth 100000
set_option maxHeartbeats 8000000
section
variable {w : World} {mean : ExcName → Option Value} {mg mb : Str → Option Value} {dp un : Nat} {gd : Option (List Code)} {env : Env} {outer : List Env} {A₀ : Around} {base h₀ : Heap} {L : Addr} {m : Str → Option Value} {s : Shared}


local macro_rules | `(tactic| walk_at "fn") => `(tactic| (apply middle_ok <;> walk_at "h"))
local macro_rules | `(tactic| walk_at "fn") => `(tactic| (apply greatest_ok <;> walk_at "h"))
local macro_rules | `(tactic| walk_at "fn") => `(tactic| (apply light_ok <;> walk_at "h"))
local macro_rules | `(tactic| walk_at "fn") => `(tactic| (apply weighed_ok; (iterate 7 walk_at "h"); k_is; decide))

theorem ycc_ok {a b c p : Int} {ta tb tc tp : Tok} (B : Below A₀ base outer h₀) (F : Fr h₀ L s.heap m) (X : (KK w.params).In h₀) (T : Top VV LO mean mg mb h₀) (hf : env.frame = some L) (hk : env.scope.kind = .function) (hd : dp + 10 < recursionLimit) (hp : 2 ≤ p) (hp' : p ≤ 8) :
    Eff (model PR w) (AT dp un gd env outer) (call (.ref 181) [.int a ta, .int b tb, .int c tc, .int p tp]) s [] (fun _ => True) (fun O r => ∃ x y z, TP O r [x, y, z]) := by
  k_dflt ((refine' call_E (Wn := []) ?kB ?kF ?kX ?kT ?kA ?kf ?kk News.nil ?ko ?kc ?kr ?kb ?kl ?km ?_ ?c1 ?c2 ?c3 ?c4; (case kA => exact rfl); (case kB => assumption); (case kF => assumption); (case kX => assumption); (case kT => assumption); (case kf => assumption); (case kk => assumption); (case ko => k_is); (case kc => k_is); (case kr => ktr_room); (case kb => exact BindsTo.of_eq rfl); (case c4 => decide); (case kl => exact locs rfl); (case c1 => exact rfl); (case c2 => exact rfl); (case c3 => exact rfl)))
  case km => exact fun O O' v k ⟨x, y, z, h⟩ => ⟨x, y, z, TP.mono _ _ _ _ k h⟩
  intro g L' h₁ F' N' B' X' T' G'
  k_fold
  (repeat' (first | (k_unfold; (try dsimp only)) | (k_end; wrow_close) | (walk1 <;> (try dsimp only)) | (dsimp only; walk1) | (leave1; try dsimp only) | fail "no step"))
  rename Fr _ _ _ _ => F9
  rename News _ _ _ _ => N9
  exact BodyEnd.pure (fun O O' v k ⟨x, y, z, h⟩ => ⟨x, y, z, TP.mono _ _ _ _ k h⟩) F9 N9 ⟨_, _, _, _, _, _, rfl, List.Mem.head _, .cons _ _ (.cons _ _ (.cons _ _ .nil))⟩
end
end

section
open PySem PySem.W PyProof.Rows PyProof.Rows.LCg PySem.Calls
set_option maxRecDepth 100000
set_option maxHeartbeats 8000000
section
variable {w : World} {mean : ExcName → Option Value} {mg mb : Str → Option Value} {dp un : Nat} {gd : Option (List Code)} {env : Env} {outer : List Env} {A₀ : Around} {base h₀ : Heap} {L : Addr} {m : Str → Option Value} {s : Shared}


local macro_rules | `(tactic| walk_at "fn") => `(tactic| (apply middle_ok <;> walk_at "h"))
local macro_rules | `(tactic| walk_at "fn") => `(tactic| (apply greatest_ok <;> walk_at "h"))
local macro_rules | `(tactic| walk_at "fn") => `(tactic| (apply light_ok <;> walk_at "h"))
local macro_rules | `(tactic| walk_at "fn") => `(tactic| (apply weighed_ok; (iterate 7 walk_at "h"); k_is; decide))

local macro_rules | `(tactic| walk_at "eval Call") => `(tactic| (k_here; k_dflt (refine Call_ ?_)))
local macro_rules | `(tactic| walk_at "fn") => `(tactic| (apply clamped_ok <;> walk_at "h"))
theorem rgb_ok {a b c p : Int} {ta tb tc tp : Tok} (B : Below A₀ base outer h₀) (F : Fr h₀ L s.heap m) (X : (KK w.params).In h₀) (T : Top VV LO mean mg mb h₀) (hf : env.frame = some L) (hk : env.scope.kind = .function) (hd : dp + 10 < recursionLimit) (hp : 2 ≤ p) (hp' : p ≤ 8) :
    Eff (model PR w) (AT dp un gd env outer) (call (.ref 188) [.int a ta, .int b tb, .int c tc, .int p tp]) s [] (fun _ => True) (fun O r => ∃ x y z, TP O r [x, y, z]) := by
  k_dflt ((refine' call_E (Wn := []) ?kB ?kF ?kX ?kT ?kA ?kf ?kk News.nil ?ko ?kc ?kr ?kb ?kl ?km ?_ ?c1 ?c2 ?c3 ?c4; (case kA => exact rfl); (case kB => assumption); (case kF => assumption); (case kX => assumption); (case kT => assumption); (case kf => assumption); (case kk => assumption); (case ko => k_is); (case kc => k_is); (case kr => ktr_room); (case kb => exact BindsTo.of_eq rfl); (case c4 => decide); (case kl => exact locs rfl); (case c1 => exact rfl); (case c2 => exact rfl); (case c3 => exact rfl)))
  case km => exact fun O O' v k ⟨x, y, z, h⟩ => ⟨x, y, z, TP.mono _ _ _ _ k h⟩
  intro g L' h₁ F' N' B' X' T' G'
  k_fold
  (repeat' (first | (k_unfold; (try dsimp only)) | (k_end; wrow_close) | (walk1 <;> (try dsimp only)) | (dsimp only; walk1) | (leave1; try dsimp only) | fail "no step"))
  rename Fr _ _ _ _ => F9
  rename News _ _ _ _ => N9
  exact BodyEnd.pure (fun O O' v k ⟨x, y, z, h⟩ => ⟨x, y, z, TP.mono _ _ _ _ k h⟩) F9 N9 ⟨_, _, _, _, _, _, rfl, List.Mem.head _, .cons _ _ (.cons _ _ (.cons _ _ .nil))⟩
end
end

section
open PySem PySem.W PyProof.Rows PyProof.Rows.LCg PySem.Calls
set_option maxRecDepth 100000
set_option maxHeartbeats 8000000
section
local macro_rules | `(tactic| walk_at "zz") => `(tactic| skip)
variable {w : World} {mean : ExcName → Option Value} {mg mb : Str → Option Value} {dp un : Nat} {gd : Option (List Code)} {env : Env} {outer : List Env} {A₀ : Around} {base h₀ : Heap} {L : Addr} {m : Str → Option Value} {s : Shared}


local macro_rules | `(tactic| walk_at "fn") => `(tactic| (apply middle_ok <;> walk_at "h"))
local macro_rules | `(tactic| walk_at "fn") => `(tactic| (apply greatest_ok <;> walk_at "h"))
local macro_rules | `(tactic| walk_at "fn") => `(tactic| (apply light_ok <;> walk_at "h"))
local macro_rules | `(tactic| walk_at "fn") => `(tactic| (apply weighed_ok; (iterate 7 walk_at "h"); k_is; decide))


local macro_rules | `(tactic| walk_at "fn") => `(tactic| (apply ycc_ok <;> walk_at "h"))
local macro_rules | `(tactic| walk_at "fn") => `(tactic| (apply rgb_ok <;> walk_at "h"))

theorem ycck_ok {a b c e p : Int} {ta tb tc te tp : Tok} (B : Below A₀ base outer h₀) (F : Fr h₀ L s.heap m) (X : (KK w.params).In h₀) (T : Top VV LO mean mg mb h₀) (hf : env.frame = some L) (hk : env.scope.kind = .function) (hd : dp + 15 < recursionLimit) (hp : 2 ≤ p) (hp' : p ≤ 8) :
    Eff (model PR w) (AT dp un gd env outer) (call (.ref 195) [.int a ta, .int b tb, .int c tc, .int e te, .int p tp]) s [] (fun _ => True) (fun O r => ∃ x y z, TP O r [x, y, z, e]) := by
  k_dflt ((refine' call_E (Wn := []) ?kB ?kF ?kX ?kT ?kA ?kf ?kk News.nil ?ko ?kc ?kr ?kb ?kl ?km ?_ ?c1 ?c2 ?c3 ?c4; (case kA => exact rfl); (case kB => assumption); (case kF => assumption); (case kX => assumption); (case kT => assumption); (case kf => assumption); (case kk => assumption); (case ko => k_is); (case kc => k_is); (case kr => ktr_room); (case kb => exact BindsTo.of_eq rfl); (case c4 => decide); (case kl => exact locs rfl); (case c1 => exact rfl); (case c2 => exact rfl); (case c3 => exact rfl)))
  case km => exact fun O O' v k ⟨x, y, z, h⟩ => ⟨x, y, z, TP.mono _ _ _ _ k h⟩
  intro g L' h₁ F' N' B' X' T' G'
  k_fold
  k_steps
  rename Fr _ _ _ _ => F9
  rename News _ _ _ _ => N9
  exact BodyEnd.pure (fun O O' v k ⟨x, y, z, h⟩ => ⟨x, y, z, TP.mono _ _ _ _ k h⟩) F9 N9 ⟨_, _, _, _, _, _, rfl, List.Mem.head _, .cons _ _ (.cons _ _ (.cons _ _ (.cons _ _ .nil)))⟩
theorem cmyk_ok {a b c e p : Int} {ta tb tc te tp : Tok} (B : Below A₀ base outer h₀) (F : Fr h₀ L s.heap m) (X : (KK w.params).In h₀) (T : Top VV LO mean mg mb h₀) (hf : env.frame = some L) (hk : env.scope.kind = .function) (hd : dp + 15 < recursionLimit) (hp : 2 ≤ p) (hp' : p ≤ 8) :
    Eff (model PR w) (AT dp un gd env outer) (call (.ref 202) [.int a ta, .int b tb, .int c tc, .int e te, .int p tp]) s [] (fun _ => True) (fun O r => ∃ x y z, TP O r [x, y, z, e]) := by
  k_dflt ((refine' call_E (Wn := []) ?kB ?kF ?kX ?kT ?kA ?kf ?kk News.nil ?ko ?kc ?kr ?kb ?kl ?km ?_ ?c1 ?c2 ?c3 ?c4; (case kA => exact rfl); (case kB => assumption); (case kF => assumption); (case kX => assumption); (case kT => assumption); (case kf => assumption); (case kk => assumption); (case ko => k_is); (case kc => k_is); (case kr => ktr_room); (case kb => exact BindsTo.of_eq rfl); (case c4 => decide); (case kl => exact locs rfl); (case c1 => exact rfl); (case c2 => exact rfl); (case c3 => exact rfl)))
  case km => exact fun O O' v k ⟨x, y, z, h⟩ => ⟨x, y, z, TP.mono _ _ _ _ k h⟩
  intro g L' h₁ F' N' B' X' T' G'
  k_fold
  k_steps
  rename Fr _ _ _ _ => F9
  rename News _ _ _ _ => N9
  exact BodyEnd.pure (fun O O' v k ⟨x, y, z, h⟩ => ⟨x, y, z, TP.mono _ _ _ _ k h⟩) F9 N9 ⟨_, _, _, _, _, _, rfl, List.Mem.head _, .cons _ _ (.cons _ _ (.cons _ _ (.cons _ _ .nil)))⟩
end
end

section
open PySem PySem.W PyProof.Rows PyProof.Rows.LCg PySem.Calls
set_option maxRecDepth 100000
set_option maxHeartbeats 8000000
section
variable {w : World} {mean : ExcName → Option Value} {mg mb : Str → Option Value} {dp un : Nat} {gd : Option (List Code)} {env : Env} {outer : List Env} {A₀ : Around} {base h₀ : Heap} {L : Addr} {m : Str → Option Value} {s : Shared}


local macro_rules | `(tactic| walk_at "fn") => `(tactic| (apply middle_ok <;> walk_at "h"))
local macro_rules | `(tactic| walk_at "fn") => `(tactic| (apply greatest_ok <;> walk_at "h"))
local macro_rules | `(tactic| walk_at "fn") => `(tactic| (apply light_ok <;> walk_at "h"))
local macro_rules | `(tactic| walk_at "fn") => `(tactic| (apply weighed_ok; (iterate 7 walk_at "h"); k_is; decide))


local macro_rules | `(tactic| walk_at "fn") => `(tactic| (apply ycc_ok <;> walk_at "h"))
local macro_rules | `(tactic| walk_at "fn") => `(tactic| (apply rgb_ok <;> walk_at "h"))

local macro_rules | `(tactic| walk_at "fn") => `(tactic| (apply ycck_ok <;> walk_at "h"))
local macro_rules | `(tactic| walk_at "fn") => `(tactic| (apply cmyk_ok <;> walk_at "h"))
local macro_rules | `(tactic| walk_at "subscriptTail") => `(tactic| walk_at "it")

theorem ints1 {vs : List Value} {x : Int} (h : IntsAre vs [x]) : ∃ t1, vs = [.int x t1] := by
  cases h with | cons _ t1 r1 => cases r1; exact ⟨t1, rfl⟩
theorem ints3 {vs : List Value} {x y z : Int} (h : IntsAre vs [x, y, z]) : ∃ t1 t2 t3, vs = [.int x t1, .int y t2, .int z t3] := by
  cases h with | cons _ t1 r1 => cases r1 with | cons _ t2 r2 => cases r2 with | cons _ t3 r3 => cases r3; exact ⟨t1, t2, t3, rfl⟩
theorem ints4 {vs : List Value} {x y z e : Int} (h : IntsAre vs [x, y, z, e]) : ∃ t1 t2 t3 t4, vs = [.int x t1, .int y t2, .int z t3, .int e t4] := by
  cases h with | cons _ t1 r1 => obtain ⟨t2, t3, t4, rfl⟩ := ints3 r1; exact ⟨t1, t2, t3, t4, rfl⟩
/-- the ways -/
noncomputable def waysL : List (Str × Str) := [("rgb", "ycc"), ("ycc", "rgb"), ("cmyk", "ycck"), ("ycck", "cmyk"), ("rgb", "grey"), ("grey", "rgb")]
/-- what turned samples must say -/
noncomputable def Turn (src goal : Str) (xs ys : List Int) : Prop :=
  (goal = "grey" → ∃ a b c, xs = [a, b, c] ∧ ys = [lightF a b c]) ∧ (src = "grey" → ∃ a, xs = [a] ∧ ys = [a, a, a]) ∧
  ((src = "cmyk" ∨ src = "ycck") → ys.length = 4 ∧ ys[3]? = xs[3]?) ∧ (src = "rgb" ∧ goal = "ycc" ∨ src = "ycc" → ys.length = 3)







theorem samples_ycc {v u : Value} {p : Int} {x1 x2 x3 : Int} (B : Below A₀ base outer h₀) (F : Fr h₀ L s.heap m) (X : (KK w.params).In h₀) (T : Top VV LO mean mg mb h₀) (hf : env.frame = some L) (hk : env.scope.kind = .function) (hd : dp + 20 < recursionLimit) (hp : 2 ≤ p) (hp' : p ≤ 8) (hv : TU (HG s.heap) v ("rgb", "ycc", p)) (hu : IL (HG s.heap) u [x1, x2, x3]) :
    Eff (model PR w) (AT dp un gd env outer) (call (.ref 230) [v, u]) s [] (fun _ => True) (fun O r => ∃ x y z, TP O r [x, y, z]) := by
  obtain ⟨a, d, e1, e2, e3, t1, t2, t3, t4, t5, t6, n, rfl, h1, h2⟩ := hv
  refine IL.elim' hu fun ua uvs un' hE9e u1 u2 => ?_
  subst hE9e
  k_dflt ((refine' call_E (Wn := []) ?kB ?kF ?kX ?kT ?kA ?kf ?kk News.nil ?ko ?kc ?kr ?kb ?kl ?km ?_ ?c1 ?c2 ?c3 ?c4; (case kA => exact rfl); (case kB => assumption); (case kF => assumption); (case kX => assumption); (case kT => assumption); (case kf => assumption); (case kk => assumption); (case ko => k_is); (case kc => k_is); (case kr => ktr_room); (case kb => exact BindsTo.of_eq rfl); (case c4 => decide); (case kl => exact locs rfl); (case c1 => exact rfl); (case c2 => exact rfl); (case c3 => exact rfl)))
  case km => exact tp3_mono
  intro g L' h₁ F' N' B' X' T' G'
  have G := gsub_nil G'
  replace h1 := G _ _ h1
  replace h2 := G _ _ h2
  dsimp only at h2
  replace u1 := G _ _ u1
  clear G' G
  obtain ⟨y1, y2, y3, rfl⟩ := ints3 u2
  k_unmd
  k_fold
  k_steps
  rename Fr _ _ _ _ => F9
  rename News _ _ _ _ => N9
  refine BodyEnd.pure tp3_mono F9 N9 ?_
  exact ⟨_, _, _, _, _, _, rfl, List.mem_append_left _ (by assumption), .cons _ _ (.cons _ _ (.cons _ _ .nil))⟩

theorem samples_rgb {v u : Value} {p : Int} {x1 x2 x3 : Int} (B : Below A₀ base outer h₀) (F : Fr h₀ L s.heap m) (X : (KK w.params).In h₀) (T : Top VV LO mean mg mb h₀) (hf : env.frame = some L) (hk : env.scope.kind = .function) (hd : dp + 20 < recursionLimit) (hp : 2 ≤ p) (hp' : p ≤ 8) (hv : TU (HG s.heap) v ("ycc", "rgb", p)) (hu : IL (HG s.heap) u [x1, x2, x3]) :
    Eff (model PR w) (AT dp un gd env outer) (call (.ref 230) [v, u]) s [] (fun _ => True) (fun O r => ∃ x y z, TP O r [x, y, z]) := by
  obtain ⟨a, d, e1, e2, e3, t1, t2, t3, t4, t5, t6, n, rfl, h1, h2⟩ := hv
  refine IL.elim' hu fun ua uvs un' hE9e u1 u2 => ?_
  subst hE9e
  k_dflt ((refine' call_E (Wn := []) ?kB ?kF ?kX ?kT ?kA ?kf ?kk News.nil ?ko ?kc ?kr ?kb ?kl ?km ?_ ?c1 ?c2 ?c3 ?c4; (case kA => exact rfl); (case kB => assumption); (case kF => assumption); (case kX => assumption); (case kT => assumption); (case kf => assumption); (case kk => assumption); (case ko => k_is); (case kc => k_is); (case kr => ktr_room); (case kb => exact BindsTo.of_eq rfl); (case c4 => decide); (case kl => exact locs rfl); (case c1 => exact rfl); (case c2 => exact rfl); (case c3 => exact rfl)))
  case km => exact tp3_mono
  intro g L' h₁ F' N' B' X' T' G'
  have G := gsub_nil G'
  replace h1 := G _ _ h1
  replace h2 := G _ _ h2
  dsimp only at h2
  replace u1 := G _ _ u1
  clear G' G
  obtain ⟨y1, y2, y3, rfl⟩ := ints3 u2
  k_unmd
  k_fold
  k_steps
  rename Fr _ _ _ _ => F9
  rename News _ _ _ _ => N9
  refine BodyEnd.pure tp3_mono F9 N9 ?_
  exact ⟨_, _, _, _, _, _, rfl, List.mem_append_left _ (by assumption), .cons _ _ (.cons _ _ (.cons _ _ .nil))⟩

theorem samples_ycck {v u : Value} {p : Int} {x1 x2 x3 x4 : Int} (B : Below A₀ base outer h₀) (F : Fr h₀ L s.heap m) (X : (KK w.params).In h₀) (T : Top VV LO mean mg mb h₀) (hf : env.frame = some L) (hk : env.scope.kind = .function) (hd : dp + 20 < recursionLimit) (hp : 2 ≤ p) (hp' : p ≤ 8) (hv : TU (HG s.heap) v ("cmyk", "ycck", p)) (hu : IL (HG s.heap) u [x1, x2, x3, x4]) :
    Eff (model PR w) (AT dp un gd env outer) (call (.ref 230) [v, u]) s [] (fun _ => True) (fun O r => ∃ x y z, TP O r [x, y, z, x4]) := by
  obtain ⟨a, d, e1, e2, e3, t1, t2, t3, t4, t5, t6, n, rfl, h1, h2⟩ := hv
  refine IL.elim' hu fun ua uvs un' hE9e u1 u2 => ?_
  subst hE9e
  k_dflt ((refine' call_E (Wn := []) ?kB ?kF ?kX ?kT ?kA ?kf ?kk News.nil ?ko ?kc ?kr ?kb ?kl ?km ?_ ?c1 ?c2 ?c3 ?c4; (case kA => exact rfl); (case kB => assumption); (case kF => assumption); (case kX => assumption); (case kT => assumption); (case kf => assumption); (case kk => assumption); (case ko => k_is); (case kc => k_is); (case kr => ktr_room); (case kb => exact BindsTo.of_eq rfl); (case c4 => decide); (case kl => exact locs rfl); (case c1 => exact rfl); (case c2 => exact rfl); (case c3 => exact rfl)))
  case km => exact tp4_mono
  intro g L' h₁ F' N' B' X' T' G'
  have G := gsub_nil G'
  replace h1 := G _ _ h1
  replace h2 := G _ _ h2
  dsimp only at h2
  replace u1 := G _ _ u1
  clear G' G
  obtain ⟨y1, y2, y3, y4, rfl⟩ := ints4 u2
  k_unmd
  k_fold
  k_steps
  rename Fr _ _ _ _ => F9
  rename News _ _ _ _ => N9
  refine BodyEnd.pure tp4_mono F9 N9 ?_
  exact ⟨_, _, _, _, _, _, rfl, List.mem_append_left _ (by assumption), by assumption⟩

theorem samples_cmyk {v u : Value} {p : Int} {x1 x2 x3 x4 : Int} (B : Below A₀ base outer h₀) (F : Fr h₀ L s.heap m) (X : (KK w.params).In h₀) (T : Top VV LO mean mg mb h₀) (hf : env.frame = some L) (hk : env.scope.kind = .function) (hd : dp + 20 < recursionLimit) (hp : 2 ≤ p) (hp' : p ≤ 8) (hv : TU (HG s.heap) v ("ycck", "cmyk", p)) (hu : IL (HG s.heap) u [x1, x2, x3, x4]) :
    Eff (model PR w) (AT dp un gd env outer) (call (.ref 230) [v, u]) s [] (fun _ => True) (fun O r => ∃ x y z, TP O r [x, y, z, x4]) := by
  obtain ⟨a, d, e1, e2, e3, t1, t2, t3, t4, t5, t6, n, rfl, h1, h2⟩ := hv
  refine IL.elim' hu fun ua uvs un' hE9e u1 u2 => ?_
  subst hE9e
  k_dflt ((refine' call_E (Wn := []) ?kB ?kF ?kX ?kT ?kA ?kf ?kk News.nil ?ko ?kc ?kr ?kb ?kl ?km ?_ ?c1 ?c2 ?c3 ?c4; (case kA => exact rfl); (case kB => assumption); (case kF => assumption); (case kX => assumption); (case kT => assumption); (case kf => assumption); (case kk => assumption); (case ko => k_is); (case kc => k_is); (case kr => ktr_room); (case kb => exact BindsTo.of_eq rfl); (case c4 => decide); (case kl => exact locs rfl); (case c1 => exact rfl); (case c2 => exact rfl); (case c3 => exact rfl)))
  case km => exact tp4_mono
  intro g L' h₁ F' N' B' X' T' G'
  have G := gsub_nil G'
  replace h1 := G _ _ h1
  replace h2 := G _ _ h2
  dsimp only at h2
  replace u1 := G _ _ u1
  clear G' G
  obtain ⟨y1, y2, y3, y4, rfl⟩ := ints4 u2
  k_unmd
  k_fold
  k_steps
  rename Fr _ _ _ _ => F9
  rename News _ _ _ _ => N9
  refine BodyEnd.pure tp4_mono F9 N9 ?_
  exact ⟨_, _, _, _, _, _, rfl, List.mem_append_left _ (by assumption), by assumption⟩

theorem samples_grey {v u : Value} {p : Int} {x1 x2 x3 : Int} (B : Below A₀ base outer h₀) (F : Fr h₀ L s.heap m) (X : (KK w.params).In h₀) (T : Top VV LO mean mg mb h₀) (hf : env.frame = some L) (hk : env.scope.kind = .function) (hd : dp + 20 < recursionLimit) (hp : 2 ≤ p) (hp' : p ≤ 8) (hv : TU (HG s.heap) v ("rgb", "grey", p)) (hu : IL (HG s.heap) u [x1, x2, x3]) :
    Eff (model PR w) (AT dp un gd env outer) (call (.ref 230) [v, u]) s [] (fun _ => True) (fun O r => TP O r [lightF x1 x2 x3]) := by
  obtain ⟨a, d, e1, e2, e3, t1, t2, t3, t4, t5, t6, n, rfl, h1, h2⟩ := hv
  refine IL.elim' hu fun ua uvs un' hE9e u1 u2 => ?_
  subst hE9e
  k_dflt ((refine' call_E (Wn := []) ?kB ?kF ?kX ?kT ?kA ?kf ?kk News.nil ?ko ?kc ?kr ?kb ?kl ?km ?_ ?c1 ?c2 ?c3 ?c4; (case kA => exact rfl); (case kB => assumption); (case kF => assumption); (case kX => assumption); (case kT => assumption); (case kf => assumption); (case kk => assumption); (case ko => k_is); (case kc => k_is); (case kr => ktr_room); (case kb => exact BindsTo.of_eq rfl); (case c4 => decide); (case kl => exact locs rfl); (case c1 => exact rfl); (case c2 => exact rfl); (case c3 => exact rfl)))
  case km => exact (fun O O' v k h => TP.mono _ _ _ _ k h)
  intro g L' h₁ F' N' B' X' T' G'
  have G := gsub_nil G'
  replace h1 := G _ _ h1
  replace h2 := G _ _ h2
  dsimp only at h2
  replace u1 := G _ _ u1
  clear G' G
  obtain ⟨y1, y2, y3, rfl⟩ := ints3 u2
  k_unmd
  k_fold
  k_steps
  rename Fr _ _ _ _ => F9
  rename News _ _ _ _ => N9
  refine BodyEnd.pure (fun O O' v k h => TP.mono _ _ _ _ k h) F9 N9 ?_
  exact ⟨_, _, _, rfl, List.Mem.head _, .cons _ _ .nil⟩

theorem samples_togrey {v u : Value} {p : Int} {x1 : Int} (B : Below A₀ base outer h₀) (F : Fr h₀ L s.heap m) (X : (KK w.params).In h₀) (T : Top VV LO mean mg mb h₀) (hf : env.frame = some L) (hk : env.scope.kind = .function) (hd : dp + 20 < recursionLimit) (hp : 2 ≤ p) (hp' : p ≤ 8) (hv : TU (HG s.heap) v ("grey", "rgb", p)) (hu : IL (HG s.heap) u [x1]) :
    Eff (model PR w) (AT dp un gd env outer) (call (.ref 230) [v, u]) s [] (fun _ => True) (fun O r => TP O r [x1, x1, x1]) := by
  obtain ⟨a, d, e1, e2, e3, t1, t2, t3, t4, t5, t6, n, rfl, h1, h2⟩ := hv
  refine IL.elim' hu fun ua uvs un' hE9e u1 u2 => ?_
  subst hE9e
  k_dflt ((refine' call_E (Wn := []) ?kB ?kF ?kX ?kT ?kA ?kf ?kk News.nil ?ko ?kc ?kr ?kb ?kl ?km ?_ ?c1 ?c2 ?c3 ?c4; (case kA => exact rfl); (case kB => assumption); (case kF => assumption); (case kX => assumption); (case kT => assumption); (case kf => assumption); (case kk => assumption); (case ko => k_is); (case kc => k_is); (case kr => ktr_room); (case kb => exact BindsTo.of_eq rfl); (case c4 => decide); (case kl => exact locs rfl); (case c1 => exact rfl); (case c2 => exact rfl); (case c3 => exact rfl)))
  case km => exact (fun O O' v k h => TP.mono _ _ _ _ k h)
  intro g L' h₁ F' N' B' X' T' G'
  have G := gsub_nil G'
  replace h1 := G _ _ h1
  replace h2 := G _ _ h2
  dsimp only at h2
  replace u1 := G _ _ u1
  clear G' G
  obtain ⟨y1, rfl⟩ := ints1 u2
  k_unmd
  k_fold
  k_steps
  rename Fr _ _ _ _ => F9
  rename News _ _ _ _ => N9
  refine BodyEnd.pure (fun O O' v k h => TP.mono _ _ _ _ k h) F9 N9 ?_
  exact ⟨_, _, _, rfl, List.Mem.head _, .cons _ _ (.cons _ _ (.cons _ _ .nil))⟩
end
end

section
open PySem PySem.W PyProof.Rows PyProof.Rows.LCg PySem.Calls
set_option maxRecDepth 100000
set_option maxHeartbeats 8000000
section
variable {w : World} {mean : ExcName → Option Value} {mg mb : Str → Option Value} {dp un : Nat} {gd : Option (List Code)} {env : Env} {outer : List Env} {A₀ : Around} {base h₀ : Heap} {L : Addr} {m : Str → Option Value} {s : Shared}

noncomputable def cnt (m : Str) : Nat := if m = "grey" then 1 else if m = "cmyk" ∨ m = "ycck" then 4 else if m = "raw" then 2 else 3
/-- what is asked of turned samples -/
noncomputable def Told (src goal : Str) (xs ys : List Int) : Prop :=
  (goal = "grey" → ∃ a b c, xs = [a, b, c] ∧ ys = [lightF a b c]) ∧ (src = "grey" → ∃ a, xs = [a] ∧ ys = [a, a, a]) ∧ ((src = "cmyk" ∨ src = "ycck") → ys[3]? = xs[3]?)
theorem Eff.mono {α : Type} {M : Model} {A : Around} {t : Sem α} {s : Shared} {W : List Addr} {Inv : Heap → Prop} {Post Post' : Look → α → Prop} (x : Eff M A t s W Inv Post) (k : ∀ O y, Post O y → Post' O y) : Eff M A t s W Inv Post' :=
  wpAny_mono x (fun y s' h => by obtain ⟨h', tk', e, a, b, c⟩ := h; exact ⟨h', tk', e, a, b, k _ _ c⟩) (fun _ _ e => e)
theorem len1 {α : Type} {xs : List α} (h : xs.length = 1) : ∃ a, xs = [a] := by
  match xs, h with | [a], _ => exact ⟨a, rfl⟩
theorem len3 {α : Type} {xs : List α} (h : xs.length = 3) : ∃ a b c, xs = [a, b, c] := by
  match xs, h with | [a, b, c], _ => exact ⟨a, b, c, rfl⟩
theorem len4 {α : Type} {xs : List α} (h : xs.length = 4) : ∃ a b c d, xs = [a, b, c, d] := by
  match xs, h with | [a, b, c, d], _ => exact ⟨a, b, c, d, rfl⟩
theorem samples_any {v u : Value} {src goal : Str} {p : Int} {xs : List Int} (B : Below A₀ base outer h₀) (F : Fr h₀ L s.heap m) (X : (KK w.params).In h₀) (T : Top VV LO mean mg mb h₀) (hf : env.frame = some L) (hk : env.scope.kind = .function) (hd : dp + 20 < recursionLimit) (hp : 2 ≤ p) (hp' : p ≤ 8) (hw : (src, goal) ∈ waysL) (hl : xs.length = cnt src) (hv : TU (HG s.heap) v (src, goal, p)) (hu : IL (HG s.heap) u xs) :
    Eff (model PR w) (AT dp un gd env outer) (call (.ref 230) [v, u]) s [] (fun _ => True) (fun O r => ∃ ys, TP O r ys ∧ ys.length = cnt goal ∧ Told src goal xs ys) := by
  simp only [waysL, List.mem_cons, List.not_mem_nil, or_false, Prod.mk.injEq] at hw
  rcases hw with ⟨rfl, rfl⟩ | ⟨rfl, rfl⟩ | ⟨rfl, rfl⟩ | ⟨rfl, rfl⟩ | ⟨rfl, rfl⟩ | ⟨rfl, rfl⟩
  · obtain ⟨x1, x2, x3, rfl⟩ := len3 (hl.trans (by decide))
    exact (samples_ycc B F X T hf hk hd hp hp' hv hu).mono fun O r ⟨x, y, z, h⟩ => ⟨_, h, by rfl, fun e => absurd e (by decide), fun e => absurd e (by decide), fun e => absurd e (by decide)⟩
  · obtain ⟨x1, x2, x3, rfl⟩ := len3 (hl.trans (by decide))
    exact (samples_rgb B F X T hf hk hd hp hp' hv hu).mono fun O r ⟨x, y, z, h⟩ => ⟨_, h, by rfl, fun e => absurd e (by decide), fun e => absurd e (by decide), fun e => absurd e (by decide)⟩
  · obtain ⟨x1, x2, x3, x4, rfl⟩ := len4 (hl.trans (by decide))
    exact (samples_ycck B F X T hf hk hd hp hp' hv hu).mono fun O r ⟨x, y, z, h⟩ => ⟨_, h, by rfl, fun e => absurd e (by decide), fun e => absurd e (by decide), fun _ => rfl⟩
  · obtain ⟨x1, x2, x3, x4, rfl⟩ := len4 (hl.trans (by decide))
    exact (samples_cmyk B F X T hf hk hd hp hp' hv hu).mono fun O r ⟨x, y, z, h⟩ => ⟨_, h, by rfl, fun e => absurd e (by decide), fun e => absurd e (by decide), fun _ => rfl⟩
  · obtain ⟨x1, x2, x3, rfl⟩ := len3 (hl.trans (by decide))
    exact (samples_grey B F X T hf hk hd hp hp' hv hu).mono fun O r h => ⟨_, h, by rfl, fun _ => ⟨_, _, _, rfl, rfl⟩, fun e => absurd e (by decide), fun e => absurd e (by decide)⟩
  · obtain ⟨x1, rfl⟩ := len1 (hl.trans (by decide))
    exact (samples_togrey B F X T hf hk hd hp hp' hv hu).mono fun O r h => ⟨_, h, by rfl, fun e => absurd e (by decide), fun _ => ⟨_, rfl, rfl⟩, fun e => absurd e (by decide)⟩
end
end

section
open PySem PySem.W PyProof.Rows PyProof.Rows.LCg PySem.Calls
set_option maxRecDepth 100000
set_option maxHeartbeats 8000000
section
variable {w : World} {mean : ExcName → Option Value} {mg mb : Str → Option Value} {dp un : Nat} {gd : Option (List Code)} {env : Env} {outer : List Env} {A₀ : Around} {base h₀ : Heap} {L : Addr} {m : Str → Option Value} {s : Shared}

local macro_rules | `(tactic| walk_at "new") => `(tactic| ((first | apply plane_use | apply pic_use | apply turn_use); iterate 8 walk_at "h"))
local macro_rules | `(tactic| walk_at "call ref") => `(tactic| (k_here; k_dflt (walk_at "new"; intros; rename_i l1 l2; (try k_lt l1); (try k_lt2 l2); (try dsimp only); (try k_fold))))

noncomputable def col (ps : List Pln) (y x : Nat) : List Int := ps.map fun q => (q.rows.getD y []).getD x 0
noncomputable def TurnOk (src goal : Str) (ps : List Pln) (W H : Nat) (ff : List (List (List Int))) : Prop :=
  ff.length = H ∧ ∀ y row, ff[y]? = some row → row.length = W ∧ ∀ x ys, row[x]? = some ys → ys.length = cnt goal ∧ Told src goal (col ps y x) ys
noncomputable def outP (ff : List (List (List Int))) (W H k : Nat) : List Pln := (List.range k).map fun a => ⟨W, H, ff.map fun row => row.map fun ys => ys.getD a 0⟩
local macro_rules | `(tactic| walk_at "subscriptTail") => `(tactic| walk_at "it")
local macro_rules | `(tactic| walk_at "fn") => `(tactic| (apply samples_any <;> walk_at "h"))
local macro_rules | `(tactic| walk_at "call builtin:len") => `(tactic| (k_here; (with_reducible show wpAny _ _ (call (Value.builtin "len") [Value.ref _]) _ _ _); (refine len_tup_led (by k_asm) (by walk_at "km") (by assumption) (by assumption) ?_)))
inductive TurnR (fa L' : Addr) (o1 o2 of9 o6 : Obj) (src goal : Str) (W : Nat) (qs : List Pln) (i : Nat) (led : List (Addr × Obj)) : Prop
  | mk : ∀ (vs : List Value) (nn : Nat) (oy orow : Obj) (imm : List (Addr × Obj)) (ff : List (List (List Int))) (y0 r0 : Option Value), led = (fa, listOf vs.toArray nn) :: (L' + 1 + 1 + 1 + 1 + 1 + 1, o1) :: (L' + 1 + 1 + 1 + 1 + 1, o2) :: (L' + 1 + 1 + 1 + 1, orow) :: (L' + 1 + 1 + 1, oy) :: (L' + 1 + 1, of9) :: (L' + 1, o6) :: imm → oy.data = .cell y0 → orow.data = .cell r0 → vs.length = i → ff.length = i → (∀ p ∈ imm, p.1 ≠ fa ∧ p.1 ≠ L' + 1 + 1 + 1 + 1 ∧ p.1 ≠ L' + 1 + 1 + 1 ∧ p.1 ≠ L' + 1 + 1 + 1 + 1 + 1 + 1 ∧ p.1 ≠ L' + 1 + 1 + 1 + 1 + 1) → (∀ (j : Nat) v row, vs[j]? = some v → ff[j]? = some row → LL TP (fun a o => (a, o) ∈ imm) v row ∧ row.length = W ∧ ∀ x ys, row[x]? = some ys → ys.length = cnt goal ∧ Told src goal (col qs j x) ys) → TurnR fa L' o1 o2 of9 o6 src goal W qs i led
theorem turned_planes_ok {tv pv : Value} {src goal : Str} {p : Int} {ps : List Pln} {W H : Nat} (B : Below A₀ base outer h₀) (F : Fr h₀ L s.heap m) (X : (KK w.params).In h₀) (T : Top VV LO mean mg mb h₀) (hf : env.frame = some L) (hk : env.scope.kind = .function) (hd : dp + 30 < recursionLimit) (hp : 2 ≤ p) (hp' : p ≤ 8) (hw : (src, goal) ∈ waysL) (hl : ps.length = cnt src) (ok : ∀ q ∈ ps, PlnOk q) (hWH : ∀ q ∈ ps, q.w = W ∧ q.h = H)
    (w1 : 1 ≤ W) (w3 : W ≤ 3) (h1 : 1 ≤ H) (h2 : H ≤ 2) (hv : TU (HG s.heap) tv (src, goal, p)) (hps : PLS (HG s.heap) pv ps) :
    Eff (model PR w) (AT dp un gd env outer) (call (.ref 249) [tv, pv]) s [] (fun _ => True) (fun O r => ∃ ff, TurnOk src goal ps W H ff ∧ PLS O r (outP ff W H (cnt goal))) := by
  have hl4 : 1 ≤ ps.length ∧ ps.length ≤ 4 := by
    rw [hl]
    simp only [waysL, List.mem_cons, List.not_mem_nil, or_false, Prod.mk.injEq] at hw
    rcases hw with ⟨rfl, rfl⟩ | ⟨rfl, rfl⟩ | ⟨rfl, rfl⟩ | ⟨rfl, rfl⟩ | ⟨rfl, rfl⟩ | ⟨rfl, rfl⟩ <;> decide
  obtain ⟨a, d, e1, e2, e3, t1, t2, t3, t4, t5, t6, n, rfl, v1, v2⟩ := id hv
  refine hps.elim fun pa pvs pn hv1e p1 p2 p3 => ?_
  cases hv1e
  k_dflt ((refine' call_EC (Wn := []) ?kB ?kF ?kX ?kT ?kA ?kf ?kk News.nil ?ko ?kc ?kr ?kb ?kl ?kd ?km ?_ ?c1 ?c2 ?c3; (case kA => exact rfl); (case kB => assumption); (case kF => assumption); (case kX => assumption); (case kT => assumption); (case kf => assumption); (case kk => assumption); (case ko => k_is); (case kc => k_is); (case kr => ktr_room); (case kb => exact BindsTo.of_eq rfl); (case kl => exact rfl); (case kd => decide +kernel); (case c1 => exact rfl); (case c2 => exact rfl); (case c3 => exact rfl)))
  case km => exact fun O O' v k ⟨ff, h, h'⟩ => ⟨ff, h, PLS.mono _ _ _ _ k h'⟩
  intro g L' h₁ tk₁ cells F' N' Y' lW B' X' T' G'
  have G := gsub_nil G'
  replace hv := TU.mono _ _ _ _ G hv
  replace v1 := G _ _ v1
  replace v2 := G _ _ v2
  dsimp only at v2
  replace p1 := G _ _ p1
  replace p3 := fun i v x e1 e2 => PL.mono _ _ _ _ G (p3 i v x e1 e2)
  clear G'
  obtain ⟨o1, o2, o3, o4, o5, o6, rfl, c1, c2, c3, c4, c5, c6⟩ := cells6 Y'
  replace c1 : o1.data = .cell none := c1
  replace c2 : o2.data = .cell none := c2
  replace c3 : o3.data = .cell none := c3
  replace c4 : o4.data = .cell none := c4
  replace c5 : o5.data = .cell none := c5
  replace c6 : o6.data = .cell (some (.ref a)) := c6
  simp only [List.cons_append, List.nil_append, List.append_nil] at N'
  obtain ⟨q0, ps', rfl⟩ : ∃ q0 ps', ps = q0 :: ps' := by cases ps with | nil => simp at hl4 | cons a b => exact ⟨a, b, rfl⟩
  obtain ⟨v0, pvs', rfl⟩ : ∃ v0 pvs', pvs = v0 :: pvs' := by cases pvs with | nil => simp at p2 | cons a b => exact ⟨a, b, rfl⟩
  refine (p3 0 v0 q0 rfl rfl).elim fun za zd ze1 ze2 ze3 zt1 zt2 zt3 zt4 zt5 zrv zn hv2e z1 z2 z3 => ?_
  cases hv2e
  obtain ⟨hq1, hq2⟩ := hWH q0 (List.Mem.head _)
  rw [hq1, hq2] at z2
  refine z3.elim fun zra zvs zrn hv3e zr1 zr2 zr3 => ?_
  cases hv3e
  clear z3
  k_unmd
  k_fold
  k_steps
  unfold Stop
  rename Fr _ _ _ _ => F9
  rename News _ _ _ _ => N9
  rename_i fa hB l1 hC of9 hof
  refine for_rangeC (n := H) (TurnR fa L' o1 o2 of9 o6 src goal W (q0 :: ps')) F9 rfl rfl PassesOwn.never ?head (fun _ _ _ _ q => wpAny_pure q) (by intro _; rfl)
  case head =>
    k_steps
    rename Fr _ _ _ _ => F8
    rename News _ _ _ _ => N8
    rename IsRange _ _ _ _ _ _ _ _ => hR
    refine ⟨_, _, _, _, _, _, rfl, F8, N8, hR, (ranges_ok H (by omega)).1, (ranges_ok H (by omega)).2, ⟨[], 0, _, _, [], [], _, _, rfl, c4, c3, rfl, rfl, fun _ h => (nomatch h), fun j v row h => by simp at h⟩, ?turn, ?done⟩
    case turn =>
      rintro i ti I led' s' own hi ⟨vs, nn, oy, orow, imm, ff, y0, r0, rfl, hoy, horow, hlen, hflen, himm, hres⟩ off hown ⟨oI, hI⟩ F7 N7
      simp only [List.cons_append] at N7
      have gI : ∀ p ∈ own, p.1 ≠ fa ∧ p.1 ≠ L' + 1 + 1 + 1 + 1 ∧ p.1 ≠ L' + 1 + 1 + 1 ∧ p.1 ≠ L' + 1 + 1 + 1 + 1 + 1 + 1 ∧ p.1 ≠ L' + 1 + 1 + 1 + 1 + 1 := fun p hp => by
        rw [hown p hp]
        exact ⟨Ne.symm (off _ (List.Mem.head _)), Ne.symm (off _ (.tail _ (.tail _ (.tail _ (.head _))))), Ne.symm (off _ (.tail _ (.tail _ (.tail _ (.tail _ (.head _)))))), Ne.symm (off _ (.tail _ (.head _))), Ne.symm (off _ (.tail _ (.tail _ (.head _))))⟩
      have gio : ∀ p ∈ imm ++ own, p.1 ≠ fa ∧ p.1 ≠ L' + 1 + 1 + 1 + 1 ∧ p.1 ≠ L' + 1 + 1 + 1 ∧ p.1 ≠ L' + 1 + 1 + 1 + 1 + 1 + 1 ∧ p.1 ≠ L' + 1 + 1 + 1 + 1 + 1 := fun p hp => (List.mem_append.mp hp).elim (himm p) (gI p)
      have g1 : ∀ p ∈ imm ++ own, p.1 ≠ fa := fun p hp => (gio p hp).1
      have g2 : ∀ p ∈ imm ++ own, p.1 ≠ L' + 1 + 1 + 1 + 1 := fun p hp => (gio p hp).2.1
      have g3 : ∀ p ∈ imm ++ own, p.1 ≠ L' + 1 + 1 + 1 := fun p hp => (gio p hp).2.2.1
      k_steps
      unfold Stop
      rename Fr _ _ _ _ => F6
      rename News _ _ _ _ => N6
      rename_i hC2 oy9 hoy9
      refine wpAny_Assign_Name ?_
      refine comp_fr (n := (Value.ref za :: pvs').length) (P := fun j v => (Value.ref za :: pvs')[j]? = some v) (fun j v O y => ∃ p r, (q0 :: ps')[j]? = some p ∧ p.rows[i]? = some r ∧ IL (HG g) y r) F6 N6 ?mono ?hit ?turns ?k rfl (by with_unfolding_all rfl) rfl (by decide) (.inl rfl) (by intro _; rfl)
      case mono => exact fun _ _ _ _ _ _ h => h
      case hit =>
        intro led₀ N₀ sub₀
        k_steps
        rename Fr _ _ _ _ => F9
        rename News _ _ _ _ => N9
        exact IterEnd.list F9 N9 (fun _ h => h) ⟨_, F9.keep _ _ p1, rfl, _, rfl⟩ (by rw [sizeLine_eq, p2]; omega)
      case turns =>
        intro C j v h tk cl' led' hcl hj hv2 F2 N2 sub2 U2 ho
        refine item_elim p2 p3 hv2 fun p hp hpm hq4e => ?_
        refine hq4e.elim fun xa xd f1 f2 f3 u1 u2 u3 u4 u5 rv xn hv5e x1 x2 x3 => ?_
        cases hv5e
        refine PlnOk.elim (ok p hpm) fun ok1 ok2 ok3 ok4 ok5 ok6 => ?_
        obtain ⟨hpw, hph⟩ := hWH p hpm
        refine x3.elim fun rra rvs rrn hv6e r1 r2 r3 => ?_
        cases hv6e
        clear x3
        have hrl : i < p.rows.length := by omega
        have hrv : i < rvs.length := by omega
        have hv5 : rvs[(i : Int).toNat]? = some (rvs[i]'hrv) := by rw [Int.toNat_natCast]; exact List.getElem?_eq_getElem _
        have hym : (L' + 1 + 1 + 1, oy9) ∈ led' := sub2 _ (by k_mem)
        subst hcl
        k_steps
        rename Fr _ _ _ _ => F9
        rename News _ _ _ _ => N9
        exact EltEnd.intro F9 N9 (fun _ h => h) ⟨p, _, hp, List.getElem?_eq_getElem hrl, r3 i _ _ (List.getElem?_eq_getElem hrv) (List.getElem?_eq_getElem hrl)⟩
      case k =>
        intro y new h' tk' F5 N5 hn5 po
        refine po.elim fun D ys hv7e y1 y2 y3 => ?_
        cases hv7e
        clear po
        have g4 := ne_new (o := listOf vs.toArray nn) hn5 (d := fa) (N6 _ (.head _)).1
        have xs0 : ∀ {d : Addr} {o : Obj}, (d, o) ∈ (fa, listOf vs.toArray nn) :: (L' + 1 + 1 + 1 + 1 + 1 + 1, o1) :: (L' + 1 + 1 + 1 + 1 + 1, o2) :: (L' + 1 + 1 + 1 + 1, orow) :: (L' + 1 + 1 + 1, oy9) :: (L' + 1 + 1, of9) :: (L' + 1, o6) :: (imm ++ own) → ∀ p ∈ new, p.1 ≠ d := fun hm => ne_new hn5 (N6 _ hm).1
        have g5 := ne_new (o := orow) hn5 (d := L' + 1 + 1 + 1 + 1) (N6 _ (.tail _ (.tail _ (.tail _ (.head _))))).1
        k_steps
        unfold Stop
        rename Fr _ _ _ _ => F4
        rename News _ _ _ _ => N4
        rename_i hC3 o' ho'
        refine comp_fr (n := W) (P := fun x v => ∃ t, v = .int (0 + (x : Int)) t) (fun x v O y => ∃ zs, TP O y zs ∧ zs.length = cnt goal ∧ Told src goal (col (q0 :: ps') i x) zs) F4 N4 ?mono1 ?hit1 ?turns1 ?k1 rfl (by with_unfolding_all rfl) rfl (by decide) (.inr ⟨rfl, fun k => ⟨_, rfl, rfl⟩⟩) (by intro _; rfl)
        case mono1 => rintro x v y O O' k ⟨zs, a, b⟩; exact ⟨zs, TP.mono _ _ _ _ k a, b⟩
        case hit1 =>
          intro led₀ N₀ sub₀
          k_steps
          rename Fr _ _ _ _ => F9
          rename News _ _ _ _ => N9
          rename IsRange _ _ _ _ _ _ _ _ => hR2
          exact IterEnd.range F9 N9 (fun _ h => h) hR2 (ranges_ok W (by omega)).1 (ranges_ok W (by omega)).2 (by rw [sizeLine_eq]; omega)
        case turns1 =>
          rintro C x v h tk cl' led' hcl ⟨hx, hC⟩ ⟨xt, rfl⟩ F3 N3 sub3 U3 ho3
          subst hcl
          obtain ⟨ox, hxm, hxd⟩ := own_cell F3 U3 ho3 rfl rfl (Nat.lt_succ_of_lt hC)
          rw [Int.zero_add] at hxd
          have hrm : (L' + 1 + 1 + 1 + 1, o') ∈ led' := sub3 _ (List.mem_append_right _ (.tail _ (.tail _ (.tail _ (.head _)))))
          have htm : (L' + 1, o6) ∈ led' := sub3 _ (List.mem_append_right _ (.tail _ (.tail _ (.tail _ (.tail _ (.tail _ (.tail _ (.head _))))))))
          k_steps
          unfold Stop
          rename Fr _ _ _ _ => F1
          rename News _ _ _ _ => N1
          have hys : ys.length = (q0 :: ps').length := y2.trans p2
          have hcol : (col (q0 :: ps') i x).length = cnt src := by rw [col, List.length_map]; exact hl
          refine comp_fr (n := ys.length) (P := fun j v => ys[j]? = some v) (fun j v O y => ∃ p r z, (q0 :: ps')[j]? = some p ∧ p.rows[i]? = some r ∧ r[x]? = some z ∧ IV O y z) F1 N1 ?mono2 ?hit2 ?turns2 ?k2 rfl (by with_unfolding_all rfl) rfl (by decide) (.inl rfl) (by intro _; rfl)
          case mono2 => exact fun _ _ _ _ _ _ h => h
          case hit2 =>
            intro led₀ N₀ sub₀
            have hDm : (D, lst ys) ∈ led₀ := sub₀ _ (sub3 _ (List.mem_append_left _ y1))
            have hrm2 : (L' + 1 + 1 + 1 + 1, o') ∈ led₀ := sub₀ _ hrm
            k_steps
            rename Fr _ _ _ _ => F9
            rename News _ _ _ _ => N9
            exact IterEnd.list F9 N9 (fun _ h => h) ⟨_, (N9 _ hDm).1, rfl, _, rfl⟩ (by rw [sizeLine_eq, hys]; omega)
          case turns2 =>
            rintro C2 j v h tk cl' led2 hcl ⟨hj, hC2⟩ hvj F2 N2 sub2 U2 ho
            obtain ⟨v', hv', p, r, hp, hr, hIL⟩ := y3 j v hvj
            refine hIL.elim fun ia ivs inn hv8e s1 s2 s3 => ?_
            cases hv8e
            clear hIL
            refine PlnOk.elim (ok p (List.mem_of_getElem? hp)) fun ok1 ok2 ok3 ok4 ok5 ok6 => ?_
            obtain ⟨hpw, hph⟩ := hWH p (List.mem_of_getElem? hp)
            have hrl : x < r.length := by have := ok2 r (List.mem_of_getElem? hr); omega
            have hrv : x < ivs.length := by omega
            have hv5 : ivs[(x : Int).toNat]? = some (ivs[x]'hrv) := by rw [Int.toNat_natCast]; exact List.getElem?_eq_getElem _
            have hxm2 : (C + 1, ox) ∈ led2 := sub2 _ hxm
            subst hcl
            k_steps
            rename Fr _ _ _ _ => F9
            rename News _ _ _ _ => N9
            exact EltEnd.intro F9 N9 (fun _ h => h) ⟨p, r, _, hp, hr, List.getElem?_eq_getElem hrl, s3 x _ _ (List.getElem?_eq_getElem hrv) (List.getElem?_eq_getElem hrl)⟩
          case k2 =>
            intro y new2 h' tk' F2 N2 hn2 po
            refine po.elim fun D2 ys2 hv9e _ _ _ => ?_
            cases hv9e
            have hIL : IL (fun a o => (a, o) ∈ new2) (.ref D2) (col (q0 :: ps') i x) := by
              refine CompPost.toMap hys (fun j v q O y e t => ?_) po
              obtain ⟨p, r, z, e1, e2, e3, e4⟩ := t
              rw [e] at e1
              cases e1
              rw [show (q.rows.getD i []).getD x 0 = z by rw [List.getD_eq_getElem?_getD, List.getD_eq_getElem?_getD, e2, Option.getD_some, e3, Option.getD_some]]
              exact e4
            k_steps
            rename Fr _ _ _ _ => F8
            rename News _ _ _ _ => N8
            rename_i zs za1 zvs2 zn2 new9 h9 tk9 hn3 zt1 hi3 hz2 hz3
            refine EltEnd.intro F8 N8 (fun _ h => List.mem_append_right _ (List.mem_append_right _ h)) ⟨_, ⟨_, _, _, rfl, ⟨(N8 _ (List.mem_append_left _ zt1)).1, full_none U3 F1 F2 (fun p hp => (N2 p (List.mem_append_right _ hp)).1) (hn3 _ zt1)⟩, hi3⟩, by assumption, by assumption⟩
        case k1 =>
          intro y new1 h' tk' F3 N3 hn3 po
          obtain ⟨row, hrow, hLL, hrr⟩ := CompPost.choose po
          refine po.elim fun D1 ys1 hv10e _ _ _ => ?_
          cases hv10e
          have g6 := ne_new (o := listOf vs.toArray nn) hn3 (d := fa) (N4 _ (List.mem_append_right _ (.head _))).1
          have xs1 : ∀ {d : Addr} {o : Obj}, (d, o) ∈ (fa, listOf vs.toArray nn) :: (L' + 1 + 1 + 1 + 1 + 1 + 1, o1) :: (L' + 1 + 1 + 1 + 1 + 1, o2) :: (L' + 1 + 1 + 1 + 1, o') :: (L' + 1 + 1 + 1, oy9) :: (L' + 1 + 1, of9) :: (L' + 1, o6) :: (imm ++ own) → ∀ p ∈ new1, p.1 ≠ d := fun hm => ne_new hn3 (N4 _ (List.mem_append_right _ hm)).1
          have hsz : vs.toArray.size ≤ sizeLine := by rw [sizeLine_eq, List.size_toArray]; omega
          k_steps
          rename Fr _ _ _ _ => F2
          rename News _ _ _ _ => N2
          rw [List.push_toArray] at N2
          have mI : ∀ {x y z u v w t : Addr × Obj}, (I, oI) ∈ x :: y :: z :: u :: v :: w :: t :: (imm ++ own) := .tail _ (.tail _ (.tail _ (.tail _ (.tail _ (.tail _ (.tail _ (List.mem_append_right _ hI)))))))
          refine ForEnd1.intro F2 N2 ((fa, listOf (vs ++ [Value.ref D1]).toArray (nn + 1)) :: (L' + 1 + 1 + 1 + 1 + 1 + 1, o1) :: (L' + 1 + 1 + 1 + 1 + 1, o2) :: (L' + 1 + 1 + 1 + 1, o') :: (L' + 1 + 1 + 1, oy9) :: (L' + 1 + 1, of9) :: (L' + 1, o6) :: (new1 ++ (new ++ imm))) (fun q hq => ?_) (fun q hq => ?_)
            ⟨vs ++ [Value.ref D1], nn + 1, oy9, o', new1 ++ (new ++ imm), ff ++ [row], _, _, rfl, hoy9, ho', by rw [List.length_append, hlen]; rfl, by rw [List.length_append, hflen]; rfl, fun q hq => ?_, fun j v row' hj hj' => ?_⟩
          · simp only [List.cons_append, List.append_assoc, List.mem_cons, List.mem_append] at hq ⊢
            rcases hq with h | h | h | h | h | h | h | h | h | h | h <;> simp [h]
          · simp only [List.mem_cons, List.mem_append] at hq
            rcases hq with h | h | h | h | h | h | h | h | h | h
            · rw [h]; exact off (fa, listOf vs.toArray nn) (.head _)
            · rw [h]; exact off (_, o1) (.tail _ (.head _))
            · rw [h]; exact off (_, o2) (.tail _ (.tail _ (.head _)))
            · rw [h]; exact off (_, orow) (.tail _ (.tail _ (.tail _ (.head _))))
            · rw [h]; exact off (_, oy) (.tail _ (.tail _ (.tail _ (.tail _ (.head _)))))
            · rw [h]; exact off (_, of9) (.tail _ (.tail _ (.tail _ (.tail _ (.tail _ (.head _))))))
            · rw [h]; exact off (_, o6) (.tail _ (.tail _ (.tail _ (.tail _ (.tail _ (.tail _ (.head _)))))))
            · exact xs1 mI q h
            · exact xs0 mI q h
            · exact off q (.tail _ (.tail _ (.tail _ (.tail _ (.tail _ (.tail _ (.tail _ h)))))))
          · simp only [List.mem_append] at hq
            rcases hq with h | h | h
            · exact ⟨xs1 (.head _) q h, xs1 (.tail _ (.tail _ (.tail _ (.head _)))) q h, xs1 (.tail _ (.tail _ (.tail _ (.tail _ (.head _))))) q h, xs1 (.tail _ (.head _)) q h, xs1 (.tail _ (.tail _ (.head _))) q h⟩
            · exact ⟨xs0 (.head _) q h, xs0 (.tail _ (.tail _ (.tail _ (.head _)))) q h, xs0 (.tail _ (.tail _ (.tail _ (.tail _ (.head _))))) q h, xs0 (.tail _ (.head _)) q h, xs0 (.tail _ (.tail _ (.head _))) q h⟩
            · exact himm q h
          · rcases Nat.lt_trichotomy j vs.length with z | z | z
            · rw [List.getElem?_append_left z] at hj
              rw [List.getElem?_append_left (by omega)] at hj'
              obtain ⟨r1, r2⟩ := hres j v row' hj hj'
              exact ⟨LL.mono TP.mono _ _ _ _ (fun a o h => List.mem_append_right _ (List.mem_append_right _ h)) r1, r2⟩
            · subst z
              simp at hj
              rw [hlen, ← hflen] at hj'
              simp at hj'
              subst hj
              subst hj'
              refine ⟨LL.mono TP.mono _ _ _ _ (fun a o h => List.mem_append_left _ h) hLL, hrow, fun x ys2 e => ?_⟩
              rw [hlen]
              exact hrr x ys2 e
            · rw [List.getElem?_eq_none (by rw [List.length_append, List.length_singleton]; exact z)] at hj; cases hj
    case done =>
      rintro h' tk' led' F7 N7 ⟨vs, nn, oy, orow, imm, ff, y0, r0, rfl, hoy, horow, hlen, hflen, himm, hres⟩
      have g6 : ∀ p ∈ imm, p.1 ≠ L' + 1 + 1 + 1 + 1 + 1 + 1 := fun p hp => (himm p hp).2.2.2.1
      have g5 : ∀ p ∈ imm, p.1 ≠ L' + 1 + 1 + 1 + 1 + 1 := fun p hp => (himm p hp).2.2.2.2
      have hlist : ∀ (j : Nat), j < H → ∃ v row, vs[j]? = some v ∧ ff[j]? = some row ∧ LL TP (fun a o => (a, o) ∈ imm) v row ∧ row.length = W ∧ ∀ x ys, row[x]? = some ys → ys.length = cnt goal ∧ Told src goal (col (q0 :: ps') j x) ys := fun j hj => by
        have e1 : vs[j]? = some (vs[j]'(by omega)) := List.getElem?_eq_getElem _
        have e2 : ff[j]? = some (ff[j]'(by omega)) := List.getElem?_eq_getElem _
        exact ⟨_, _, e1, e2, hres j _ _ e1 e2⟩
      obtain ⟨v, row, hv0, hr0, ⟨da, dvs, dn, rfl, d1, d2, d3⟩, hrw, hrr⟩ := hlist 0 (by omega)
      have e1 : dvs[0]? = some (dvs[0]'(by omega)) := List.getElem?_eq_getElem _
      have e2 : row[0]? = some (row[0]'(by omega)) := List.getElem?_eq_getElem _
      obtain ⟨ta, tvs, tn, te, b1, b2⟩ := d3 0 _ _ e1 e2
      rw [te] at e1
      have hmany := (hrr 0 _ e2).1
      rw [← b2.length] at hmany
      have hcg : cnt goal ≤ 1000 := by unfold cnt; split <;> (try split) <;> (try split) <;> decide
      k_steps
      unfold Stop
      rename Fr _ _ _ _ => F6
      rename News _ _ _ _ => N6
      rename_i ow how hE oh hoh
      refine comp_fr (n := cnt goal) (P := fun k v => ∃ t, v = .int (0 + (k : Int)) t) (fun k v O y => PL O y ⟨W, H, ff.map fun row => row.map fun ys => ys.getD k 0⟩) F6 N6 ?mono ?hit ?turns ?k rfl (by with_unfolding_all rfl) rfl (by decide) (.inr ⟨rfl, fun k => ⟨_, rfl, rfl⟩⟩) (by intro _; rfl)
      case mono => exact fun _ _ _ _ _ k h => PL.mono _ _ _ _ k h
      case hit =>
        intro led₀ N₀ sub₀
        k_steps
        rename Fr _ _ _ _ => F9
        rename News _ _ _ _ => N9
        rename IsRange _ _ _ _ _ _ _ _ => hR2
        exact IterEnd.range F9 N9 (fun _ h => h) hR2 (ranges_ok _ hcg).1 (ranges_ok _ hcg).2 (by rw [sizeLine_eq]; omega)
      case turns =>
        rintro C k v h tk cl' led' hcl ⟨hk, hC⟩ ⟨kt, rfl⟩ F2 N2 sub2 U2 ho
        subst hcl
        obtain ⟨ok, hkm, hkd⟩ := own_cell F2 U2 ho rfl rfl (Nat.lt_succ_of_lt hC)
        rw [Int.zero_add] at hkd
        have m1 : (fa, listOf vs.toArray nn) ∈ led' := sub2 _ (.tail _ (.head _))
        have m2 : (L' + 1 + 1 + 1 + 1 + 1 + 1, oh) ∈ led' := sub2 _ (.tail _ (.tail _ (.head _)))
        have m3 : (L' + 1 + 1 + 1 + 1 + 1, ow) ∈ led' := sub2 _ (.tail _ (.tail _ (.tail _ (.head _))))
        have m4 : (L' + 1 + 1, of9) ∈ led' := sub2 _ (.tail _ (.tail _ (.tail _ (.tail _ (.tail _ (.tail _ (.head _)))))))
        have mi : ∀ p ∈ imm, p ∈ led' := fun p hp => sub2 _ (.tail _ (.tail _ (.tail _ (.tail _ (.tail _ (.tail _ (.tail _ (.tail _ hp))))))))
        k_steps
        unfold Stop
        rename Fr _ _ _ _ => F5
        rename News _ _ _ _ => N5
        refine comp_fr (n := vs.length) (P := fun j v => vs[j]? = some v) (fun j v O y => ∃ row, ff[j]? = some row ∧ IL O y (row.map fun ys => ys.getD k 0)) F5 N5 ?mono2 ?hit2 ?turns2 ?k2 rfl (by with_unfolding_all rfl) rfl (by decide) (.inl rfl) (by intro _; rfl)
        case mono2 => rintro j v y O O' k ⟨row, a, b⟩; exact ⟨row, a, IL.mono _ _ _ _ k b⟩
        case hit2 =>
          intro led₀ N₀ sub₀
          have m5 := sub₀ _ m1
          have m6 := sub₀ _ m4
          k_steps
          rename Fr _ _ _ _ => F9
          rename News _ _ _ _ => N9
          exact IterEnd.list F9 N9 (fun _ h => h) ⟨_, (N9 _ m5).1, rfl, _, rfl⟩ (by rw [sizeLine_eq, hlen]; omega)
        case turns2 =>
          rintro C2 j v h tk cl' led2 hcl ⟨hj, hC2⟩ hvj F3 N3 sub3 U3 ho3
          obtain ⟨v', row, hv', hrow, ⟨ra, rvs, rn, rfl, r1, r2, r3⟩, hrl, hrr2⟩ := hlist j (by omega)
          rw [hvj] at hv'
          cases hv'
          have m7 : (C + 1, ok) ∈ led2 := sub3 _ hkm
          have m8 := sub3 _ (mi _ r1)
          subst hcl
          k_steps
          unfold Stop
          rename Fr _ _ _ _ => F8
          rename News _ _ _ _ => N8
          refine comp_fr (n := rvs.length) (P := fun j v => rvs[j]? = some v) (fun x v O y => ∃ ys z, row[x]? = some ys ∧ ys[k]? = some z ∧ IV O y z) F8 N8 ?mono3 ?hit3 ?turns3 ?k3 rfl (by with_unfolding_all rfl) rfl (by decide) (.inl rfl) (by intro _; rfl)
          case mono3 => exact fun _ _ _ _ _ _ h => h
          case hit3 =>
            intro led₀ N₀ sub₀
            have m9 := sub₀ _ m8
            k_steps
            rename Fr _ _ _ _ => F9
            rename News _ _ _ _ => N9
            exact IterEnd.list F9 N9 (fun _ h => h) ⟨_, (N9 _ m9).1, rfl, _, rfl⟩ (by rw [sizeLine_eq, r2, hrl]; omega)
          case turns3 =>
            rintro C3 x v h tk cl' led3 hcl ⟨hx, hC3⟩ hvx F4 N4 sub4 U4 ho4
            refine item_elim r2 r3 hvx fun ys hys _ hq9e => ?_
            obtain ⟨ua, uvs, un9, rfl, u1, u2⟩ := hq9e
            have m10 : (C + 1, ok) ∈ led3 := sub4 _ m7
            have m11 := sub4 _ (sub3 _ (mi _ u1))
            have hyl := (hrr2 x ys hys).1
            have hku : k < uvs.length := by rw [u2.length]; omega
            have hv5 : uvs[(k : Int).toNat]? = some (uvs[k]'hku) := by rw [Int.toNat_natCast]; exact List.getElem?_eq_getElem _
            have hkz : k < ys.length := by omega
            subst hcl
            k_steps
            rename Fr _ _ _ _ => F9
            rename News _ _ _ _ => N9
            exact EltEnd.intro F9 N9 (fun _ h => h) ⟨ys, _, hys, List.getElem?_eq_getElem hkz, of_ints (O := HG h) u2 k _ _ (List.getElem?_eq_getElem hku) (List.getElem?_eq_getElem hkz)⟩
          case k3 =>
            intro y new h' tk' F4 N4 hn4 po
            refine EltEnd.intro F4 N4 (fun _ h => List.mem_append_right _ h) ⟨row, hrow, ?_⟩
            refine IL.mono _ _ _ _ (fun a o h => ⟨(N4 _ (List.mem_append_left _ h)).1, hn4 _ h⟩) (CompPost.toMap r2 (fun i v x O y e t => ?_) po)
            obtain ⟨ys, z, f1, f2, f3⟩ := t
            rw [e] at f1
            cases f1
            rw [show x.getD k 0 = z by rw [List.getD_eq_getElem?_getD, f2, Option.getD_some]]
            exact f3
        case k2 =>
          intro y new h' tk' F4 N4 hn4 po
          refine po.elim fun D ys hv12e q1 q2 q3 => ?_
          cases hv12e
          have hRW : RW (fun a o => (a, o) ∈ new) (.ref D) (ff.map fun row => row.map fun ys => ys.getD k 0) := by
            refine CompPost.toMap (by omega) (fun i v x O y e t => ?_) po
            obtain ⟨row, f1, f2⟩ := t
            rw [e] at f1
            cases f1
            exact f2
          k_steps
          rename Fr _ _ _ _ => F9
          rename News _ _ _ _ => N9
          have nx := N9 _ (.head _)
          have nd := N9 _ (.tail _ (.head _))
          refine EltEnd.intro F9 N9 (fun _ h => .tail _ (.tail _ (List.mem_append_right _ h))) ⟨_, _, _, _, _, _, _, _, _, _, _, _, rfl, ⟨nx.1, full_new2 U2 (by assumption) (Nat.le_of_lt (by assumption)) nx.2.2 nx.2.1⟩, ⟨nd.1, full_new2 U2 (by assumption) (Nat.le_refl _) nd.2.2 nd.2.1⟩, ?_⟩
          exact RW.mono _ _ _ _ (fun a o h => ⟨(N9 _ (.tail _ (.tail _ (List.mem_append_left _ h)))).1, hn4 _ h⟩) hRW
      case k =>
        intro y new h' tk' F4 N4 hn4 po
        refine po.elim fun D ys hv13e q1 q2 q3 => ?_
        cases hv13e
        k_steps
        rename Fr _ _ _ _ => F9
        rename News _ _ _ _ => N9
        refine BodyEnd.pure (fun O O' v k ⟨ff, h, h'⟩ => ⟨ff, h, PLS.mono _ _ _ _ k h'⟩) F9 N9 ⟨ff, ⟨hflen, fun y row e => ?_⟩, _, _, _, rfl, List.mem_append_left _ q1, by rw [outP, List.length_map, List.length_range, q2], fun i v x e1 e2 => ?_⟩
        · have hy : y < H := by
            rcases Nat.lt_or_ge y ff.length with z | z
            · omega
            · rw [List.getElem?_eq_none z] at e; cases e
          obtain ⟨_, row', _, e2, _, r1, r2⟩ := hlist y hy
          rw [e] at e2
          cases e2
          exact ⟨r1, r2⟩
        · obtain ⟨v', _, t⟩ := q3 i v e1
          have hi : i < cnt goal := by
            rcases Nat.lt_or_ge i ys.length with z | z
            · omega
            · rw [List.getElem?_eq_none z] at e1; cases e1
          rw [outP, List.getElem?_map, List.getElem?_range hi] at e2
          simp only [Option.map_some, Option.some.injEq] at e2
          rw [← e2]
          exact PL.mono _ _ _ _ (fun a o h => List.mem_append_left _ h) t
end
end

section
open PySem PySem.W PyProof.Rows PyProof.Rows.LCg PySem.Calls
set_option maxRecDepth 100000
set_option maxHeartbeats 8000000
section
variable {w : World} {mean : ExcName → Option Value} {mg mb : Str → Option Value} {dp un : Nat} {gd : Option (List Code)} {env : Env} {outer : List Env} {A₀ : Around} {base h₀ : Heap} {L : Addr} {m : Str → Option Value} {s : Shared}

local macro_rules | `(tactic| walk_at "compareOp In ref ref") => `(tactic| walk_at "st")
theorem waysL_ok : ∀ q ∈ waysL, PairOk q := by
  intro q hq
  simp only [waysL, List.mem_cons, List.not_mem_nil, or_false] at hq
  rcases hq with rfl | rfl | rfl | rfl | rfl | rfl <;> exact ⟨by decide +kernel, by decide +kernel⟩
theorem is_turning_ok {src goal : Str} {ta tb : Tok} (B : Below A₀ base outer h₀) (F : Fr h₀ L s.heap m) (X : (KK w.params).In h₀) (T : Top VV LO mean mg mb h₀) (hf : env.frame = some L) (hk : env.scope.kind = .function) (hd : dp + 5 < recursionLimit) (hu : un + 200 < cLine) (ho : PairOk (src, goal)) :
    Eff (model PR w) (AT dp un gd env outer) (call (.ref 244) [.str src ta, .str goal tb]) s [] (fun _ => True) (fun _ r => r = .bool (decide ((src, goal) ∈ waysL))) := by
  k_dflt ((refine' call_E (Wn := []) ?kB ?kF ?kX ?kT ?kA ?kf ?kk News.nil ?ko ?kc ?kr ?kb ?kl ?km ?_ ?c1 ?c2 ?c3 ?c4; (case kA => exact rfl); (case kB => assumption); (case kF => assumption); (case kX => assumption); (case kT => assumption); (case kf => assumption); (case kk => assumption); (case ko => k_is); (case kc => k_is); (case kr => ktr_room); (case kb => exact BindsTo.of_eq rfl); (case c4 => decide); (case kl => exact locs rfl); (case c1 => exact rfl); (case c2 => exact rfl); (case c3 => exact rfl)))
  case km => exact fun _ _ _ _ h => h
  intro g L' h₁ F' N' B' X' T' G'
  have G := gsub_nil G'
  clear G'
  k_unmd
  k_fold
  k_steps
  unfold Stop
  rename Fr _ _ _ _ => F9
  rename News _ _ _ _ => N9
  have n1 := (N9 _ (.head _)).1
  have n2 := (N9 _ (.tail _ (.head _))).1
  have n3 := (N9 _ (.tail _ (.tail _ (.head _)))).1
  have n4 := (N9 _ (.tail _ (.tail _ (.tail _ (.head _))))).1
  have n5 := (N9 _ (.tail _ (.tail _ (.tail _ (.tail _ (.head _)))))).1
  have n6 := (N9 _ (.tail _ (.tail _ (.tail _ (.tail _ (.tail _ (.head _))))))).1
  have n7 := (N9 _ (.tail _ (.tail _ (.tail _ (.tail _ (.tail _ (.tail _ (.head _)))))))).1
  have n8 := (N9 _ (.tail _ (.tail _ (.tail _ (.tail _ (.tail _ (.tail _ (.tail _ (.head _))))))))).1
  refine in_tup_pairs (p := (src, goal)) (ps := waysL) ⟨_, .tuple n2 rfl rfl (.cons (reads_pair n8) (.cons (reads_pair n7) (.cons (reads_pair n6) (.cons (reads_pair n5) (.cons (reads_pair n4) (.cons (reads_pair n3) .nil))))))⟩ ⟨_, reads_pair n1⟩ waysL_ok ho (by ktr_units) ?_
  k_steps
  exact BodyEnd.intro F9 trivial rfl
end
end

section
open PySem PySem.W PyProof.Rows PyProof.Rows.LCg PySem.Calls
set_option maxRecDepth 100000
set_option maxHeartbeats 8000000

section
variable {w : World} {mean : ExcName → Option Value} {mg mb : Str → Option Value} {dp un : Nat} {gd : Option (List Code)} {env : Env} {outer : List Env} {A₀ : Around} {base h₀ : Heap} {L : Addr} {m : Str → Option Value} {s : Shared}

local macro_rules | `(tactic| walk_at "new") => `(tactic| ((first | apply plane_use | apply pic_use | apply turn_use); iterate 8 walk_at "h"))
local macro_rules | `(tactic| walk_at "call ref") => `(tactic| (k_here; k_dflt (walk_at "new"; intros; rename_i l1 l2; (try k_lt l1); (try k_lt2 l2); (try dsimp only); (try k_fold))))

theorem copied_ok {v : Value} {p : Pln}
    (B : Below A₀ base outer h₀) (F : Fr h₀ L s.heap m) (X : (KK w.params).In h₀) (T : Top VV LO mean mg mb h₀) (hf : env.frame = some L) (hk : env.scope.kind = .function) (hd : dp + 5 < recursionLimit)
    (hp : PL (HG s.heap) v p) (ok : PlnOk p) :
    Eff (model PR w) (AT dp un gd env outer) (call (.ref 152) [v]) s [] (fun _ => True) (fun O r => PL O r p) := by
  refine hp.elim fun a d e1 e2 e3 t1 t2 t3 t4 t5 rv n hv1e h1 h2 h3 => ?_
  cases hv1e
  clear hp
  k_dflt ((refine' call_E (Wn := []) ?kB ?kF ?kX ?kT ?kA ?kf ?kk News.nil ?ko ?kc ?kr ?kb ?kl ?km ?_ ?c1 ?c2 ?c3 ?c4; (case kA => exact rfl); (case kB => assumption); (case kF => assumption); (case kX => assumption); (case kT => assumption); (case kf => assumption); (case kk => assumption); (case ko => k_is); (case kc => k_is); (case kr => ktr_room); (case kb => exact BindsTo.of_eq rfl); (case c4 => decide); (case kl => exact locs rfl); (case c1 => exact rfl); (case c2 => exact rfl); (case c3 => exact rfl)))
  case km => exact fun O O' v k h => PL.mono _ _ _ _ k h
  intro g L' h₁ F' N' B' X' T' G'
  have G := gsub_nil G'
  replace h1 := G _ _ h1
  replace h2 := G _ _ h2
  replace h3 := RW.mono _ _ _ _ G h3
  refine h3.elim fun ra vs rn hv2e r1 r2 r3 => ?_
  cases hv2e
  clear h3
  clear G'
  refine PlnOk.elim (ok) fun ok1 ok2 ok3 ok4 ok5 ok6 => ?_
  k_unmd
  k_fold
  k_steps
  rename Fr _ _ _ _ => F9
  rename News _ _ _ _ => N9
  unfold Stop
  refine comp_fr (n := vs.length) (P := fun i v => vs[i]? = some v) (fun i v O y => ∃ r, p.rows[i]? = some r ∧ IL O y r) F9 N9 ?mono ?hit ?turns ?k rfl (by rfl) rfl (by decide) (.inl rfl) (by intro _; rfl)
  case mono => rintro i v y O O' k ⟨r, a, b⟩; exact ⟨r, a, IL.mono _ _ _ _ k b⟩
  case hit =>
    intro led₀ N₀ sub₀
    k_steps
    rename Fr _ _ _ _ => F9
    rename News _ _ _ _ => N9
    exact IterEnd.list F9 N9 (fun _ h => h) ⟨_, F9.keep _ _ r1, rfl, _, rfl⟩ (by rw [sizeLine_eq, r2]; omega)
  case turns =>
    intro C i v h tk cl' led' hcl hi hv F2 N2 sub2 U2 ho
    refine item_elim r2 r3 hv fun r hr hrm hq3e => ?_
    refine hq3e.elim fun ia ivs inn hv4e q1 q2 q3 => ?_
    cases hv4e
    have hl : g.IsList ia ivs.toArray := ⟨_, q1, rfl, _, rfl⟩
    have hz : ivs.toArray.size ≤ sizeLine := by have := ok2 r hrm; rw [sizeLine_eq, List.size_toArray, q2]; omega
    k_steps
    rename Fr _ _ _ _ => F9
    rename News _ _ _ _ => N9
    have hD := N9 _ (List.Mem.head _)
    exact EltEnd.intro F9 N9 (fun _ h => List.mem_cons_of_mem _ h) ⟨r, hr, _, _, _, rfl, ⟨hD.1, full_new U2 (by ktn_lt) hD.2.2 hD.2.1⟩, q2, fun i v x a b => q3 i v x a b⟩
  case k =>
    intro y new h' tk' F3 N3 hn po
    refine po.elim fun D ys hv5e q1 q2 q3 => ?_
    cases hv5e
    k_steps
    rename Fr _ _ _ _ => F9
    rename News _ _ _ _ => N9
    refine BodyEnd.pure (fun O O' v k h => PL.mono _ _ _ _ k h) F9 N9 ⟨_, _, _, _, _, _, _, _, _, _, _, _, rfl, List.Mem.head _, List.Mem.tail _ (List.Mem.head _), ?_⟩
    refine RW.mono _ _ _ _ (fun a o h => ?_) (CompPost.list r2 (fun i v x O y e _ t => ?_) po)
    · exact List.Mem.tail _ (List.Mem.tail _ (List.mem_append_left _ h))
    · obtain ⟨r, e1, e2⟩ := t
      rw [e] at e1; cases e1; exact e2
end
end

section
open PySem PySem.W PyProof.Rows PyProof.Rows.LCg PySem.Calls
set_option maxRecDepth 100000
set_option maxHeartbeats 8000000
section
variable {w : World} {mean : ExcName → Option Value} {mg mb : Str → Option Value} {dp un : Nat} {gd : Option (List Code)} {env : Env} {outer : List Env} {A₀ : Around} {base h₀ : Heap} {L : Addr} {m : Str → Option Value} {s : Shared}

local macro_rules | `(tactic| walk_at "new") => `(tactic| ((first | apply plane_use | apply pic_use | apply turn_use); iterate 8 walk_at "h"))
local macro_rules | `(tactic| walk_at "call ref") => `(tactic| (k_here; k_dflt (walk_at "new"; intros; rename_i l1 l2; (try k_lt l1); (try k_lt2 l2); (try dsimp only); (try k_fold))))


local macro_rules | `(tactic| walk_at "fn") => `(tactic| (apply middle_ok <;> walk_at "h"))
local macro_rules | `(tactic| walk_at "fn") => `(tactic| (apply greatest_ok <;> walk_at "h"))
local macro_rules | `(tactic| walk_at "fn") => `(tactic| (apply light_ok <;> walk_at "h"))
local macro_rules | `(tactic| walk_at "fn") => `(tactic| (apply weighed_ok; (iterate 7 walk_at "h"); k_is; decide))

local macro_rules | `(tactic| walk_at "subscriptTail") => `(tactic| walk_at "it")
local macro_rules | `(tactic| walk_at "fn") => `(tactic| (apply copied_ok <;> walk_at "h"))
noncomputable def flatP (W H : Nat) (q : Int) : Pln := ⟨W, H, List.replicate H (List.replicate W q)⟩
local macro_rules | `(tactic| k_mem) => `(tactic| walk_at "km")
theorem grey_planes_ok {pv : Value} {p : Int} {tp : Tok} {p0 : Pln} {W H : Nat} (B : Below A₀ base outer h₀) (F : Fr h₀ L s.heap m) (X : (KK w.params).In h₀) (T : Top VV LO mean mg mb h₀) (hf : env.frame = some L) (hk : env.scope.kind = .function) (hd : dp + 15 < recursionLimit) (hp : 2 ≤ p) (hp' : p ≤ 8) (ok : PlnOk p0) (hW : p0.w = W) (hH : p0.h = H) (hps : PLS (HG s.heap) pv [p0]) :
    Eff (model PR w) (AT dp un gd env outer) (call (.ref 254) [pv, .int p tp]) s [] (fun _ => True) (fun O r => PLS O r [p0, flatP W H (2 ^ (p - 1).toNat), flatP W H (2 ^ (p - 1).toNat)]) := by
  refine hps.elim fun pa pvs pn hv1e p1 p2 p3 => ?_
  cases hv1e
  obtain ⟨v0, rfl⟩ := List.length_eq_one_iff.mp p2
  have p4 := p3 0 v0 p0 rfl rfl
  k_dflt ((refine' call_EC (Wn := []) ?kB ?kF ?kX ?kT ?kA ?kf ?kk News.nil ?ko ?kc ?kr ?kb ?kl ?kd ?km ?_ ?c1 ?c2 ?c3; (case kA => exact rfl); (case kB => assumption); (case kF => assumption); (case kX => assumption); (case kT => assumption); (case kf => assumption); (case kk => assumption); (case ko => k_is); (case kc => k_is); (case kr => ktr_room); (case kb => exact BindsTo.of_eq rfl); (case kl => exact rfl); (case kd => decide +kernel); (case c1 => exact rfl); (case c2 => exact rfl); (case c3 => exact rfl)))
  case km => exact fun O O' v k h => PLS.mono _ _ _ _ k h
  intro g L' h₁ tk₁ cells F' N' Y' lW B' X' T' G'
  have G := gsub_nil G'
  replace p1 := G _ _ p1
  replace p4 := PL.mono _ _ _ _ G p4
  clear G'
  k_cells Y'
  simp only [List.cons_append, List.nil_append, List.append_nil] at N'
  refine p4.elim fun za zd ze1 ze2 ze3 zt1 zt2 zt3 zt4 zt5 zrv zn hv2e z1 z2 z3 => ?_
  cases hv2e
  rw [hW, hH] at z2
  refine PlnOk.elim (id ok) fun ok1 ok2 ok3 ok4 ok5 ok6 => ?_
  k_unmd
  k_fold
  k_steps
  unfold Stop
  rename Fr _ _ _ _ => F9
  rename News _ _ _ _ => N9
  rename_i of hof t2 q h2 tk2 hq1 hq2 hq3 h3 om hom
  have w1 : 1 ≤ W := by omega
  have w3 : W ≤ 3 := by omega
  have hH2 : H ≤ 2 := by omega
  refine comp_frA (n := H) (P := fun i v => ∃ t, v = .int (0 + (i : Int)) t) (fun i v O y => IL O y (List.replicate W q)) F9 N9 rfl ?mono ?hit ?turns ?k rfl (by with_unfolding_all rfl) (by with_unfolding_all rfl) rfl (by decide) (.inl rfl) rfl rfl (by intro _; rfl)
  case mono => exact fun _ _ _ _ _ k h => IL.mono _ _ _ _ k h
  case hit =>
    intro led₀ N₀ sub₀
    have m2 : (L' + 1, of) ∈ led₀ := sub₀ _ (by k_mem)
    k_steps
    rename Fr _ _ _ _ => F8
    rename News _ _ _ _ => N8
    rename IsRange _ _ _ _ _ _ _ _ => hR2
    exact IterEnd.range F8 N8 (fun _ h => h) hR2 (ranges_ok H (by omega)).1 (ranges_ok H (by omega)).2 (by rw [sizeLine_eq]; omega)
  case turns =>
    intro C i v h tk cl' led' hcl hi hv F2 N2 sub2 U2 ho
    have m1 : (L' + 1 + 1, om) ∈ led' := sub2 _ (by k_mem)
    have m2 : (L' + 1, of) ∈ led' := sub2 _ (by k_mem)
    subst hcl
    k_steps
    rename Fr _ _ _ _ => F8
    rename News _ _ _ _ => N8
    rename IntsAre _ _ => hi8
    rw [flat_rep, flat_rep, Int.toNat_natCast] at hi8
    rw [flat_rep, Int.toNat_natCast] at N8
    have hD := N8 _ (.head _)
    exact EltEnd.intro F8 N8 (fun _ h => .tail _ (.tail _ h)) (IL.of ⟨hD.1, full_new2 (new := []) U2 (by assumption) (Nat.le_of_lt (by first | assumption | (rename_i hx; exact hx.1) | omega)) hD.2.2 hD.2.1⟩ hi8)
  case k =>
    intro D new h' tk' F8 N8 hn8 po
    have hRW1 := CompPost.rep po
    clear po
    k_steps
    unfold Stop
    rename Fr _ _ _ _ => F7
    rename News _ _ _ _ => N7
    refine comp_frA (n := H) (P := fun i v => ∃ t, v = .int (0 + (i : Int)) t) (fun i v O y => IL O y (List.replicate W q)) F7 N7 rfl ?mono2 ?hit2 ?turns2 ?k2 rfl (by with_unfolding_all rfl) (by with_unfolding_all rfl) rfl (by decide) (.inl rfl) rfl rfl (by intro _; rfl)
    case mono2 => exact fun _ _ _ _ _ k h => IL.mono _ _ _ _ k h
    case hit2 =>
      intro led₀ N₀ sub₀
      have m2 : (L' + 1, of) ∈ led₀ := sub₀ _ (List.mem_append_right _ (.tail _ (.head _)))
      k_steps
      rename Fr _ _ _ _ => F8
      rename News _ _ _ _ => N8
      rename IsRange _ _ _ _ _ _ _ _ => hR2
      exact IterEnd.range F8 N8 (fun _ h => h) hR2 (ranges_ok H (by omega)).1 (ranges_ok H (by omega)).2 (by rw [sizeLine_eq]; omega)
    case turns2 =>
      intro C i v h tk cl' led' hcl hi hv F2 N2 sub2 U2 ho
      have m1 : (L' + 1 + 1, om) ∈ led' := sub2 _ (List.mem_append_right _ (.head _))
      have m2 : (L' + 1, of) ∈ led' := sub2 _ (List.mem_append_right _ (.tail _ (.head _)))
      subst hcl
      k_steps
      rename Fr _ _ _ _ => F8
      rename News _ _ _ _ => N8
      rename IntsAre _ _ => hi8
      rw [flat_rep, flat_rep, Int.toNat_natCast] at hi8
      rw [flat_rep, Int.toNat_natCast] at N8
      have hD := N8 _ (.head _)
      exact EltEnd.intro F8 N8 (fun _ h => .tail _ (.tail _ h)) (IL.of ⟨hD.1, full_new2 (new := []) U2 (by assumption) (Nat.le_of_lt (by first | assumption | (rename_i hx; exact hx.1) | omega)) hD.2.2 hD.2.1⟩ hi8)
    case k2 =>
      intro D2 new2 h' tk' F6 N6 hn6 po
      have hRW2 := CompPost.rep po
      clear po
      have m2 : (L' + 1, of) ∈ new2 ++ (new ++ [(L' + 1 + 1, om), (L' + 1, of)]) := List.mem_append_right _ (List.mem_append_right _ (.tail _ (.head _)))
      k_steps
      rename Fr _ _ _ _ => F5
      rename News _ _ _ _ => N5
      rename PL (fun a o => (a, o) ∈ _) _ p0 => pl0
      subst hq1
      refine BodyEnd.pure (fun O O' v k h => PLS.mono _ _ _ _ k h) F5 N5 (LL.three (.head _) ?_ ?_ ?_)
      · exact PL.mono _ _ _ _ (fun a o h => .tail _ (.tail _ (.tail _ (.tail _ (.tail _ (List.mem_append_left _ h)))))) pl0
      · exact ⟨_, _, _, _, _, _, _, _, _, _, _, _, rfl, .tail _ (.tail _ (.tail _ (.head _))), .tail _ (.tail _ (.tail _ (.tail _ (.head _)))), RW.mono _ _ _ _ (fun a o h => .tail _ (.tail _ (.tail _ (.tail _ (.tail _ (List.mem_append_right _ (List.mem_append_right _ (List.mem_append_left _ h)))))))) hRW1⟩
      · exact ⟨_, _, _, _, _, _, _, _, _, _, _, _, rfl, .tail _ (.head _), .tail _ (.tail _ (.head _)), RW.mono _ _ _ _ (fun a o h => .tail _ (.tail _ (.tail _ (.tail _ (.tail _ (List.mem_append_right _ (List.mem_append_left _ h))))))) hRW2⟩
end
end

section
open PySem PySem.W PyProof.Rows PyProof.Rows.LCg PySem.Calls
set_option maxRecDepth 100000
set_option maxHeartbeats 8000000
section
variable {w : World} {mean : ExcName → Option Value} {mg mb : Str → Option Value} {dp un : Nat} {gd : Option (List Code)} {env : Env} {outer : List Env} {A₀ : Around} {base h₀ : Heap} {L : Addr} {m : Str → Option Value} {s : Shared}

local macro_rules | `(tactic| walk_at "new") => `(tactic| ((first | apply plane_use | apply pic_use | apply turn_use); iterate 8 walk_at "h"))
local macro_rules | `(tactic| walk_at "call ref") => `(tactic| (k_here; k_dflt (walk_at "new"; intros; rename_i l1 l2; (try k_lt l1); (try k_lt2 l2); (try dsimp only); (try k_fold))))

local macro_rules | `(tactic| k_mem) => `(tactic| walk_at "km")
local macro_rules | `(tactic| walk_at "compareOp Eq ref ref") => `(tactic| walk_at "st")
local macro_rules | `(tactic| walk_at "subscriptTail") => `(tactic| walk_at "it")
local macro_rules | `(tactic| walk_at "fn") => `(tactic| (apply copied_ok <;> walk_at "h"))
local macro_rules | `(tactic| walk_at "fn") => `(tactic| (apply is_turning_ok <;> walk_at "h"))
local macro_rules | `(tactic| walk_at "call ref") => `(tactic| (k_here; refine Stop.ref [249, 254] (by decide) ?_))
theorem turned_same_ok {v : Value} {P : Pic} {tm : Tok} (B : Below A₀ base outer h₀) (F : Fr h₀ L s.heap m) (X : (KK w.params).In h₀) (T : Top VV LO mean mg mb h₀) (hf : env.frame = some L) (hk : env.scope.kind = .function) (hd : dp + 10 < recursionLimit) (hp : PC (HG s.heap) v P) (hn : P.planes.length ≤ 4) (ok : ∀ p ∈ P.planes, PlnOk p) :
    Eff (model PR w) (AT dp un gd env outer) (call (.ref 259) [v, .str P.model tm]) s [] (fun _ => True) (fun O r => PC O r P) := by
  refine hp.elim fun a d e1 e2 e3 t1 t2 t3 t4 t5 rv n hv1e h1 h2 h3 => ?_
  cases hv1e
  clear hp
  k_dflt ((refine' call_E (Wn := []) ?kB ?kF ?kX ?kT ?kA ?kf ?kk News.nil ?ko ?kc ?kr ?kb ?kl ?km ?_ ?c1 ?c2 ?c3 ?c4; (case kA => exact rfl); (case kB => assumption); (case kF => assumption); (case kX => assumption); (case kT => assumption); (case kf => assumption); (case kk => assumption); (case ko => k_is); (case kc => k_is); (case kr => ktr_room); (case kb => exact BindsTo.of_eq rfl); (case c4 => decide); (case kl => exact locs rfl); (case c1 => exact rfl); (case c2 => exact rfl); (case c3 => exact rfl)))
  case km => exact fun O O' v k h => PC.mono _ _ _ _ k h
  intro g L' h₁ F' N' B' X' T' G'
  have G := gsub_nil G'
  replace h1 := G _ _ h1
  replace h2 := G _ _ h2
  replace h3 := PLS.mono _ _ _ _ G h3
  refine h3.elim fun pa pvs pn hv2e p1 p2 p3 => ?_
  cases hv2e
  clear h3
  clear G'
  k_unmd
  k_fold
  k_steps
  all_goals try (exfalso; exact absurd ‹(P.model == P.model) = false› (by simp))
  unfold Stop
  rename Fr _ _ _ _ => F9
  rename News _ _ _ _ => N9
  refine comp_fr (n := pvs.length) (P := fun i v => pvs[i]? = some v) (fun i v O y => ∃ p, P.planes[i]? = some p ∧ PL O y p) F9 N9 ?mono ?hit ?turns ?k rfl (by rfl) rfl (by decide) (.inl rfl) (by intro _; rfl)
  case mono => rintro i v y O O' k ⟨p, a, b⟩; exact ⟨p, a, PL.mono _ _ _ _ k b⟩
  case hit =>
    intro led₀ N₀ sub₀
    k_steps
    rename Fr _ _ _ _ => F8
    rename News _ _ _ _ => N8
    exact IterEnd.list F8 N8 (fun _ h => h) ⟨_, F8.keep _ _ p1, rfl, _, rfl⟩ (by rw [sizeLine_eq, p2]; omega)
  case turns =>
    intro C i v h tk cl' led' hcl hi hv F2 N2 sub2 U2 ho
    refine item_elim p2 p3 hv fun p hp hpm q1 => ?_
    have okp := ok p hpm
    k_steps
    rename Fr _ _ _ _ => F8
    rename News _ _ _ _ => N8
    rename PL (fun a o => (a, o) ∈ _) _ _ => pl0
    rename_i hn0 _ _ _
    exact EltEnd.intro F8 N8 (fun _ h => List.mem_append_right _ h) ⟨p, hp, PL.mono _ _ _ _ (fun a o h => ⟨(N8 _ (List.mem_append_left _ h)).1, hn0 _ h⟩) pl0⟩
  case k =>
    intro y new h' tk' F3 N3 hn3 po
    refine po.elim fun D ys hv3e _ _ _ => ?_
    cases hv3e
    have hPL : PLS (fun a o => (a, o) ∈ new) (.ref D) P.planes := CompPost.list p2 (fun i v x O y e _ t => by obtain ⟨p, f1, f2⟩ := t; rw [e] at f1; cases f1; exact f2) po
    k_steps
    rename Fr _ _ _ _ => F8
    rename News _ _ _ _ => N8
    refine BodyEnd.pure (fun O O' v k h => PC.mono _ _ _ _ k h) F8 N8 ⟨_, _, _, _, _, _, _, _, _, _, _, _, rfl, .head _, .tail _ (.head _), PLS.mono _ _ _ _ (fun a o h => .tail _ (.tail _ (List.mem_append_left _ h))) hPL⟩
theorem turned_yg_ok {v : Value} {prec : Int} {planes : List Pln} {tm : Tok} (B : Below A₀ base outer h₀) (F : Fr h₀ L s.heap m) (X : (KK w.params).In h₀) (T : Top VV LO mean mg mb h₀) (hf : env.frame = some L) (hk : env.scope.kind = .function) (hd : dp + 10 < recursionLimit) (hu : un + 300 < cLine) (hp : PC (HG s.heap) v ⟨"ycc", prec, planes⟩) (hn : planes.length = 3) (ok : ∀ p ∈ planes, PlnOk p) :
    Eff (model PR w) (AT dp un gd env outer) (call (.ref 259) [v, .str "grey" tm]) s [] (fun _ => True) (fun O r => PC O r ⟨"grey", prec, planes.take 1⟩) := by
  obtain ⟨q0, q1, q2, rfl⟩ := len3 hn
  refine hp.elim fun a d e1 e2 e3 t1 t2 t3 t4 t5 rv n hv4e h1 h2 h3 => ?_
  cases hv4e
  clear hp
  k_dflt ((refine' call_E (Wn := []) ?kB ?kF ?kX ?kT ?kA ?kf ?kk News.nil ?ko ?kc ?kr ?kb ?kl ?km ?_ ?c1 ?c2 ?c3 ?c4; (case kA => exact rfl); (case kB => assumption); (case kF => assumption); (case kX => assumption); (case kT => assumption); (case kf => assumption); (case kk => assumption); (case ko => k_is); (case kc => k_is); (case kr => ktr_room); (case kb => exact BindsTo.of_eq rfl); (case c4 => decide); (case kl => exact locs rfl); (case c1 => exact rfl); (case c2 => exact rfl); (case c3 => exact rfl)))
  case km => exact fun O O' v k h => PC.mono _ _ _ _ k h
  intro g L' h₁ F' N' B' X' T' G'
  have G := gsub_nil G'
  replace h1 := G _ _ h1
  replace h2 := G _ _ h2
  replace h3 := PLS.mono _ _ _ _ G h3
  refine h3.elim fun pa pvs pn hv5e p1 p2 p3 => ?_
  cases hv5e
  clear h3
  clear G'
  obtain ⟨v0, v1, v2, rfl⟩ := len3 p2
  have pl := p3 0 v0 q0 rfl rfl
  have ok0 := ok q0 (.head _)
  refine pl.elim fun za zd ze1 ze2 ze3 zt1 zt2 zt3 zt4 zt5 zrv zn hv6e z1 z2 z3 => ?_
  cases hv6e
  dsimp only at h2
  k_unmd
  k_fold
  k_steps
  unfold Stop
  rename Fr _ _ _ _ => F9
  rename News _ _ _ _ => N9
  refine eq_pair_t ok_yg (N9 _ (.tail _ (.head _))).1 (N9 _ (.head _)).1 (by ktr_units) ?_
  k_steps
  rename Fr _ _ _ _ => F8
  rename News _ _ _ _ => N8
  rename PL (fun a o => (a, o) ∈ _) _ _ => pl0
  refine BodyEnd.pure (fun O O' v k h => PC.mono _ _ _ _ k h) F8 N8 ⟨_, _, _, _, _, _, _, _, _, _, _, _, rfl, .head _, .tail _ (.head _), _, [_], 0, rfl, .tail _ (.tail _ (.head _)), rfl, fun i v x e1 e2 => ?_⟩
  match i with
  | 0 =>
    simp only [List.take_succ_cons, List.getElem?_cons_zero, Option.some.injEq] at e1 e2
    subst e1
    subst e2
    exact PL.mono _ _ _ _ (fun a o h => .tail _ (.tail _ (.tail _ (List.mem_append_left _ h)))) pl0
  | i + 1 => simp at e1
theorem turned_gy_ok {v : Value} {prec : Int} {p0 : Pln} {W H : Nat} {tm : Tok} (B : Below A₀ base outer h₀) (F : Fr h₀ L s.heap m) (X : (KK w.params).In h₀) (T : Top VV LO mean mg mb h₀) (hf : env.frame = some L) (hk : env.scope.kind = .function) (hd : dp + 20 < recursionLimit) (hu : un + 300 < cLine) (hp : PC (HG s.heap) v ⟨"grey", prec, [p0]⟩) (ok : PlnOk p0) (hW : p0.w = W) (hH : p0.h = H) (hp2 : 2 ≤ prec) (hp8 : prec ≤ 8) :
    Eff (model PR w) (AT dp un gd env outer) (call (.ref 259) [v, .str "ycc" tm]) s [] (fun _ => True) (fun O r => PC O r ⟨"ycc", prec, [p0, flatP W H (2 ^ (prec - 1).toNat), flatP W H (2 ^ (prec - 1).toNat)]⟩) := by
  refine hp.elim fun a d e1 e2 e3 t1 t2 t3 t4 t5 rv n hv7e h1 h2 h3 => ?_
  cases hv7e
  clear hp
  k_dflt ((refine' call_E (Wn := []) ?kB ?kF ?kX ?kT ?kA ?kf ?kk News.nil ?ko ?kc ?kr ?kb ?kl ?km ?_ ?c1 ?c2 ?c3 ?c4; (case kA => exact rfl); (case kB => assumption); (case kF => assumption); (case kX => assumption); (case kT => assumption); (case kf => assumption); (case kk => assumption); (case ko => k_is); (case kc => k_is); (case kr => ktr_room); (case kb => exact BindsTo.of_eq rfl); (case c4 => decide); (case kl => exact locs rfl); (case c1 => exact rfl); (case c2 => exact rfl); (case c3 => exact rfl)))
  case km => exact fun O O' v k h => PC.mono _ _ _ _ k h
  intro g L' h₁ F' N' B' X' T' G'
  have G := gsub_nil G'
  replace h1 := G _ _ h1
  replace h2 := G _ _ h2
  replace h3 := PLS.mono _ _ _ _ G h3
  refine h3.elim fun pa pvs pn hv8e p1 p2 p3 => ?_
  cases hv8e
  clear G'
  dsimp only at h2 h3
  k_unmd
  k_fold
  k_steps
  unfold Stop
  rename Fr _ _ _ _ => F9
  rename News _ _ _ _ => N9
  refine eq_pair_f ok_gy ok_yg (by decide) (N9 _ (.tail _ (.head _))).1 (N9 _ (.head _)).1 (by ktr_units) ?_
  k_steps
  unfold Stop
  rename Fr _ _ _ _ => F8
  rename News _ _ _ _ => N8
  refine eq_pair_t ok_gy (N8 _ (.tail _ (.head _))).1 (N8 _ (.head _)).1 (by ktr_units) ?_
  k_steps
  unfold Stop
  rename Fr _ _ _ _ => F7
  rename News _ _ _ _ => N7
  refine eff_use F7 N7 (grey_planes_ok (by assumption) F7 (by assumption) (by assumption) (by exact rfl) (by exact rfl) (by ktr_room) hp2 hp8 ok hW hH (PLS.mono _ _ _ _ F7.keep h3)) (fun O O' v k h => PLS.mono _ _ _ _ k h) ?_
  intro y new h' tk' F6 N6 hn6 hi6 po
  refine po.elim fun ya yvs yn hv9e y1 y2 y3 => ?_
  cases hv9e
  k_steps
  rename Fr _ _ _ _ => F5
  rename News _ _ _ _ => N5
  exact BodyEnd.pure (fun O O' v k h => PC.mono _ _ _ _ k h) F5 N5 ⟨_, _, _, _, _, _, _, _, _, _, _, _, rfl, .head _, .tail _ (.head _), PLS.mono _ _ _ _ (fun a o h => .tail _ (.tail _ (List.mem_append_left _ h))) po⟩
end
end

section
open PySem PySem.W PyProof.Rows PyProof.Rows.LCg PySem.Calls
set_option maxRecDepth 100000
set_option maxHeartbeats 8000000
section
variable {w : World} {mean : ExcName → Option Value} {mg mb : Str → Option Value} {dp un : Nat} {gd : Option (List Code)} {env : Env} {outer : List Env} {A₀ : Around} {base h₀ : Heap} {L : Addr} {m : Str → Option Value} {s : Shared}

local macro_rules | `(tactic| walk_at "new") => `(tactic| ((first | apply plane_use | apply pic_use | apply turn_use); iterate 8 walk_at "h"))
local macro_rules | `(tactic| walk_at "call ref") => `(tactic| (k_here; k_dflt (walk_at "new"; intros; rename_i l1 l2; (try k_lt l1); (try k_lt2 l2); (try dsimp only); (try k_fold))))

local macro_rules | `(tactic| k_mem) => `(tactic| walk_at "km")
local macro_rules | `(tactic| walk_at "compareOp Eq ref ref") => `(tactic| walk_at "st")
local macro_rules | `(tactic| walk_at "subscriptTail") => `(tactic| walk_at "it")
local macro_rules | `(tactic| walk_at "fn") => `(tactic| (apply copied_ok <;> walk_at "h"))
local macro_rules | `(tactic| walk_at "fn") => `(tactic| (apply is_turning_ok <;> walk_at "h"))
local macro_rules | `(tactic| walk_at "call ref") => `(tactic| (k_here; refine Stop.ref [249, 254] (by decide) ?_))
theorem turned_way_ok {v : Value} {src goal : Str} {prec : Int} {planes : List Pln} {W H : Nat} {tm : Tok} (B : Below A₀ base outer h₀) (F : Fr h₀ L s.heap m) (X : (KK w.params).In h₀) (T : Top VV LO mean mg mb h₀) (hf : env.frame = some L) (hk : env.scope.kind = .function) (hd : dp + 40 < recursionLimit) (hu : un + 300 < cLine) (hw : (src, goal) ∈ waysL) (hp : PC (HG s.heap) v ⟨src, prec, planes⟩) (hl : planes.length = cnt src) (ok : ∀ p ∈ planes, PlnOk p)
    (hWH : ∀ q ∈ planes, q.w = W ∧ q.h = H) (w1 : 1 ≤ W) (w3 : W ≤ 3) (h1' : 1 ≤ H) (h2' : H ≤ 2) (hp2 : 2 ≤ prec) (hp8 : prec ≤ 8) :
    Eff (model PR w) (AT dp un gd env outer) (call (.ref 259) [v, .str goal tm]) s [] (fun _ => True) (fun O r => ∃ ff, TurnOk src goal planes W H ff ∧ PC O r ⟨goal, prec, outP ff W H (cnt goal)⟩) := by
  have okp : PairOk (src, goal) := waysL_ok _ hw
  have hne : (goal == src) = false ∧ (src, goal) ≠ (("ycc" : Str), ("grey" : Str)) ∧ (src, goal) ≠ (("grey" : Str), ("ycc" : Str)) := by
    simp only [waysL, List.mem_cons, List.not_mem_nil, or_false, Prod.mk.injEq] at hw
    rcases hw with ⟨rfl, rfl⟩ | ⟨rfl, rfl⟩ | ⟨rfl, rfl⟩ | ⟨rfl, rfl⟩ | ⟨rfl, rfl⟩ | ⟨rfl, rfl⟩ <;> exact ⟨by decide, by decide, by decide⟩
  obtain ⟨ne1, ne2, ne3⟩ := hne
  have hdw : decide ((src, goal) ∈ waysL) = true := decide_eq_true hw
  refine hp.elim fun a d e1 e2 e3 t1 t2 t3 t4 t5 rv n hv1e h1 h2 h3 => ?_
  cases hv1e
  clear hp
  k_dflt ((refine' call_E (Wn := []) ?kB ?kF ?kX ?kT ?kA ?kf ?kk News.nil ?ko ?kc ?kr ?kb ?kl ?km ?_ ?c1 ?c2 ?c3 ?c4; (case kA => exact rfl); (case kB => assumption); (case kF => assumption); (case kX => assumption); (case kT => assumption); (case kf => assumption); (case kk => assumption); (case ko => k_is); (case kc => k_is); (case kr => ktr_room); (case kb => exact BindsTo.of_eq rfl); (case c4 => decide); (case kl => exact locs rfl); (case c1 => exact rfl); (case c2 => exact rfl); (case c3 => exact rfl)))
  case km => exact fun O O' v k ⟨ff, h, h'⟩ => ⟨ff, h, PC.mono _ _ _ _ k h'⟩
  intro g L' h₁ F' N' B' X' T' G'
  have G := gsub_nil G'
  replace h1 := G _ _ h1
  replace h2 := G _ _ h2
  replace h3 := PLS.mono _ _ _ _ G h3
  refine h3.elim fun pa pvs pn hv2e p1 p2 p3 => ?_
  cases hv2e
  clear G'
  dsimp only at h2 h3
  k_unmd
  k_fold
  k_steps
  all_goals try (exfalso; rename (goal == src) = true => hx; rw [ne1] at hx; exact Bool.false_ne_true hx)
  unfold Stop
  rename Fr _ _ _ _ => F9
  rename News _ _ _ _ => N9
  refine eq_pair_f okp ok_yg ne2 (N9 _ (.tail _ (.head _))).1 (N9 _ (.head _)).1 (by ktr_units) ?_
  k_steps
  unfold Stop
  rename Fr _ _ _ _ => F8
  rename News _ _ _ _ => N8
  refine eq_pair_f okp ok_gy ne3 (N8 _ (.tail _ (.head _))).1 (N8 _ (.head _)).1 (by ktr_units) ?_
  k_steps
  unfold Stop
  rename Fr _ _ _ _ => F7
  rename News _ _ _ _ => N7
  refine eff_use F7 N7 (turned_planes_ok (by assumption) F7 (by assumption) (by assumption) (by exact rfl) (by exact rfl) (by ktr_room) hp2 hp8 hw hl ok hWH w1 w3 h1' h2' ⟨_, _, _, _, _, _, _, _, _, _, _, _, rfl, (N7 _ (.head _)).1, (N7 _ (.tail _ (.head _))).1⟩ (PLS.mono _ _ _ _ F7.keep h3)) (fun O O' v k ⟨ff, h, h'⟩ => ⟨ff, h, PLS.mono _ _ _ _ k h'⟩) ?_
  intro y new h' tk' F6 N6 hn6 hi6 po
  obtain ⟨ff, hff, po⟩ := po
  refine po.elim fun ya yvs yn hv3e y1 y2 y3 => ?_
  cases hv3e
  k_steps
  rename Fr _ _ _ _ => F5
  rename News _ _ _ _ => N5
  exact BodyEnd.pure (fun O O' v k ⟨ff, h, h'⟩ => ⟨ff, h, PC.mono _ _ _ _ k h'⟩) F5 N5 ⟨ff, hff, _, _, _, _, _, _, _, _, _, _, _, _, rfl, .head _, .tail _ (.head _), PLS.mono _ _ _ _ (fun a o h => .tail _ (.tail _ (List.mem_append_left _ h))) po⟩
end
end

section
open PySem PySem.W PyProof.Rows PyProof.Rows.LCg PySem.Calls
set_option maxRecDepth 100000
set_option maxHeartbeats 8000000
section
variable {w : World} {mean : ExcName → Option Value} {mg mb : Str → Option Value} {dp un : Nat} {gd : Option (List Code)} {env : Env} {outer : List Env} {A₀ : Around} {base h₀ : Heap} {L : Addr} {m : Str → Option Value} {s : Shared}

noncomputable def Valid (src goal : Str) : Prop := src = goal ∨ (src, goal) ∈ waysL ∨ (src, goal) = (("ycc" : Str), ("grey" : Str)) ∨ (src, goal) = (("grey" : Str), ("ycc" : Str))
/-- planes of W by H samples -/
noncomputable def Sized (W H : Nat) (ps : List Pln) : Prop := ∀ p ∈ ps, p.w = W ∧ p.h = H ∧ p.rows.length = H ∧ ∀ r ∈ p.rows, r.length = W
theorem Sized.ok {W H : Nat} {ps : List Pln} (h : Sized W H ps) (w1 : 1 ≤ W) (w3 : W ≤ 3) (h1 : 1 ≤ H) (h2 : H ≤ 2) : ∀ p ∈ ps, PlnOk p := fun p hp => by
  obtain ⟨a, b, c, d⟩ := h p hp
  exact ⟨by rw [b, c], fun r hr => by rw [d r hr, a], by omega, by omega, by omega, by omega⟩
/-- what the law asks of the turned planes -/
structure Right (src goal : Str) (prec : Int) (W H : Nat) (ps rs : List Pln) : Prop where
  many : rs.length = cnt goal
  sized : Sized W H rs
  same : src = goal → rs.map (·.rows) = ps.map (·.rows)
  one : (src, goal) = (("ycc" : Str), ("grey" : Str)) → rs.map (·.rows) = (ps.map (·.rows)).take 1
  three : (src, goal) = (("grey" : Str), ("rgb" : Str)) → ∃ p, ps = [p] ∧ rs.map (·.rows) = [p.rows, p.rows, p.rows]
  flat : (src, goal) = (("grey" : Str), ("ycc" : Str)) → ∃ p, ps = [p] ∧ rs.map (·.rows) = [p.rows, List.replicate H (List.replicate W (2 ^ (prec - 1).toNat)), List.replicate H (List.replicate W (2 ^ (prec - 1).toNat))]
  light : (src, goal) = (("rgb" : Str), ("grey" : Str)) → ∃ a b c r, ps = [a, b, c] ∧ rs = [r] ∧ ∀ y, y < H → r.rows[y]? = some ((List.range W).map fun x => lightF ((a.rows.getD y []).getD x 0) ((b.rows.getD y []).getD x 0) ((c.rows.getD y []).getD x 0))
  key : (src, goal) = (("cmyk" : Str), ("ycck" : Str)) ∨ (src, goal) = (("ycck" : Str), ("cmyk" : Str)) → (rs.map (·.rows))[3]? = (ps.map (·.rows))[3]? ∧ rs.length = 4
theorem grid_ext {W H : Nat} {a b : List (List Int)} (ha : a.length = H) (hb : b.length = H) (ha' : ∀ r ∈ a, r.length = W) (hb' : ∀ r ∈ b, r.length = W) (h : ∀ y x, y < H → x < W → (a.getD y []).getD x 0 = (b.getD y []).getD x 0) : a = b := by
  refine List.ext_getElem (by omega) fun y h1 h2 => ?_
  refine List.ext_getElem (by rw [ha' _ (List.getElem_mem _), hb' _ (List.getElem_mem _)]) fun x h3 h4 => ?_
  have hx : x < W := by rw [← ha' _ (List.getElem_mem h1)]; exact h3
  have := h y x (by omega) hx
  simp only [List.getD_eq_getElem?_getD, List.getElem?_eq_getElem h1, List.getElem?_eq_getElem h2, Option.getD_some, List.getElem?_eq_getElem h3, List.getElem?_eq_getElem h4] at this
  exact this
theorem outP_sized {src goal : Str} {ps : List Pln} {ff : List (List (List Int))} {W H k : Nat} (hf : TurnOk src goal ps W H ff) : Sized W H (outP ff W H k) := fun p hp => by
  rw [outP] at hp
  obtain ⟨i, hi, rfl⟩ := List.mem_map.mp hp
  refine ⟨rfl, rfl, by rw [List.length_map]; exact hf.1, fun r hr => ?_⟩
  obtain ⟨row, hrow, rfl⟩ := List.mem_map.mp hr
  obtain ⟨y, hy⟩ := List.getElem?_of_mem hrow
  rw [List.length_map]
  exact (hf.2 y row hy).1
theorem ff_at {src goal : Str} {ps : List Pln} {ff : List (List (List Int))} {W H : Nat} (hf : TurnOk src goal ps W H ff) {y x : Nat} (hy : y < H) (hx : x < W) : ∃ row ys, ff[y]? = some row ∧ row[x]? = some ys ∧ ys.length = cnt goal ∧ Told src goal (col ps y x) ys := by
  have e1 : ff[y]? = some (ff[y]'(by rw [hf.1]; exact hy)) := List.getElem?_eq_getElem _
  obtain ⟨h1, h2⟩ := hf.2 y _ e1
  have e2 := List.getElem?_eq_getElem (l := ff[y]'(by rw [hf.1]; exact hy)) (i := x) (by rw [h1]; exact hx)
  obtain ⟨h3, h4⟩ := h2 x _ e2
  exact ⟨_, _, e1, e2, h3, h4⟩
theorem map_at {ff : List (List (List Int))} {y x i : Nat} {row : List (List Int)} {ys : List Int} (e1 : ff[y]? = some row) (e2 : row[x]? = some ys) : ((ff.map fun row => row.map fun ys => ys.getD i 0).getD y []).getD x 0 = ys.getD i 0 := by
  simp [List.getD_eq_getElem?_getD, List.getElem?_map, e1, e2]
theorem cnt_models {m : Str} (h : m ∈ modelsL) : cnt m = 1 ∧ m = "grey" ∨ cnt m = 3 ∧ (m = "rgb" ∨ m = "ycc") ∨ cnt m = 4 ∧ (m = "cmyk" ∨ m = "ycck") ∨ cnt m = 2 ∧ m = "raw" := by
  simp only [modelsL, List.mem_cons, List.not_mem_nil, or_false] at h
  rcases h with rfl | rfl | rfl | rfl | rfl | rfl <;> decide
theorem right_way {src goal : Str} {prec : Int} {ps : List Pln} {ff : List (List (List Int))} {W H : Nat} (hw : (src, goal) ∈ waysL) (hl : ps.length = cnt src) (hs : Sized W H ps) (hf : TurnOk src goal ps W H ff) : Right src goal prec W H ps (outP ff W H (cnt goal)) := by
  have ne : src ≠ goal ∧ (src, goal) ≠ (("ycc" : Str), ("grey" : Str)) ∧ (src, goal) ≠ (("grey" : Str), ("ycc" : Str)) := by
    simp only [waysL, List.mem_cons, List.not_mem_nil, or_false, Prod.mk.injEq] at hw
    rcases hw with ⟨rfl, rfl⟩ | ⟨rfl, rfl⟩ | ⟨rfl, rfl⟩ | ⟨rfl, rfl⟩ | ⟨rfl, rfl⟩ | ⟨rfl, rfl⟩ <;> exact ⟨by decide, by decide, by decide⟩
  refine ⟨by rw [outP, List.length_map, List.length_range], outP_sized hf, fun e => absurd e ne.1, fun e => absurd e ne.2.1, fun e => ?_, fun e => absurd e ne.2.2, fun e => ?_, fun e => ?_⟩
  · simp only [Prod.mk.injEq] at e
    obtain ⟨rfl, rfl⟩ := e
    obtain ⟨p, rfl⟩ := len1 (hl.trans (by decide))
    obtain ⟨_, _, s1, s2⟩ := hs p (.head _)
    refine ⟨p, rfl, ?_⟩
    have go : ∀ i, i < 3 → (ff.map fun row => row.map fun ys => ys.getD i 0) = p.rows := fun i hi => by
      refine grid_ext (W := W) (H := H) (by rw [List.length_map]; exact hf.1) s1 (fun r hr => ?_) s2 fun y x hy hx => ?_
      · obtain ⟨row, hrow, rfl⟩ := List.mem_map.mp hr
        obtain ⟨y, hy⟩ := List.getElem?_of_mem hrow
        rw [List.length_map]
        exact (hf.2 y row hy).1
      · obtain ⟨row, ys, e1, e2, _, t⟩ := ff_at hf hy hx
        rw [map_at e1 e2]
        obtain ⟨a, ha, hb⟩ := t.2.1 rfl
        simp only [col, List.map_cons, List.map_nil, List.cons.injEq, and_true] at ha
        rw [hb, ha]
        match i, hi with
        | 0, _ => rfl
        | 1, _ => rfl
        | 2, _ => rfl
    show [(ff.map fun row => row.map fun ys => ys.getD 0 0), (ff.map fun row => row.map fun ys => ys.getD 1 0), (ff.map fun row => row.map fun ys => ys.getD 2 0)] = _
    rw [go 0 (by decide), go 1 (by decide), go 2 (by decide)]
  · simp only [Prod.mk.injEq] at e
    obtain ⟨rfl, rfl⟩ := e
    obtain ⟨a, b, c, rfl⟩ := len3 (hl.trans (by decide))
    refine ⟨a, b, c, _, rfl, rfl, fun y hy => ?_⟩
    have e1 : ff[y]? = some (ff[y]'(by rw [hf.1]; exact hy)) := List.getElem?_eq_getElem _
    obtain ⟨h1, h2⟩ := hf.2 y _ e1
    show (ff.map fun row => row.map fun ys => ys.getD 0 0)[y]? = _
    rw [List.getElem?_map, e1, Option.map_some]
    congr 1
    refine List.ext_getElem (by rw [List.length_map, h1, List.length_map, List.length_range]) fun x h3 h4 => ?_
    have hx : x < W := by simpa using h4
    obtain ⟨row, ys, f1, f2, _, t⟩ := ff_at hf hy hx
    rw [e1] at f1
    cases f1
    obtain ⟨p, q, r, g1, g2⟩ := t.1 rfl
    simp only [col, List.map_cons, List.map_nil, List.cons.injEq, and_true] at g1
    obtain ⟨rfl, rfl, rfl⟩ := g1
    have := (List.getElem?_eq_some_iff.mp f2).2
    simp only [List.getElem_map, List.getElem_range, this, g2]
    rfl
  · have hc : src = "cmyk" ∨ src = "ycck" := by
      rcases e with e | e <;> simp only [Prod.mk.injEq] at e
      · exact .inl e.1
      · exact .inr e.1
    have h4 : cnt src = 4 ∧ cnt goal = 4 := by
      rcases e with e | e <;> (simp only [Prod.mk.injEq] at e; obtain ⟨rfl, rfl⟩ := e; decide)
    rw [h4.1] at hl
    obtain ⟨a, b, c, d, rfl⟩ := len4 hl
    rw [h4.2]
    refine ⟨?_, by rw [outP, List.length_map, List.length_range]⟩
    obtain ⟨_, _, s1, s2⟩ := hs d (.tail _ (.tail _ (.tail _ (.head _))))
    show some (ff.map fun row => row.map fun ys => ys.getD 3 0) = some d.rows
    congr 1
    refine grid_ext (W := W) (H := H) (by rw [List.length_map]; exact hf.1) s1 (fun r hr => ?_) s2 fun y x hy hx => ?_
    · obtain ⟨row, hrow, rfl⟩ := List.mem_map.mp hr
      obtain ⟨y, hy⟩ := List.getElem?_of_mem hrow
      rw [List.length_map]
      exact (hf.2 y row hy).1
    · obtain ⟨row, ys, e1, e2, _, t⟩ := ff_at hf hy hx
      rw [map_at e1 e2, List.getD_eq_getElem?_getD, t.2.2 hc]
      rfl
theorem take_sub {α : Type} {n : Nat} {xs : List α} {x : α} (h : x ∈ xs.take n) : x ∈ xs := List.mem_of_mem_take h
theorem turned_ok {v : Value} {src goal : Str} {prec : Int} {ps : List Pln} {W H : Nat} {tm : Tok} (B : Below A₀ base outer h₀) (F : Fr h₀ L s.heap m) (X : (KK w.params).In h₀) (T : Top VV LO mean mg mb h₀) (hf : env.frame = some L) (hk : env.scope.kind = .function) (hd : dp + 40 < recursionLimit) (hu : un + 300 < cLine) (hv : Valid src goal) (hp : PC (HG s.heap) v ⟨src, prec, ps⟩) (hm : src ∈ modelsL) (hl : ps.length = cnt src) (hs : Sized W H ps)
    (w1 : 1 ≤ W) (w3 : W ≤ 3) (h1 : 1 ≤ H) (h2 : H ≤ 2) (hp2 : 2 ≤ prec) (hp8 : prec ≤ 8) :
    Eff (model PR w) (AT dp un gd env outer) (call (.ref 259) [v, .str goal tm]) s [] (fun _ => True) (fun O r => ∃ rs, Right src goal prec W H ps rs ∧ PC O r ⟨goal, prec, rs⟩) := by
  have ok := hs.ok w1 w3 h1 h2
  have hn4 : ps.length ≤ 4 := by rcases cnt_models hm with h | h | h | h <;> omega
  rcases hv with rfl | hw | hyg | hgy
  · refine (turned_same_ok (P := ⟨src, prec, ps⟩) B F X T hf hk (by omega) hp hn4 ok).mono fun O r h => ⟨ps, ⟨hl, hs, fun _ => rfl, fun e => ?_, fun e => ?_, fun e => ?_, fun e => ?_, fun e => ?_⟩, h⟩
    · simp only [Prod.mk.injEq] at e; exact absurd (e.1.symm.trans e.2) (by decide)
    · simp only [Prod.mk.injEq] at e; exact absurd (e.1.symm.trans e.2) (by decide)
    · simp only [Prod.mk.injEq] at e; exact absurd (e.1.symm.trans e.2) (by decide)
    · simp only [Prod.mk.injEq] at e; exact absurd (e.1.symm.trans e.2) (by decide)
    · rcases e with e | e <;> simp only [Prod.mk.injEq] at e
      · exact absurd (e.1.symm.trans e.2) (by decide)
      · exact absurd (e.1.symm.trans e.2) (by decide)
  · exact (turned_way_ok B F X T hf hk hd hu hw hp hl ok (fun q hq => ⟨(hs q hq).1, (hs q hq).2.1⟩) w1 w3 h1 h2 hp2 hp8).mono fun O r ⟨ff, hff, h⟩ => ⟨_, right_way hw hl hs hff, h⟩
  · simp only [Prod.mk.injEq] at hyg
    obtain ⟨rfl, rfl⟩ := hyg
    refine (turned_yg_ok B F X T hf hk (by omega) hu hp (hl.trans (by decide)) ok).mono fun O r h => ⟨ps.take 1, ⟨by rw [List.length_take, hl]; decide, fun p hp => hs p (take_sub hp), fun e => absurd e (by decide), fun _ => by rw [List.map_take], fun e => absurd e (by decide), fun e => absurd e (by decide), fun e => absurd e (by decide), fun e => absurd e (by decide)⟩, h⟩
  · simp only [Prod.mk.injEq] at hgy
    obtain ⟨rfl, rfl⟩ := hgy
    obtain ⟨p, rfl⟩ := len1 (hl.trans (by decide))
    refine and4 (hs p (.head _)) fun a1 a2 a3 a4 => ?_
    refine (turned_gy_ok B F X T hf hk (by omega) hu hp (ok p (.head _)) a1 a2 hp2 hp8).mono fun O r h => ⟨_, ⟨rfl, fun q hq => ?_, fun e => absurd e (by decide), fun e => absurd e (by decide), fun e => absurd e (by decide), fun _ => ⟨p, rfl, rfl⟩, fun e => absurd e (by decide), fun e => absurd e (by decide)⟩, h⟩
    have fl : (flatP W H (2 ^ (prec - 1).toNat)).w = W ∧ (flatP W H (2 ^ (prec - 1).toNat)).h = H ∧ (flatP W H (2 ^ (prec - 1).toNat)).rows.length = H ∧ ∀ r ∈ (flatP W H (2 ^ (prec - 1).toNat)).rows, r.length = W := by
      refine ⟨rfl, rfl, by simp [flatP], fun r hr => ?_⟩
      rw [(List.mem_replicate.mp hr).2, List.length_replicate]
    simp only [List.mem_cons, List.not_mem_nil, or_false] at hq
    rcases hq with rfl | rfl | rfl
    · exact ⟨a1, a2, a3, a4⟩
    · exact fl
    · exact fl
end
end

section
open PySem PySem.W PyProof.Rows PyProof.Rows.LCg PySem.Calls
set_option maxRecDepth 100000
set_option maxHeartbeats 8000000
section
variable {w : World} {mean : ExcName → Option Value} {mg mb : Str → Option Value} {dp un : Nat} {gd : Option (List Code)} {env : Env} {outer : List Env} {A₀ : Around} {base h₀ : Heap} {L : Addr} {m : Str → Option Value} {s : Shared}

local macro_rules | `(tactic| walk_at "fn") => `(tactic| (apply is_turning_ok <;> walk_at "h"))
local macro_rules | `(tactic| walk_at "compareOp Eq ref ref") => `(tactic| walk_at "st")
local macro_rules | `(tactic| walk_at "exec Raise some none") => `(tactic| (k_here; k_dflt (refine Raise44 rfl ?_)))
local macro_rules | `(tactic| walk_at "call ref") => `(tactic| (k_here; refine Stop.ref [44] (by decide) ?_))
local macro_rules | `(tactic| walk_at "binaryOp Add str str") => `(tactic| (k_here; k_dflt (refine PyProof.Rows.SBL.add (fun t' k _ => ?_) (by (try simp only [Str.length_append]); rw [sizeLine_eq]; omega))))
theorem turned_raises {v : Value} {src goal : Str} {prec : Int} {planes : List Pln} {tm : Tok} {Q E : Value → Shared → Prop} (B : Below A₀ base outer h₀) (F : Fr h₀ L s.heap m) (X : (KK w.params).In h₀) (T : Top VV LO mean mg mb h₀) (hf : env.frame = some L) (hk : env.scope.kind = .function) (hd : dp + 20 < recursionLimit) (hu : un + 300 < cLine) (okp : PairOk (src, goal)) (ls : src.length ≤ 8) (lg : goal.length ≤ 8) (hv : ¬ Valid src goal) (hp : PC (HG s.heap) v ⟨src, prec, planes⟩)
    (k : ∀ h' tk' e d, Raised (env :: outer) s.heap h' e d → E (.ref e) { s with heap := h', toks := tk' }) :
    wpAny (model PR w) (AT dp un gd env outer) (call (.ref 259) [v, .str goal tm]) Q E s := by
  have l1 : (Str.ofString "no way from ").length = 12 := by decide +kernel
  have l2 : (Str.ofString " to ").length = 4 := by decide +kernel
  obtain ⟨ne1, hv⟩ := not_or.mp hv
  obtain ⟨hw, hv⟩ := not_or.mp hv
  obtain ⟨ne2, ne3⟩ := not_or.mp hv
  have hdw : decide ((src, goal) ∈ waysL) = false := decide_eq_false hw
  have nb1 : (goal == src) = false := beq_eq_false_iff_ne.mpr (Ne.symm ne1)
  refine hp.elim fun a d e1 e2 e3 t1 t2 t3 t4 t5 rv n hv1e h1 h2 h3 => ?_
  cases hv1e
  clear hp h3
  k_dflt (refine' call_R ?kB ?kF ?kX ?kT ?kA ?kf ?kk ?ko ?kc ?kr ?kb ?kl ?_ k ?c1 ?c2 ?c3 ?c4; (case kA => exact rfl); (case kB => assumption); (case kF => assumption); (case kX => assumption); (case kT => assumption); (case kf => assumption); (case kk => assumption); (case ko => k_is); (case kc => k_is); (case kr => ktr_room); (case kb => exact BindsTo.of_eq rfl); (case c4 => decide); (case kl => exact locs rfl); (case c1 => exact rfl); (case c2 => exact rfl); (case c3 => exact rfl))
  intro g L' h₁ F' N' B' X' T' G
  replace h1 := G _ _ h1
  replace h2 := G _ _ h2
  dsimp only at h2
  clear G k
  k_unmd
  k_fold
  k_steps
  all_goals try (exfalso; rename (goal == src) = true => hx; rw [nb1] at hx; exact Bool.false_ne_true hx)
  unfold Stop
  rename Fr _ _ _ _ => F9
  rename News _ _ _ _ => N9
  refine eq_pair_f okp ok_yg ne2 (N9 _ (.tail _ (.head _))).1 (N9 _ (.head _)).1 (by ktr_units) ?_
  k_steps
  unfold Stop
  rename Fr _ _ _ _ => F8
  rename News _ _ _ _ => N8
  refine eq_pair_f okp ok_gy ne3 (N8 _ (.tail _ (.head _))).1 (N8 _ (.head _)).1 (by ktr_units) ?_
  k_steps
  unfold Stop
  rename Fr _ _ _ _ => F7
  refine new_range (by assumption) F7 (by assumption) (by assumption) (by exact rfl) (by exact rfl) (by ktr_room) (fun hx tkx ex M => ?_)
  have M' := M
  obtain ⟨d', t1', mt', keep, new, he, hd', hn'⟩ := M'
  refine ⟨ex, d', t1', rfl, fun a o q => keep _ _ (F7.keep _ _ (X' a o q)), he, RaiseEnd.mk _ hx tkx ex _ _ rfl rfl F7 M ?_⟩
  intro z
  have z' := congrArg Str.length z
  simp only [Str.length_append, l1, l2] at z'
  rw [show (("" : Str)).length = 0 from by decide +kernel] at z'
  omega
end
end

section
open PySem PySem.W PyProof.Rows PyProof.Rows.LCg PySem.Calls
set_option maxRecDepth 100000
set_option maxHeartbeats 8000000
section
variable {w : World} {mean : ExcName → Option Value} {mg mb : Str → Option Value} {dp un : Nat} {gd : Option (List Code)} {env : Env} {outer : List Env} {A₀ : Around} {base h₀ : Heap} {L : Addr} {m : Str → Option Value} {s : Shared}

theorem rows_okH {hv : Option Value} {v : Value} {ps : List Pln} (B : Below A₀ base outer h₀) (F : Fr h₀ L s.heap m) (X : (KK w.params).In h₀) (T : Top VV LO mean mg mb h₀) (hf : env.frame = some L) (hk : env.scope.kind = .function) (hd : dp + 5 < recursionLimit) (hH : HOk (ATh hv dp un gd env outer) s.heap) (hp : PLS (HG s.heap) v ps) (hn : ps.length ≤ 4) (ok : ∀ p ∈ ps, PlnOk p) :
    Eff (model PR w) (ATh hv dp un gd env outer) (call (.ref 335) [v]) s [] (fun _ => True) (fun O r => PRS O r (ps.map (·.rows))) := by
  refine hp.elim fun a pvs n hv1e h1 h2 h3 => ?_
  cases hv1e
  clear hp
  k_dflt ((refine' call_E (Wn := []) ?kB ?kF ?kX ?kT ?kA ?kf ?kk News.nil ?ko ?kc ?kr ?kb ?kl ?km ?_ ?c1 ?c2 ?c3 ?c4; (case kA => exact rfl); (case kB => assumption); (case kF => assumption); (case kX => assumption); (case kT => assumption); (case kf => assumption); (case kk => assumption); (case ko => k_is); (case kc => k_is); (case kr => ktr_room); (case kb => exact BindsTo.of_eq rfl); (case c4 => decide); (case kl => exact locs rfl); (case c1 => exact rfl); (case c2 => exact rfl); (case c3 => exact rfl)))
  case km => exact fun O O' v k h => PRS.mono _ _ _ _ k h
  intro g L' h₁ F' N' B' X' T' G'
  have G := gsub_nil G'
  replace hH : HOk (ATh hv dp un gd env outer) g := hH.keep fun b _ => G b
  replace h1 := G _ _ h1
  replace h3 := fun i v x e1 e2 => PL.mono _ _ _ _ G (h3 i v x e1 e2)
  clear G'
  k_unmd
  k_fold
  k_steps
  rename Fr _ _ _ _ => F9
  rename News _ _ _ _ => N9
  unfold Stop
  refine comp_frH (n := pvs.length) (P := fun i v => pvs[i]? = some v) (fun i v O y => ∃ p, ps[i]? = some p ∧ RW O y p.rows) F9 N9 ?mono ?hit ?turns ?k (hH.same rfl) (by rfl) rfl (by decide) (.inl rfl) (by intro _; rfl)
  case mono => rintro i v y O O' k ⟨r, a, b⟩; exact ⟨r, a, RW.mono _ _ _ _ k b⟩
  case hit =>
    intro led₀ N₀ sub₀
    k_steps
    rename Fr _ _ _ _ => F9
    rename News _ _ _ _ => N9
    exact IterEnd.list F9 N9 (fun _ h => h) ⟨_, F9.keep _ _ h1, rfl, _, rfl⟩ (by rw [sizeLine_eq, h2]; omega)
  case turns =>
    intro C i v h tk cl' led' hcl hi hv F2 N2 sub2 U2 ho
    refine item_elim h2 h3 hv fun p hp hpm hq2e => ?_
    refine hq2e.elim fun pa pd e1 e2 e3 t1 t2 t3 t4 t5 rv pn hv3e q1 q2 q3 => ?_
    cases hv3e
    refine PlnOk.elim (ok p hpm) fun ok1 ok2 ok3 ok4 ok5 ok6 => ?_
    refine q3.elim fun ra rvs rn hv4e r1 r2 r3 => ?_
    cases hv4e
    clear q3
    k_steps
    unfold Stop
    rename Fr _ _ _ _ => F9
    rename News _ _ _ _ => N9
    refine comp_frH (n := rvs.length) (P := fun i v => rvs[i]? = some v) (fun i v O y => ∃ r, p.rows[i]? = some r ∧ IL O y r) F9 N9 ?mono2 ?hit2 ?turns2 ?k2 (hH.same rfl) (by rfl) rfl (by decide) (.inl rfl) (by intro _; rfl)
    case mono2 => rintro i v y O O' k ⟨r, a, b⟩; exact ⟨r, a, IL.mono _ _ _ _ k b⟩
    case hit2 =>
      intro led₀ N₀ sub₀
      k_steps
      rename Fr _ _ _ _ => F9
      rename News _ _ _ _ => N9
      exact IterEnd.list F9 N9 (fun _ h => h) ⟨_, F9.keep _ _ r1, rfl, _, rfl⟩ (by rw [sizeLine_eq, r2]; omega)
    case turns2 =>
      intro C i v h tk cl' led' hcl hi hv F3 N3 sub3 U3 ho
      refine item_elim r2 r3 hv fun r hr hrm hq5e => ?_
      refine hq5e.elim fun ia ivs inn hv6e s1 s2 s3 => ?_
      cases hv6e
      have hl : g.IsList ia ivs.toArray := ⟨_, s1, rfl, _, rfl⟩
      have hz : ivs.toArray.size ≤ sizeLine := by have := ok2 r hrm; rw [sizeLine_eq, List.size_toArray, s2]; omega
      k_steps
      rename Fr _ _ _ _ => F9
      rename News _ _ _ _ => N9
      have hD := N9 _ (List.Mem.head _)
      exact EltEnd.intro F9 N9 (fun _ h => List.mem_cons_of_mem _ h) ⟨r, hr, _, _, _, rfl, ⟨hD.1, full_new U3 (by ktn_lt) hD.2.2 hD.2.1⟩, s2, fun i v x a b => s3 i v x a b⟩
    case k2 =>
      intro y new h' tk' F4 N4 hn4 po
      refine EltEnd.intro F4 N4 (fun _ h => List.mem_append_right _ h) ⟨p, hp, ?_⟩
      refine RW.mono _ _ _ _ (fun a o h => ⟨(N4 _ (List.mem_append_left _ h)).1, hn4 _ h⟩) (CompPost.list r2 (fun i v x O y e _ t => ?_) po)
      obtain ⟨r, f1, f2⟩ := t
      rw [e] at f1; cases f1; exact f2
  case k =>
    intro y new h' tk' F3 N3 hn po
    k_steps
    refine BodyEnd.pure (fun O O' v k h => PRS.mono _ _ _ _ k h) F3 N3 ?_
    refine PRS.mono _ _ _ _ (fun a o h => List.mem_append_left _ h) (CompPost.toMap h2 (fun i v x O y e t => ?_) po)
    obtain ⟨r, f1, f2⟩ := t
    rw [e] at f1; cases f1; exact f2
theorem rows_ok {v : Value} {ps : List Pln} (B : Below A₀ base outer h₀) (F : Fr h₀ L s.heap m) (X : (KK w.params).In h₀) (T : Top VV LO mean mg mb h₀) (hf : env.frame = some L) (hk : env.scope.kind = .function) (hd : dp + 5 < recursionLimit) (hp : PLS (HG s.heap) v ps) (hn : ps.length ≤ 4) (ok : ∀ p ∈ ps, PlnOk p) :
    Eff (model PR w) (AT dp un gd env outer) (call (.ref 335) [v]) s [] (fun _ => True) (fun O r => PRS O r (ps.map (·.rows))) := rows_okH B F X T hf hk hd (.none rfl) hp hn ok
end
end

section
open PySem PySem.W PyProof.Rows PyProof.Rows.LCg PySem.Calls
set_option maxRecDepth 100000
set_option maxHeartbeats 8000000
section
variable {w : World} {mean : ExcName → Option Value} {mg mb : Str → Option Value} {dp un : Nat} {gd : Option (List Code)} {env : Env} {outer : List Env} {A₀ : Around} {base h₀ : Heap} {L : Addr} {m : Str → Option Value} {s : Shared}

local macro_rules | `(tactic| walk_at "new") => `(tactic| ((first | apply plane_use | apply pic_use | apply turn_use); iterate 8 walk_at "h"))
local macro_rules | `(tactic| walk_at "call ref") => `(tactic| (k_here; k_dflt (walk_at "new"; intros; rename_i l1 l2; (try k_lt l1); (try k_lt2 l2); (try dsimp only); (try k_fold))))


local macro_rules | `(tactic| walk_at "fn") => `(tactic| (apply middle_ok <;> walk_at "h"))
local macro_rules | `(tactic| walk_at "fn") => `(tactic| (apply greatest_ok <;> walk_at "h"))
local macro_rules | `(tactic| walk_at "fn") => `(tactic| (apply light_ok <;> walk_at "h"))
local macro_rules | `(tactic| walk_at "fn") => `(tactic| (apply weighed_ok; (iterate 7 walk_at "h"); k_is; decide))

noncomputable def invP (M : Int) (p : Pln) : Pln := ⟨p.w, p.h, p.rows.map fun r => r.map fun x => M - x⟩
inductive InvR (fa L' : Addr) (oC : Obj) (M : Int) (planes : List Pln) (i : Nat) (led : List (Addr × Obj)) : Prop
  | mk : ∀ (vs : List Value) (nn : Nat) (imm : List (Addr × Obj)), led = (fa, listOf vs.toArray nn) :: (L' + 1, oC) :: imm → vs.length = i → (∀ p ∈ imm, p.1 ≠ fa) →
    (∀ (j : Nat) v p, vs[j]? = some v → planes[j]? = some p → PL (fun a o => (a, o) ∈ imm) v (invP M p)) → InvR fa L' oC M planes i led
theorem inverted_ok {v : Value} {P : Pic} (B : Below A₀ base outer h₀) (F : Fr h₀ L s.heap m) (X : (KK w.params).In h₀) (T : Top VV LO mean mg mb h₀) (hf : env.frame = some L) (hk : env.scope.kind = .function) (hd : dp + 10 < recursionLimit) (hp : PC (HG s.heap) v P) (hn : P.planes.length ≤ 4) (ok : ∀ p ∈ P.planes, PlnOk p) (hp2 : 2 ≤ P.prec) (hp8 : P.prec ≤ 8) :
    Eff (model PR w) (AT dp un gd env outer) (call (.ref 264) [v]) s [] (fun _ => True) (fun O r => PC O r ⟨P.model, P.prec, P.planes.map (invP (2 ^ P.prec.toNat - 1))⟩) := by
  refine hp.elim fun a d e1 e2 e3 t1 t2 t3 t4 t5 rv n hv1e h1 h2 h3 => ?_
  cases hv1e
  clear hp
  k_dflt ((refine' call_EC (Wn := []) ?kB ?kF ?kX ?kT ?kA ?kf ?kk News.nil ?ko ?kc ?kr ?kb ?kl ?kd ?km ?_ ?c1 ?c2 ?c3; (case kA => exact rfl); (case kB => assumption); (case kF => assumption); (case kX => assumption); (case kT => assumption); (case kf => assumption); (case kk => assumption); (case ko => k_is); (case kc => k_is); (case kr => ktr_room); (case kb => exact BindsTo.of_eq rfl); (case kl => exact rfl); (case kd => decide +kernel); (case c1 => exact rfl); (case c2 => exact rfl); (case c3 => exact rfl)))
  case km => exact fun O O' v k h => PC.mono _ _ _ _ k h
  intro g L' h₁ tk₁ cells F' N' Y' lW B' X' T' G'
  have G := gsub_nil G'
  replace h1 := G _ _ h1
  replace h2 := G _ _ h2
  replace h3 := PLS.mono _ _ _ _ G h3
  refine h3.elim fun pa pvs pn hv2e p1 p2 p3 => ?_
  cases hv2e
  clear h3
  clear G'
  k_cells Y'
  simp only [List.cons_append, List.nil_append, List.append_nil] at N'
  k_unmd
  k_fold
  k_steps
  unfold Stop
  rename_i hA oC dC fa hB l1 hC F9 N9
  refine for_list1 (vs := pvs) (InvR fa L' oC (2 ^ P.prec.toNat - 1) P.planes) F9 rfl rfl PassesOwn.never rfl rfl ?head (by intro _; rfl)
  case head =>
    k_steps
    rename Fr _ _ _ _ => F8
    rename News _ _ _ _ => N8
    refine ⟨pa, _, rfl, F8, N8, ⟨_, F8.keep _ _ p1, rfl, _, rfl⟩, ⟨[], 0, [], rfl, rfl, fun _ h => (nomatch h), fun j v p h => by simp at h⟩, ?turn, ?done⟩
    case turn =>
      rintro i v I led' s' own hv ⟨vs, nn, imm, rfl, hlen, himm, hres⟩ off hown ⟨oI, hI⟩ F7 N7
      refine item_elim p2 p3 hv fun p hp hpm hq3e => ?_
      refine hq3e.elim fun ra rd f1 f2 f3 u1 u2 u3 u4 u5 rv rn hv4e q1 q2 q3 => ?_
      cases hv4e
      refine PlnOk.elim (ok p hpm) fun ok1 ok2 ok3 ok4 ok5 ok6 => ?_
      refine q3.elim fun rra rvs rrn hv5e r1 r2 r3 => ?_
      cases hv5e
      clear q3
      simp only [List.cons_append] at N7
      have hio : ∀ p ∈ imm ++ own, p.1 ≠ fa := fun p hp => by
        rcases List.mem_append.mp hp with hp | hp
        · exact himm p hp
        · rcases hown p hp with e | e
          · rw [e]; exact Ne.symm (off _ (List.Mem.head _))
          · intro z
            have := (N7 (fa, _) (List.Mem.head _)).2.2
            rw [← z, e, p1] at this; cases this
      k_steps
      unfold Stop
      rename Fr _ _ _ _ => F6
      rename News _ _ _ _ => N6
      refine comp_fr (n := rvs.length) (P := fun i v => rvs[i]? = some v) (fun i v O y => ∃ r, p.rows[i]? = some r ∧ IL O y (r.map fun x => (2 ^ P.prec.toNat - 1) - x)) F6 N6 ?mono1 ?hit1 ?turns1 ?k1 rfl (by with_unfolding_all rfl) rfl (by decide) (.inl rfl) (by intro _; rfl)
      case mono1 => rintro i v y O O' k ⟨r, a, b⟩; exact ⟨r, a, IL.mono _ _ _ _ k b⟩
      case hit1 =>
        intro led₀ N₀ sub₀
        k_steps
        rename Fr _ _ _ _ => F9
        rename News _ _ _ _ => N9
        exact IterEnd.list F9 N9 (fun _ h => h) ⟨_, F9.keep _ _ r1, rfl, _, rfl⟩ (by rw [sizeLine_eq, r2]; omega)
      case turns1 =>
        intro C i v h tk cl' led' hcl hi hv F2 N2 sub2 U2 ho
        refine item_elim r2 r3 hv fun r hr hrm hq6e => ?_
        refine hq6e.elim fun ia ivs inn hv7e s1 s2 s3 => ?_
        cases hv7e
        have hcm : (L' + 1, oC) ∈ led' := sub2 _ (by k_mem)
        subst hcl
        k_steps
        unfold Stop
        rename Fr _ _ _ _ => F9
        rename News _ _ _ _ => N9
        refine comp_fr (n := ivs.length) (P := fun i v => ivs[i]? = some v) (fun i v O y => ∃ x, r[i]? = some x ∧ IV O y ((2 ^ P.prec.toNat - 1) - x)) F9 N9 ?mono2 ?hit2 ?turns2 ?k2 rfl (by with_unfolding_all rfl) rfl (by decide) (.inl rfl) (by intro _; rfl)
        case mono2 => rintro i v y O O' k ⟨r, a, b⟩; exact ⟨r, a, b⟩
        case hit2 =>
          intro led₀ N₀ sub₀
          k_steps
          rename Fr _ _ _ _ => F9
          rename News _ _ _ _ => N9
          exact IterEnd.list F9 N9 (fun _ h => h) ⟨_, F9.keep _ _ s1, rfl, _, rfl⟩ (by have := ok2 r hrm; rw [sizeLine_eq, s2]; omega)
        case turns2 =>
          intro C2 j v h tk cl' led2 hcl hi hv2 F3 N3 sub3 U3 ho3
          refine item_elim s2 s3 hv2 fun x hx hxm hq9e => ?_
          obtain ⟨t, rfl⟩ := hq9e
          have hcm2 : (L' + 1, oC) ∈ led2 := sub3 _ hcm
          subst hcl
          k_steps
          rename Fr _ _ _ _ => F9
          rename News _ _ _ _ => N9
          exact EltEnd.intro F9 N9 (fun _ h => h) ⟨x, hx, _, rfl⟩
        case k2 =>
          intro y new h' tk' F4 N4 hn4 po
          refine EltEnd.intro F4 N4 (fun _ h => List.mem_append_right _ h) ⟨r, hr, ?_⟩
          refine IL.mono _ _ _ _ (fun a o h => ⟨(N4 _ (List.mem_append_left _ h)).1, hn4 _ h⟩) (CompPost.toMap s2 (fun i v x O y e t => ?_) po)
          obtain ⟨x', f1, f2⟩ := t
          rw [e] at f1; cases f1; exact f2
      case k1 =>
        intro y new h' tk' F4 N4 hn4 po
        refine po.elim fun D ys hv9e y1 y2 y3 => ?_
        cases hv9e
        have hnf := off_new N6 hn4 (d := fa) (by k_mem)
        have hil : i < pvs.length := by
          rcases Nat.lt_or_ge i pvs.length with z | z
          · exact z
          · rw [List.getElem?_eq_none z] at hv; cases hv
        have hsz : vs.toArray.size ≤ sizeLine := by rw [sizeLine_eq, List.size_toArray]; omega
        have hnI := off_new N6 hn4 (d := I) (List.Mem.tail _ (List.Mem.tail _ (List.mem_append_right _ hI)))
        k_steps
        rename Fr _ _ _ _ => F9
        rename News _ _ _ _ => N9
        refine forEnd_push (mid := [(L' + 1, oC)]) F9 N9 (by assumption) (by assumption) off hI hnI fun nx nd => ⟨_, _, _, rfl, by rw [List.length_append, hlen]; rfl, fun q hq => ?_, fun j v' p' hj hp' => ?_⟩
        · replace hq : q ∈ (_, _) :: (_, _) :: (new ++ imm) := hq
          simp only [List.mem_cons, List.mem_append] at hq
          rcases hq with h | h | h | h
          · rw [h]; exact Ne.symm nx
          · rw [h]; exact Ne.symm nd
          · exact hnf q h
          · exact himm q h
        · rcases Nat.lt_trichotomy j vs.length with z | z | z
          · rw [List.getElem?_append_left z] at hj
            exact PL.mono _ _ _ _ (fun a o h => List.Mem.tail _ (List.Mem.tail _ (List.mem_append_right _ h))) (hres j v' p' hj hp')
          · subst z
            rw [hlen, hp] at hp'
            cases hp'
            simp at hj
            subst hj
            refine ⟨_, _, _, _, _, _, _, _, _, _, _, _, rfl, List.Mem.head _, List.Mem.tail _ (List.Mem.head _), ?_⟩
            refine RW.mono _ _ _ _ (fun a o h => List.Mem.tail _ (List.Mem.tail _ (List.mem_append_left _ h))) (CompPost.toMap r2 (fun i v x O y e t => ?_) po)
            obtain ⟨r, g1, g2⟩ := t
            rw [e] at g1; cases g1; exact g2
          · rw [List.getElem?_eq_none (by rw [List.length_append, List.length_singleton]; exact z)] at hj; cases hj
    case done =>
      rintro h' tk' u led' F7 N7 ⟨vs, nn, imm, rfl, hlen, himm, hres⟩
      k_steps
      rename Fr _ _ _ _ => F9
      rename News _ _ _ _ => N9
      refine BodyEnd.pure (fun O O' v k h => PC.mono _ _ _ _ k h) F9 N9 ?_
      refine ⟨_, _, _, _, _, _, _, _, _, _, _, _, rfl, List.Mem.head _, List.Mem.tail _ (List.Mem.head _), _, _, _, rfl, List.Mem.tail _ (List.Mem.tail _ (List.Mem.head _)), by rw [List.length_map, hlen, p2], fun j v q e1 e2 => ?_⟩
      rw [List.getElem?_map] at e2
      obtain ⟨p, e3, e4⟩ := Option.map_eq_some_iff.mp e2
      subst e4
      exact PL.mono _ _ _ _ (fun a o h => List.Mem.tail _ (List.Mem.tail _ (List.Mem.tail _ (List.Mem.tail _ h)))) (hres j v p e1 e3)
end
end

section
open PySem PySem.W PyProof.Rows PyProof.Rows.LCg PySem.Calls
set_option maxRecDepth 100000
set_option maxHeartbeats 8000000
section
variable {w : World} {mean : ExcName → Option Value} {mg mb : Str → Option Value} {dp un : Nat} {gd : Option (List Code)} {env : Env} {outer : List Env} {A₀ : Around} {base h₀ : Heap} {L : Addr} {m : Str → Option Value} {s : Shared}

local macro_rules | `(tactic| walk_at "compareOp Eq ref ref") => `(tactic| walk_at "st")
theorem same_plane_ok {v v' : Value} {p : Pln} (B : Below A₀ base outer h₀) (F : Fr h₀ L s.heap m) (X : (KK w.params).In h₀) (T : Top VV LO mean mg mb h₀) (hf : env.frame = some L) (hk : env.scope.kind = .function) (hd : dp + 5 < recursionLimit) (hu : un + 200 < cLine) (hp : PL (HG s.heap) v p) (hp' : PL (HG s.heap) v' p) :
    Eff (model PR w) (AT dp un gd env outer) (call (.ref 159) [v, v']) s [] (fun _ => True) (fun _ r => r = .bool true) := by
  refine hp.elim fun a d e1 e2 e3 t1 t2 t3 t4 t5 rv n hv1e h1 h2 h3 => ?_
  cases hv1e
  clear hp
  refine (hp').elim fun a' d' e1' e2' e3' t1' t2' t3' t4' t5' rv' n' hv2e h1' h2' h3' => ?_
  cases hv2e
  k_dflt ((refine' call_E (Wn := []) ?kB ?kF ?kX ?kT ?kA ?kf ?kk News.nil ?ko ?kc ?kr ?kb ?kl ?km ?_ ?c1 ?c2 ?c3 ?c4; (case kA => exact rfl); (case kB => assumption); (case kF => assumption); (case kX => assumption); (case kT => assumption); (case kf => assumption); (case kk => assumption); (case ko => k_is); (case kc => k_is); (case kr => ktr_room); (case kb => exact BindsTo.of_eq rfl); (case c4 => decide); (case kl => exact locs rfl); (case c1 => exact rfl); (case c2 => exact rfl); (case c3 => exact rfl)))
  case km => exact fun _ _ _ _ h => h
  intro g L' h₁ F' N' B' X' T' G'
  have G := gsub_nil G'
  replace h1 := G _ _ h1
  replace h2 := G _ _ h2
  replace h3 := RW.mono _ _ _ _ G h3
  replace h1' := G _ _ h1'
  replace h2' := G _ _ h2'
  replace h3' := RW.mono _ _ _ _ G h3'
  refine h3.elim fun ra rvs rn hv3e r1 r2 r3 => ?_
  cases hv3e
  refine (h3').elim fun ra' rvs' rn' hv4e r1' r2' r3' => ?_
  cases hv4e
  clear G'
  k_unmd
  k_fold
  k_steps
  unfold Stop
  rename Fr _ _ _ _ => F9
  rename News _ _ _ _ => N9
  refine eq_RW (RW.mono _ _ _ _ (fun a o e => F9.keep a o e) h3) (RW.mono _ _ _ _ (fun a o e => F9.keep a o e) h3') (by ktr_units) ?_
  k_steps
  all_goals exact BodyEnd.intro (by assumption) trivial (by simp)
end
end

section
open PySem PySem.W PyProof.Rows PyProof.Rows.LCg PySem.Calls
set_option maxRecDepth 100000
set_option maxHeartbeats 8000000
section
variable {w : World} {mean : ExcName → Option Value} {mg mb : Str → Option Value} {dp un : Nat} {gd : Option (List Code)} {env : Env} {outer : List Env} {A₀ : Around} {base h₀ : Heap} {L : Addr} {m : Str → Option Value} {s : Shared}

local macro_rules | `(tactic| walk_at "call type:zip") => `(tactic| walk_at "st")
local macro_rules | `(tactic| walk_at "fn") => `(tactic| (apply same_plane_ok <;> walk_at "h"))
local macro_rules | `(tactic| walk_at "call builtin:len") => `(tactic| (k_here; (with_reducible show wpAny _ _ (call (Value.builtin "len") [Value.ref _]) _ _ _); k_dflt (refine len_base (by k_asm) (by assumption) (by omega) ?_)))
theorem same_picture_ok {v v' : Value} {P : Pic} (B : Below A₀ base outer h₀) (F : Fr h₀ L s.heap m) (X : (KK w.params).In h₀) (T : Top VV LO mean mg mb h₀) (hf : env.frame = some L) (hk : env.scope.kind = .function) (hd : dp + 10 < recursionLimit) (hu : un + 300 < cLine) (hp : PC (HG s.heap) v P) (hp' : PC (HG s.heap) v' P) (hn : P.planes.length ≤ 4) :
    Eff (model PR w) (AT dp un gd env outer) (call (.ref 164) [v, v']) s [] (fun _ => True) (fun _ r => r = .bool true) := by
  refine hp.elim fun a d e1 e2 e3 t1 t2 t3 t4 t5 rv n hv1e h1 h2 h3 => ?_
  cases hv1e
  clear hp
  refine (hp').elim fun a' d' e1' e2' e3' t1' t2' t3' t4' t5' rv' n' hv2e h1' h2' h3' => ?_
  cases hv2e
  k_dflt ((refine' call_E (Wn := []) ?kB ?kF ?kX ?kT ?kA ?kf ?kk News.nil ?ko ?kc ?kr ?kb ?kl ?km ?_ ?c1 ?c2 ?c3 ?c4; (case kA => exact rfl); (case kB => assumption); (case kF => assumption); (case kX => assumption); (case kT => assumption); (case kf => assumption); (case kk => assumption); (case ko => k_is); (case kc => k_is); (case kr => ktr_room); (case kb => exact BindsTo.of_eq rfl); (case c4 => decide); (case kl => exact locs rfl); (case c1 => exact rfl); (case c2 => exact rfl); (case c3 => exact rfl)))
  case km => exact fun _ _ _ _ h => h
  intro g L' h₁ F' N' B' X' T' G'
  have G := gsub_nil G'
  replace h1 := G _ _ h1
  replace h2 := G _ _ h2
  replace h3 := PLS.mono _ _ _ _ G h3
  replace h1' := G _ _ h1'
  replace h2' := G _ _ h2'
  replace h3' := PLS.mono _ _ _ _ G h3'
  refine h3.elim fun ra rvs rn hv3e r1 r2 r3 => ?_
  cases hv3e
  clear h3
  refine (h3').elim fun ra' rvs' rn' hv4e r1' r2' r3' => ?_
  cases hv4e
  have hl : g.IsList ra rvs.toArray := ⟨_, r1, rfl, _, rfl⟩
  have hl' : g.IsList ra' rvs'.toArray := ⟨_, r1', rfl, _, rfl⟩
  clear G'
  have hm3 : rvs.length = rvs'.length := by omega
  k_unmd
  k_fold
  k_steps
  all_goals try (exfalso; first | exact absurd ‹(P.model != P.model) = true› (by simp) | exact absurd rfl ‹¬ (P.prec = P.prec)› | omega)
  unfold Stop
  rename Fr _ _ _ _ => F9
  rename News _ _ _ _ => N9
  refine comp_zip (xs := rvs) (ys := rvs') (.bool true) F9 N9 rfl hm3 (by rw [sizeLine_eq]; omega) ?hit ?turns ?k (by rfl) rfl (by decide) (by decide) (by decide) (by decide) (by decide) (by intro _; rfl)
  case hit =>
    k_steps
    unfold Stop
    rename Fr _ _ _ _ => F8
    rename News _ _ _ _ => N8
    exact zip_call F8 N8 (hl.at fun o e => F8.keep _ _ e) (hl'.at fun o e => F8.keep _ _ e) (ground_ne F8 r1) (ground_ne F8 r1')
  case turns =>
    intro C i x y h tk led' hx hy F2 N2 sub2 ho1 ho2
    refine item_elim r2 r3 hx fun p hp hpm q1 => ?_
    obtain ⟨p', hp', hpm', q2⟩ := item_of r2' r3' hy
    rw [hp] at hp'
    cases hp'
    have q3 := PL.mono _ _ _ _ F2.keep q1
    have q4 := PL.mono _ _ _ _ F2.keep q2
    k_steps
    rename Fr _ _ _ _ => F8
    rename News _ _ _ _ => N8
    exact EltEnd.intro F8 N8 (fun _ h => h) rfl
  case k =>
    intro D h' tk' F3 N3
    have hb := bools_rep rvs.length
    k_steps
    rename Fr _ _ _ _ => F8
    rename News _ _ _ _ => N8
    refine LSm.all_bools F8 N8 rfl ⟨_, (N8 _ (List.Mem.head _)).1, rfl, _, rfl⟩ hb ?_
    intro h' tk' F4 N4
    rw [all_rep]
    k_steps
    exact BodyEnd.intro (by assumption) trivial rfl
end
end

section
open PySem PySem.W PyProof.Rows PyProof.Rows.LCg PySem.Calls
set_option maxRecDepth 100000
set_option maxHeartbeats 8000000
section
variable {w : World} {mean : ExcName → Option Value} {mg mb : Str → Option Value} {dp un : Nat} {gd : Option (List Code)} {env : Env} {outer : List Env} {A₀ : Around} {base h₀ : Heap} {L : Addr} {m : Str → Option Value} {s : Shared}

local macro_rules | `(tactic| k_inst) => `(tactic| exact inst_led (by k_asm) (by walk_at "km") (by walk_at "km"))
local macro_rules | `(tactic| walk_at "fn") => `(tactic| (apply rows_ok <;> walk_at "h"))
local macro_rules | `(tactic| walk_at "fn") => `(tactic| (apply inverted_ok <;> walk_at "h"))
local macro_rules | `(tactic| walk_at "fn") => `(tactic| (apply same_picture_ok <;> walk_at "h"))

local macro_rules | `(tactic| walk_at "call type:zip") => `(tactic| walk_at "st")
theorem invP_invP (M : Int) (p : Pln) : invP M (invP M p) = p := by
  cases p with
  | mk w h rows =>
    simp only [invP, List.map_map]
    congr 1
    rw [show (fun r : List Int => r.map fun x => M - x) ∘ (fun r => r.map fun x => M - x) = id from ?_, List.map_id]
    funext r
    simp only [Function.comp, List.map_map]
    rw [show (fun x : Int => M - x) ∘ (fun x => M - x) = id from ?_, List.map_id]
    · rfl
    · funext x; simp only [Function.comp, id]; omega
theorem invP_ok {M : Int} {p : Pln} (h : PlnOk p) : PlnOk (invP M p) := by
  obtain ⟨h1, h2, h3⟩ := h
  refine ⟨by simpa [invP] using h1, fun r hr => ?_, h3⟩
  obtain ⟨r', a, b⟩ := List.mem_map.mp hr
  rw [← b, List.length_map]; exact h2 r' a
theorem invPs_ok {M : Int} {ps : List Pln} (h : ∀ p ∈ ps, PlnOk p) : ∀ p ∈ ps.map (invP M), PlnOk p := fun p hp => by
  obtain ⟨q, a, b⟩ := List.mem_map.mp hp
  rw [← b]; exact invP_ok (h q a)
local macro_rules | `(tactic| walk_at "compareOp NotEq ref ref") => `(tactic| walk_at "st")
local macro_rules | `(tactic| walk_at "call ref") => `(tactic| (k_here; refine Stop.ref [164] (by decide) ?_))
theorem inverted_right_ok {v : Value} {P : Pic} {tt : Tok} (B : Below A₀ base outer h₀) (F : Fr h₀ L s.heap m) (X : (KK w.params).In h₀) (T : Top VV LO mean mg mb h₀) (hf : env.frame = some L) (hk : env.scope.kind = .function) (hd : dp + 15 < recursionLimit) (hu : un + 400 < cLine) (hp : PC (HG s.heap) v P) (hn : P.planes.length ≤ 4) (ok : ∀ p ∈ P.planes, PlnOk p) (hm : PyData.strOk P.model = true) (hp2 : 2 ≤ P.prec) (hp8 : P.prec ≤ 8) :
    Eff (model PR w) (AT dp un gd env outer) (call (.ref 340) [v, .int (2 ^ P.prec.toNat - 1) tt]) s [] (fun _ => True) (fun _ r => r = .bool true) := by
  refine hp.elim fun a d e1 e2 e3 t1 t2 t3 t4 t5 rv n hv1e h1 h2 h3 => ?_
  cases hv1e
  k_dflt ((refine' call_EC (Wn := []) ?kB ?kF ?kX ?kT ?kA ?kf ?kk News.nil ?ko ?kc ?kr ?kb ?kl ?kd ?km ?_ ?c1 ?c2 ?c3; (case kA => exact rfl); (case kB => assumption); (case kF => assumption); (case kX => assumption); (case kT => assumption); (case kf => assumption); (case kk => assumption); (case ko => k_is); (case kc => k_is); (case kr => ktr_room); (case kb => exact BindsTo.of_eq rfl); (case kl => exact rfl); (case kd => decide +kernel); (case c1 => exact rfl); (case c2 => exact rfl); (case c3 => exact rfl)))
  case km => exact fun _ _ _ _ h => h
  intro g L' h₁ tk₁ cells F' N' Y' lW B' X' T' G'
  have G := gsub_nil G'
  replace h1 := G _ _ h1
  replace h2 := G _ _ h2
  replace h3 := PLS.mono _ _ _ _ G h3
  replace hp := PC.mono _ _ _ _ G hp
  refine h3.elim fun pa pvs pn hv2e p1 p2 p3 => ?_
  cases hv2e
  have ok2 := invPs_ok (M := 2 ^ P.prec.toNat - 1) ok
  clear G'
  k_cells Y'
  simp only [List.cons_append, List.nil_append, List.append_nil] at N'
  k_unmd
  k_fold
  k_steps
  unfold Stop
  rename Fr _ _ _ _ => F9
  rename News _ _ _ _ => N9
  refine ne_tup2 hm (N9 _ (List.Mem.tail _ (List.Mem.head _))).1 (N9 _ (List.Mem.head _)).1 (by ktr_units) ?_
  k_steps
  unfold Stop
  rename Fr _ _ _ _ => F8
  rename News _ _ _ _ => N8
  refine for_zip0 F8 N8 rfl rfl PassesOwn.never (by decide) rfl rfl rfl ?hit (by intro _; rfl)
  case hit =>
    k_steps
    unfold Stop
    rename Fr _ _ _ _ => F7
    rename News _ _ _ _ => N7
    rename PRS _ _ (List.map (fun x : Pln => x.rows) (List.map _ _)) => z2
    rename PRS _ _ (List.map (fun x : Pln => x.rows) P.planes) => z1
    obtain ⟨ya, yvs, yn, e1, y1, y2, y3⟩ := z1
    obtain ⟨xa, xvs, xn, e2, x1, x2, x3⟩ := z2
    cases e1
    cases e2
    rw [List.length_map] at y2
    rw [List.length_map, List.length_map] at x2
    have my := N7 _ (List.mem_append_right _ (List.mem_append_left _ y1))
    have mx := N7 _ (List.mem_append_left _ x1)
    refine wpAny_mono (zip_call (s₀ := s) F7 N7 ⟨_, my.1, rfl, _, rfl⟩ ⟨_, mx.1, rfl, _, rfl⟩ my.2.1 mx.2.1) (fun xv s₁ hz => ⟨_, _, _, hz.re, by rw [y2, x2], ?turn, ?kk⟩) fun _ _ e => e
    case turn =>
      intro i x y h tk led' hx hy sub F6 N6
      refine item_elim (by rw [y2, List.length_map]) y3 hx fun r1 hr1 _ hq3e => ?_
      refine hq3e.elim fun ra rvs rn hv4e a1 a2 a3 => ?_
      cases hv4e
      refine item_elim (by rw [x2, List.length_map, List.length_map]) x3 hy fun r2 hr2 _ b1 => ?_
      rw [List.getElem?_map] at hr1 hr2
      rw [List.getElem?_map] at hr2
      obtain ⟨p, hp, rfl⟩ := Option.map_eq_some_iff.mp hr1
      rw [hp] at hr2
      simp only [Option.map_some, Option.some.injEq] at hr2
      refine PlnOk.elim (ok p (List.mem_of_getElem? hp)) fun ok1 ok2' ok3 ok4 ok5 ok6 => ?_
      have m1 := sub _ (List.mem_append_right _ (List.mem_append_left _ a1))
      obtain ⟨o1, hcm, hc1⟩ : ∃ o, (L' + 1, o) ∈ led' ∧ o.data = .cell (some (.int (2 ^ P.prec.toNat - 1) tt)) := ⟨_, sub _ (List.mem_append_right _ (List.mem_append_right _ (.tail _ (.tail _ (List.mem_append_right _ (.head _)))))), by assumption⟩
      k_steps
      unfold Stop
      rename Fr _ _ _ _ => F5
      rename News _ _ _ _ => N5
      refine comp_fr (n := rvs.length) (P := fun i v => rvs[i]? = some v) (fun i v O y => ∃ r, p.rows[i]? = some r ∧ IL O y (r.map fun x => (2 ^ P.prec.toNat - 1) - x)) F5 N5 ?mono1 ?hit1 ?turns1 ?k1 rfl (by with_unfolding_all rfl) rfl (by decide) (.inl rfl) (by intro _; rfl)
      case mono1 => rintro i v y O O' k ⟨r, a, b⟩; exact ⟨r, a, IL.mono _ _ _ _ k b⟩
      case hit1 =>
        intro led₀ N₀ sub₀
        have m2 := sub₀ _ m1
        k_steps
        rename Fr _ _ _ _ => F9
        rename News _ _ _ _ => N9
        exact IterEnd.list F9 N9 (fun _ h => h) ⟨_, (N9 _ m2).1, rfl, _, rfl⟩ (by rw [sizeLine_eq, a2]; omega)
      case turns1 =>
        intro C i v h tk cl' led2 hcl hi hv F2 N2 sub2 U2 ho
        refine item_elim a2 a3 hv fun r hr hrm hq5e => ?_
        refine hq5e.elim fun ia ivs inn hv6e s1 s2 s3 => ?_
        cases hv6e
        have hcm2 : (L' + 1, o1) ∈ led2 := sub2 _ hcm
        have m2 := sub2 _ (sub _ (List.mem_append_right _ (List.mem_append_left _ s1)))
        subst hcl
        k_steps
        unfold Stop
        rename Fr _ _ _ _ => F9
        rename News _ _ _ _ => N9
        refine comp_fr (n := ivs.length) (P := fun i v => ivs[i]? = some v) (fun i v O y => ∃ x, r[i]? = some x ∧ IV O y ((2 ^ P.prec.toNat - 1) - x)) F9 N9 ?mono2 ?hit2 ?turns2 ?k2 rfl (by with_unfolding_all rfl) rfl (by decide) (.inl rfl) (by intro _; rfl)
        case mono2 => rintro i v y O O' k ⟨r, a, b⟩; exact ⟨r, a, b⟩
        case hit2 =>
          intro led₀ N₀ sub₀
          have m3 := sub₀ _ m2
          k_steps
          rename Fr _ _ _ _ => F9
          rename News _ _ _ _ => N9
          exact IterEnd.list F9 N9 (fun _ h => h) ⟨_, (N9 _ m3).1, rfl, _, rfl⟩ (by have := ok2' r hrm; rw [sizeLine_eq, s2]; omega)
        case turns2 =>
          intro C2 j v h tk cl' led3 hcl hi hv2 F3 N3 sub3 U3 ho3
          refine item_elim s2 s3 hv2 fun x hx hxm hq9e => ?_
          obtain ⟨t, rfl⟩ := hq9e
          have hcm3 : (L' + 1, o1) ∈ led3 := sub3 _ hcm2
          subst hcl
          k_steps
          rename Fr _ _ _ _ => F9
          rename News _ _ _ _ => N9
          exact EltEnd.intro F9 N9 (fun _ h => h) ⟨x, hx, _, rfl⟩
        case k2 =>
          intro y new h' tk' F4 N4 hn4 po
          refine EltEnd.intro F4 N4 (fun _ h => List.mem_append_right _ h) ⟨r, hr, ?_⟩
          refine IL.mono _ _ _ _ (fun a o h => ⟨(N4 _ (List.mem_append_left _ h)).1, hn4 _ h⟩) (CompPost.toMap s2 (fun i v x O y e t => ?_) po)
          obtain ⟨x', f1, f2⟩ := t
          rw [e] at f1; cases f1; exact f2
      case k1 =>
        intro y new h' tk' F4 N4 hn4 po
        refine po.elim fun D ys hv8e w1 w2 w3 => ?_
        cases hv8e
        have e1 : RW (HG h') (.ref D) (p.rows.map fun r => r.map fun x => (2 ^ P.prec.toNat - 1) - x) := by
          refine RW.mono _ _ _ _ (fun a o h => (N4 _ (List.mem_append_left _ h)).1) (CompPost.toMap a2 (fun i v x O y e t => ?_) po)
          obtain ⟨x', f1, f2⟩ := t
          rw [e] at f1; cases f1; exact f2
        have e2 : RW (HG h') y r2 := RW.mono _ _ _ _ (fun a o h => (N4 _ (List.mem_append_right _ (sub _ (List.mem_append_left _ h)))).1) b1
        rw [← hr2] at e2
        refine e2.elim fun yb ybs ybn hv9e z1 z2 z3 => ?_
        cases hv9e
        k_steps
        unfold Stop
        rename Fr _ _ _ _ => F9
        rename News _ _ _ _ => N9
        refine ne_RW e1 e2 (by ktr_units) ?_
        k_steps
        · assumption
        · exact fun p hp => (show News _ _ _ _ by k_asm) p (List.mem_append_right _ hp)
    case kk =>
      intro u v h' tk' F6 N6
      k_steps
      unfold Stop
      rename Fr _ _ _ _ => F5
      rename News _ _ _ _ => N5
      rename PC _ _ _ => z0
      dsimp only at z0
      rw [List.map_map, show (invP (2 ^ P.prec.toNat - 1)) ∘ (invP (2 ^ P.prec.toNat - 1)) = id from funext (invP_invP _), List.map_id] at z0
      refine eff_use0 F5 N5 (same_picture_ok (by assumption) F5 (by assumption) (by assumption) (by exact rfl) (by exact rfl) (by ktr_room) (by ktr_units) (PC.mono _ _ _ _ (fun a o e => (N5 (a, o) (List.mem_append_left _ e)).1) z0) (PC.mono _ _ _ _ F5.keep hp) hn) ?_
      intro y h' tk' O F4 N4 hi hpost
      subst hpost
      k_steps
      exact BodyEnd.intro (by assumption) trivial rfl
end
end

section
open PySem PySem.W PyProof.Rows PyProof.Rows.LCg PySem.Calls
set_option maxRecDepth 100000
set_option maxHeartbeats 8000000
section
variable {w : World} {mean : ExcName → Option Value} {mg mb : Str → Option Value} {dp un : Nat} {gd : Option (List Code)} {env : Env} {outer : List Env} {A₀ : Around} {base h₀ : Heap} {L : Addr} {m : Str → Option Value} {s : Shared}

local macro_rules | `(tactic| k_inst) => `(tactic| exact inst_led (by k_asm) (by walk_at "km") (by walk_at "km"))
local macro_rules | `(tactic| walk_at "fn") => `(tactic| (apply rows_ok <;> walk_at "h"))
local macro_rules | `(tactic| walk_at "fn") => `(tactic| (apply inverted_ok <;> walk_at "h"))
local macro_rules | `(tactic| walk_at "fn") => `(tactic| (apply same_picture_ok <;> walk_at "h"))

local macro_rules | `(tactic| walk_at "call ref") => `(tactic| (k_here; refine Stop.ref [259] (by decide) ?_))
local macro_rules | `(tactic| walk_at "getAttr ref") => `(tactic| (k_here; (with_reducible show wpAny _ _ (getAttr (Value.ref _) (PySem.Str.ofString "message") _) _ _ _); k_dflt (refine get_msg (by assumption) (by assumption) (by assumption) (by assumption) (by assumption) (by assumption) ?_)))
local macro_rules | `(tactic| walk_at "fn") => `(tactic| (refine rows_okH (hv := some _) (by assumption) (by k_asm) (by assumption) (by assumption) (by exact rfl) (by exact rfl) (by ktr_room) (HOk.same (by assumption) rfl) (by k_allIn) (by assumption) (by assumption)))
theorem ne_str_t {prog : Program} {A : Around} {E : Value → Shared → Prop} {x y : Str} {t u : Tok} {Q : Value → Shared → Prop} (h : (x != y) = true) (q : Q (.bool true) s) : wpAny (model prog w) A (compareOp .NotEq (.str x t) (.str y u)) Q E s := PyProof.Rows.ne_str (by rw [h]; exact q)
local macro_rules | `(tactic| walk_at "compareOp NotEq str str") => `(tactic| (k_here; k_dflt (refine ne_str_t (by assumption) ?_)))
local macro_rules | `(tactic| walk_at "compareOp Eq ref ref") => `(tactic| walk_at "st")
theorem refused_ok {v : Value} {src goal : Str} {prec : Int} {planes : List Pln} {tm : Tok} (B : Below A₀ h₀ [] h₀) (F : Fr h₀ L s.heap m) (X : (KK w.params).In h₀) (T : Top VV LO mean mg mb h₀) (hf : env.frame = some L) (hk : env.scope.kind = .function) (hd : dp + 40 < recursionLimit)
    (hu : un + 400 < cLine) (okp : PairOk (src, goal)) (ls : src.length ≤ 8) (lg : goal.length ≤ 8) (hv : ¬ Valid src goal) (hp : PC (fun a o => s.heap.get? a = some o ∧ a ≠ L) v ⟨src, prec, planes⟩) (hn : planes.length ≤ 4) (ok : ∀ p ∈ planes, PlnOk p) :
    wpAny (model PR w) (AT dp un gd env []) (call (.ref 352) [v, .str goal tm]) (fun r s' => r = .bool true ∧ Ends h₀ s s') (fun _ _ => False) s := by
  refine hp.elim fun a d e1 e2 e3 t1 t2 t3 t4 t5 rv n hv1e h1 h2 h3 => ?_
  cases hv1e
  k_dflt (refine' call_V (P := fun r s' => r = .bool true ∧ Ends h₀ s s') ?kB ?kF ?kX ?kT ?kA ?kf ?kk ?ko ?kc ?kr ?kb ?kl ?_ ?c1 ?c2 ?c3 ?c4; (case kA => exact rfl); (case kB => assumption); (case kF => assumption); (case kX => assumption); (case kT => assumption); (case kf => assumption); (case kk => assumption); (case ko => k_is); (case kc => k_is); (case kr => ktr_room); (case kb => exact BindsTo.of_eq rfl); (case c4 => decide); (case kl => exact locs rfl); (case c1 => exact rfl); (case c2 => exact rfl); (case c3 => exact rfl))
  intro g L' h₁ F' N' B' X' T' G
  have hpL : PC (fun a o => g.get? a = some o ∧ a ≠ L) (.ref a) ⟨src, prec, planes⟩ := PC.mono _ _ _ _ (fun a o q => ⟨G a o q.1, q.2⟩) hp
  have hpG : PC (HG g) (.ref a) ⟨src, prec, planes⟩ := PC.mono _ _ _ _ (fun a o q => q.1) hpL
  clear hp G
  refine hpG.elim fun a' d e1 e2 e3 t1 t2 t3 t4 t5 rv n hv1e h1 h2 h3 => ?_
  cases hv1e
  replace h1 : g.get? a = some _ := h1
  replace h2 : g.get? d = some _ := h2
  dsimp only at h2 h3
  refine h3.elim fun pa pvs pn hv2e p1 p2 p3 => ?_
  cases hv2e
  k_unmd
  k_fold
  k_steps
  unfold Stop
  rename Fr _ _ _ _ => F9
  rename News _ _ _ _ => N9
  rename PRS _ _ _ => pr
  refine turned_raises B' F9 X' T' rfl rfl (by ktr_room) (by ktr_units) okp ls lg hv (PC.mono _ _ _ _ F9.keep hpG) (fun h' tk' ex dx R => ?_)
  refine catch44 B' X T F9 N9 hf R (by k_is) (fun g₂ h₂ tk₂ og B₂ X₂ T₂ F₂ N₂ C => ?_)
  obtain ⟨oe, vs, msg, mt, ce, cc, cd, cv, c2, cm, cne⟩ := C
  have hp₂ : PC (HG g₂) (.ref a) ⟨src, prec, planes⟩ := PC.mono _ _ _ _ (fun a o q => og _ _ q.1 q.2) hpL
  refine hp₂.elim fun a' d' e1' e2' e3' t1' t2' t3' t4' t5' rv' n' hv3e h1' h2' h3' => ?_
  cases hv3e
  replace h1' : g₂.get? a = some _ := h1'
  replace h2' : g₂.get? d' = some _ := h2'
  dsimp only at h2' h3'
  refine h3'.elim fun pa' pvs' pn' hv4e p1' p2' p3' => ?_
  cases hv4e
  have hne : (msg != Str.ofString "") = true := bne_iff_ne.mpr cne
  have X6 : (KK w.params).In h₂ := X₂.keeps F₂.keep
  have hok : HOk (ATh (some (.ref ex)) 0 0 none env []) h₂ := fun v z => by cases z; exact ⟨_, _, _, rfl, ce, cv, c2⟩
  clear F9 N9 h1 h2 h3 p1 p2 p3 R B' X' T' hpL hpG
  k_steps
  unfold Stop
  rename Fr _ _ _ _ => F8
  rename News _ _ _ _ => N8
  rename PRS (fun a o => (a, o) ∈ _) _ _ => z2
  refine eq_PRS (PRS.mono _ _ _ _ (fun a o q => (N8 (a, o) (List.mem_append_left _ q)).1) z2) (PRS.mono _ _ _ _ (fun a o q => (N8 (a, o) (List.mem_append_right _ (List.mem_append_left _ q))).1) pr) (by ktr_units) ?_
  refine wpAny_nameGoes (by rfl) F8.ns (by rfl) fun h9 m9 _ hs9 => ?_
  exact ⟨rfl, fun b o q => (hs9.2 b (fun z => absurd (Heap.lt_size (B₂.stays b o q)) (by rw [show b = L' from z]; exact Nat.not_lt.mpr F8.above))).trans (F8.keep _ _ (B₂.stays b o q)), rfl, rfl⟩
end
end

section
open PySem PySem.Calls PySem.W PyProof.Rows
set_option maxRecDepth 100000
set_option maxHeartbeats 4000000
section
variable {w : World} {s : Shared} {mg mb : Str → Option Value} {mean : ExcName → Option Value}
  {name qual : Str} {params : Arguments} {body : List Stmt} {scope : Scope} {dV kV doc pm cdv ct oc : Value} {an od : Option Addr} {osl : Array (Option Value)} {f : Addr} {vals : List Value} {binds : List (Str × Value)}
/-- the claim's own call -/
theorem enter_top (X : (KK w.params).In s.heap) (T : Top VV LO mean mg mb s.heap)
    (ho : (KK w.params).lookup f = some ⟨oc, od, .func (fnOf name qual params body scope dV kV doc pm an cdv ct), osl⟩) (hcd : codeIn (KK w.params) cdv qual = true)
    (hbind : BindsTo s (fnOf name qual params body scope dV kV doc pm an cdv ct) ⟨vals, []⟩ binds) (hloc : ∀ y ∈ binds, scope.names.lookup y.1 = some .local)
    (h : ∀ L h₁ dp un gd, Fr s.heap L h₁ (fun y => binds.reverse.lookup y) → News s.heap L h₁ [] → Below callerA s.heap [] s.heap → dp + 100 < recursionLimit → un + 1000 < cLine →
      wpAny (model PR w) (AT dp un gd (envOf qual scope L f cdv) []) (execs body (envOf qual scope L f cdv)) (fun fl s' => fl = .ret (.bool true) ∧ Ends s.heap s s') (fun _ _ => False) { s with heap := h₁, toks := s.toks + binds.length })
    (hco : scope.isCoroutine = false) (hgen : scope.isGenerator = false) (hk : scope.kind = .function) (hcell : ∀ x ∈ scope.names, x.2 ≠ .cell) :
    codeAny (model PR w) callerA (.call (.ref f) ⟨vals, []⟩) (fun r s' => r = .ok (.ret (.bool true)) ∧ Ends s.heap s s') s := by
  refine codeAny_call_def (fd := fnX name qual params body scope [] dV kV doc pm an cdv ct) (body := body) (binds := binds) (by decide +kernel) (X _ _ ho) rfl T.nolimit (codeRec_of X hcd) rfl hbind hcell hloc (fun h₁ hns hk₁ => ?_) hco hgen hk
  exact wpAny_mono (h s.heap.objs.size h₁ _ _ _ ⟨hns, hk₁, Nat.le_refl _⟩ News.nil (below_caller _) (show callerA.depth + 1 + 100 < recursionLimit by decide +kernel) (show callerA.units + 3 + 1000 < cLine by decide +kernel)) (fun fl s' e => ⟨by rw [e.1], e.2⟩) fun _ _ e => e.elim
end
end

section
open PySem PySem.W PyProof.Rows PyProof.Rows.LCg PySem.Calls
set_option maxRecDepth 100000
set_option maxHeartbeats 8000000

theorem fmod_lo (x : Int) {k : Int} (h : 0 < k) : 0 ≤ x.fmod k := by rw [Int.fmod_eq_emod_of_nonneg _ (by omega)]; exact Int.emod_nonneg _ (by omega)
theorem fmod_hi (x : Int) {k : Int} (h : 0 < k) : x.fmod k < k := by rw [Int.fmod_eq_emod_of_nonneg _ (by omega)]; exact Int.emod_lt_of_pos _ h
theorem fdiv_lo {x : Int} {k : Int} (h0 : 0 ≤ x) (h : 0 < k) : 0 ≤ x.fdiv k := by rw [Int.fdiv_eq_ediv_of_nonneg _ (by omega)]; exact Int.ediv_nonneg h0 (by omega)
theorem mul_src {prog : Program} {w : World} {A : Around} {s : Shared} {a x y : Int} {t u : Tok} {Q E : Value → Shared → Prop} (h : Q (.int ([a, x.fmod 2147483647].getD (Int.toNat 1) 0 * y) s.toks) { s with toks := s.toks + 1 }) :
    wpAny (model prog w) A (binaryOp .Mult (.int ([a, x.fmod 2147483647].getD (Int.toNat 1) 0) t) (.int y u)) Q E s := by
  refine mul_int h (IntMulOk.of_left (intBits_le_64 ?_ ?_))
  · show -(2 ^ 64) < x.fmod 2147483647
    have := fmod_lo x (k := 2147483647) (by decide); omega
  · show x.fmod 2147483647 < 2 ^ 64
    have := fmod_hi x (k := 2147483647) (by decide); omega
section
variable {w : World} {mean : ExcName → Option Value} {mg mb : Str → Option Value} {dp un : Nat} {gd : Option (List Code)} {env : Env} {outer : List Env} {A₀ : Around} {base h₀ : Heap} {L : Addr} {m : Str → Option Value} {s : Shared}

local macro_rules | `(tactic| walk_at "binaryOp Mult int int") => `(tactic| (refine mul_src ?_))
theorem take_ok {src : Addr} {o : Obj} {top : Int} {tt : Tok}
    (B : Below A₀ base outer h₀) (F : Fr h₀ L s.heap m) (X : (KK w.params).In h₀) (T : Top VV LO mean mg mb h₀) (hf : env.frame = some L) (hk : env.scope.kind = .function) (hd : dp + 5 < recursionLimit) (hu : un + 200 < cLine)
    (N : News h₀ L s.heap [(src, o)]) (ho : SrcOk o) (ht : 1 ≤ top) (ht' : top ≤ 1000) :
    Eff (model PR w) (AT dp un gd env outer) (call (.ref 299) [.ref src, .int top tt]) s [src] (SrcAt src) (fun _ r => ∃ d t, r = .int d t ∧ 0 ≤ d ∧ d < top) := by
  obtain ⟨a, ta, b, tb, n, rfl, ha, hb, hb'⟩ := ho
  k_dflt ((refine' call_E (Wn := [(_, _)]) ?kB ?kF ?kX ?kT ?kA ?kf ?kk ?kN ?ko ?kc ?kr ?kb ?kl ?km ?_ ?c1 ?c2 ?c3 ?c4; (case kN => assumption); (case kA => exact rfl); (case kB => assumption); (case kF => assumption); (case kX => assumption); (case kT => assumption); (case kf => assumption); (case kk => assumption); (case ko => k_is); (case kc => k_is); (case kr => ktr_room); (case kb => exact BindsTo.of_eq rfl); (case c4 => decide); (case kl => exact locs rfl); (case c1 => exact rfl); (case c2 => exact rfl); (case c3 => exact rfl)))
  case km => exact fun _ _ _ _ h => h
  intro g L' h₁ F' N' B' X' T' G'
  k_fold
  k_steps
  all_goals
    rename News _ _ _ _ => N9
    refine BodyEnd.intro (by assumption) ⟨_, (N9 _ (List.Mem.head _)).1, _, _, _, _, _, rfl, ?_, ?_, ?_⟩ ⟨_, _, rfl, fmod_lo _ (by omega), fmod_hi _ (by omega)⟩
  · exact fdiv_lo ha (by omega)
  · exact hb
  · exact hb'
  · exact ha
  · exact fmod_lo _ (by decide)
  · exact fmod_hi _ (by decide)
end
end

section
open PySem PySem.W PyProof.Rows PyProof.Rows.LCg PySem.Calls
set_option maxRecDepth 100000
set_option maxHeartbeats 8000000
section
local macro_rules | `(tactic| walk_at "zz") => `(tactic| skip)
variable {w : World} {mean : ExcName → Option Value} {mg mb : Str → Option Value} {dp un : Nat} {gd : Option (List Code)} {env : Env} {outer : List Env} {A₀ : Around} {base h₀ : Heap} {L : Addr} {m : Str → Option Value} {s : Shared}

theorem big_lo (x : Int) : 0 ≤ if -1 - x > x then -1 - x else x := by split <;> omega
theorem pool_lo (x : Int) (p : Prop) [Decidable p] : 0 ≤ (if -1 - x > x then -1 - x else x) * (if p then 1 else 0) := Int.mul_nonneg (big_lo x) (by split <;> decide)
inductive CutX (g : Heap) (L : Addr) (x : Str) (P : Option Value → Prop) (m : Str → Option Value) (led : List (Addr × Obj)) (s : Shared) (f : Flow) (s' : Shared) : Prop
  | mk : f = .next → ∀ h' tk' u, s' = { s with heap := h', toks := tk' } → P u → Fr g L h' (fun z => if z = x then u else m z) → News g L h' led → CutX g L x P m led s f s'
theorem cutX {M : Model} {A : Around} {t : Sem Flow} {g : Heap} {L : Addr} {m : Str → Option Value} {x : Str} (P : Option Value → Prop) {led : List (Addr × Obj)} {s : Shared} {Q : Flow → Shared → Prop} {E : Value → Shared → Prop} (_ : Fr g L s.heap m) (_ : News g L s.heap led) (h : wpAny M A t (CutX g L x P m led s) (fun _ _ => False) s)
    (k : ∀ h' tk' u, P u → Fr g L h' (fun z => if z = x then u else m z) → News g L h' led → Q .next { s with heap := h', toks := tk' }) : wpAny M A t Q E s :=
  wpAny_mono h (fun f s' hc => by obtain ⟨rfl, h', tk', u, rfl, p, F, N⟩ := hc; exact k h' tk' u p F N) fun _ _ e => e.elim
theorem CutX.same {g : Heap} {L : Addr} {x : Str} {P : Option Value → Prop} {m : Str → Option Value} {led : List (Addr × Obj)} {s : Shared} {h' : Heap} {tk' : Nat} (F : Fr g L h' m) (p : P (m x)) (N : News g L h' led) : CutX g L x P m led s .next { s with heap := h', toks := tk' } :=
  ⟨rfl, h', tk', m x, rfl, p, by rw [← but_self]; exact F, N⟩
local macro_rules | `(tactic| walk_at "exec If") => `(tactic| (k_here; (fail_if_success (with_reducible show wpAny _ _ _ (CutX _ _ _ _ _ _ _) _ _)); walk_at "st"))
theorem pool_ok {a : Addr} {vs : List Value} {ns : List Int} {t0 : Tok} (B : Below A₀ base outer h₀) (F : Fr h₀ L s.heap m) (X : (KK w.params).In h₀) (T : Top VV LO mean mg mb h₀) (hf : env.frame = some L) (hk : env.scope.kind = .function) (hd : dp + 5 < recursionLimit) (hu : un + 200 < cLine) (hl : s.heap.IsList a vs.toArray) (h2 : IntsAre vs ns) (hn : ns.length ≤ 63) :
    Eff (model PR w) (AT dp un gd env outer) (call (.ref 292) [.ref a, .int 0 t0]) s [] (fun _ => True) (fun O r => ∃ l o, r = .ref l ∧ O l o ∧ SrcOk o) := by
  k_dflt ((refine' call_E (Wn := []) ?kB ?kF ?kX ?kT ?kA ?kf ?kk News.nil ?ko ?kc ?kr ?kb ?kl ?km ?_ ?c1 ?c2 ?c3 ?c4; (case kA => exact rfl); (case kB => assumption); (case kF => assumption); (case kX => assumption); (case kT => assumption); (case kf => assumption); (case kk => assumption); (case ko => k_is); (case kc => k_is); (case kr => ktr_room); (case kb => exact BindsTo.of_eq rfl); (case c4 => decide); (case kl => exact locs rfl); (case c1 => exact rfl); (case c2 => exact rfl); (case c3 => exact rfl)))
  case km => exact fun O O' v k ⟨l, o, a, b, c⟩ => ⟨l, o, a, k _ _ b, c⟩
  intro g L' h₁ F' N' B' X' T' G'
  have G := gsub_nil G'
  replace hl : g.IsList a vs.toArray := hl.at fun o e => G _ o e
  have hlen := h2.length
  clear G'
  k_unmd
  k_fold
  (repeat' (first | (k_unfold; (try dsimp only)) | (k_end; wrow_close) | (walk1 <;> (try dsimp only)) | (dsimp only; walk1) | (leave1; try dsimp only) | fail "no step"))
  unfold Stop
  rename Fr _ _ _ _ => F9
  rename News _ _ _ _ => N9
  with_reducible refine cutX (x := Str.ofString "cell") (fun u => ∃ c t, u = some (.int c t)) F9 N9 ?cutQ ?nxtQ
  case cutQ =>
    (repeat' (first | (k_unfold; (try dsimp only)) | (k_end; wrow_close) | (walk1 <;> (try dsimp only)) | (dsimp only; walk1) | (leave1; try dsimp only) | fail "no step"))
    · rename Fr _ _ _ _ => F8
      rename News _ _ _ _ => N8
      exact ⟨rfl, _, _, _, rfl, ⟨_, _, rfl⟩, F8, News.nil⟩
    · rename Fr _ _ _ _ => F8
      rename News _ _ _ _ => N8
      exact CutX.same F8 ⟨_, _, rfl⟩ News.nil
  case nxtQ =>
    rintro h' tk' u ⟨c, t, rfl⟩ F8 N8
    clear F9 N9
    (repeat' (first | (k_unfold; (try dsimp only)) | (k_end; wrow_close) | (walk1 <;> (try dsimp only)) | (dsimp only; walk1) | (leave1; try dsimp only) | fail "no step"))
    all_goals
      rename Fr _ _ _ _ => F7
      rename News _ _ _ _ => N7
      exact BodyEnd.pure (fun O O' v k ⟨l, o, a, b, c⟩ => ⟨l, o, a, k _ _ b, c⟩) F7 N7 ⟨_, _, rfl, .head _, _, _, _, _, _, rfl, pool_lo _ _, fmod_lo _ (by decide), fmod_hi _ (by decide)⟩
end
end

section
open PySem PySem.W PyProof.Rows PyProof.Rows.LCg PySem.Calls
set_option maxRecDepth 100000
set_option maxHeartbeats 8000000
section
variable {w : World} {mean : ExcName → Option Value} {mg mb : Str → Option Value} {dp un : Nat} {gd : Option (List Code)} {env : Env} {outer : List Env} {A₀ : Around} {base h₀ : Heap} {L : Addr} {m : Str → Option Value} {s : Shared}

noncomputable def fileF (m : Str) : Str := if m = "rgb" then "ycc" else if m = "cmyk" then "ycck" else m
noncomputable def shownF (m : Str) : Str := if m = "ycc" then "rgb" else if m = "ycck" then "cmyk" else m
theorem flat_file {m' : Str} {v : Value} {t1 t2 t3 t4 : Tok} (hm : m' ∈ modelsL) (h : PyProof.V.Flat v ((PySem.Spec.lookup (PyData.str m') (strData [(.str "rgb" t1, .str "ycc" t2), (.str "cmyk" t3, .str "ycck" t4)])).getD (PyData.str m'))) : ∃ u, v = .str (fileF m') u := by
  simp only [modelsL, List.mem_cons, List.not_mem_nil, or_false] at hm
  rcases hm with rfl | rfl | rfl | rfl | rfl | rfl <;> (simp only [strData] at h; dict_open h; exact ⟨_, rfl⟩)
theorem file_ok {m' : Str} {t : Tok} (B : Below A₀ base outer h₀) (F : Fr h₀ L s.heap m) (X : (KK w.params).In h₀) (T : Top VV LO mean mg mb h₀) (hf : env.frame = some L) (hk : env.scope.kind = .function) (hd : dp + 5 < recursionLimit) (hm : m' ∈ modelsL) : Eff (model PR w) (AT dp un gd env outer) (call (.ref 271) [.str m' t]) s [] (fun _ => True) (fun _ r => ∃ u, r = .str (fileF m') u) := by
  k_dflt ((refine' call_E (Wn := []) ?kB ?kF ?kX ?kT ?kA ?kf ?kk News.nil ?ko ?kc ?kr ?kb ?kl ?km ?_ ?c1 ?c2 ?c3 ?c4; (case kA => exact rfl); (case kB => assumption); (case kF => assumption); (case kX => assumption); (case kT => assumption); (case kf => assumption); (case kk => assumption); (case ko => k_is); (case kc => k_is); (case kr => ktr_room); (case kb => exact BindsTo.of_eq rfl); (case c4 => decide); (case kl => exact locs rfl); (case c1 => exact rfl); (case c2 => exact rfl); (case c3 => exact rfl)))
  case km => exact fun _ _ _ _ h => h
  intro g L' h₁ F' N' B' X' T' G'
  clear G'
  k_unmd
  k_fold
  repeat' (first | (k_unfold; (try dsimp only)) | (k_end; wrow_close) | (walk1 <;> (try dsimp only)) | (dsimp only; walk1) | (leave1; try dsimp only))
  rename PyProof.V.Flat _ _ => hfl
  exact BodyEnd.intro (by assumption) trivial (flat_file hm hfl)
theorem flat_shown {m' : Str} {v : Value} {t1 t2 t3 t4 : Tok} (hm : m' ∈ modelsL) (h : PyProof.V.Flat v ((PySem.Spec.lookup (PyData.str m') (strData [(.str "ycc" t1, .str "rgb" t2), (.str "ycck" t3, .str "cmyk" t4)])).getD (PyData.str m'))) : ∃ u, v = .str (shownF m') u := by
  simp only [modelsL, List.mem_cons, List.not_mem_nil, or_false] at hm
  rcases hm with rfl | rfl | rfl | rfl | rfl | rfl <;> (simp only [strData] at h; dict_open h; exact ⟨_, rfl⟩)
theorem shown_ok {m' : Str} {t : Tok} (B : Below A₀ base outer h₀) (F : Fr h₀ L s.heap m) (X : (KK w.params).In h₀) (T : Top VV LO mean mg mb h₀) (hf : env.frame = some L) (hk : env.scope.kind = .function) (hd : dp + 5 < recursionLimit) (hm : m' ∈ modelsL) : Eff (model PR w) (AT dp un gd env outer) (call (.ref 278) [.str m' t]) s [] (fun _ => True) (fun _ r => ∃ u, r = .str (shownF m') u) := by
  k_dflt ((refine' call_E (Wn := []) ?kB ?kF ?kX ?kT ?kA ?kf ?kk News.nil ?ko ?kc ?kr ?kb ?kl ?km ?_ ?c1 ?c2 ?c3 ?c4; (case kA => exact rfl); (case kB => assumption); (case kF => assumption); (case kX => assumption); (case kT => assumption); (case kf => assumption); (case kk => assumption); (case ko => k_is); (case kc => k_is); (case kr => ktr_room); (case kb => exact BindsTo.of_eq rfl); (case c4 => decide); (case kl => exact locs rfl); (case c1 => exact rfl); (case c2 => exact rfl); (case c3 => exact rfl)))
  case km => exact fun _ _ _ _ h => h
  intro g L' h₁ F' N' B' X' T' G'
  clear G'
  k_unmd
  k_fold
  repeat' (first | (k_unfold; (try dsimp only)) | (k_end; wrow_close) | (walk1 <;> (try dsimp only)) | (dsimp only; walk1) | (leave1; try dsimp only))
  rename PyProof.V.Flat _ _ => hfl
  exact BodyEnd.intro (by assumption) trivial (flat_shown hm hfl)

local macro_rules | `(tactic| walk_at "exec For") => `(tactic| walk_at "st")
local macro_rules | `(tactic| walk_at "exec For Tuple List cons nil") => `(tactic| walk_at "st")
local macro_rules | `(tactic| walk_at "fn") => `(tactic| (apply file_ok <;> walk_at "h"))
local macro_rules | `(tactic| walk_at "fn") => `(tactic| (apply shown_ok <;> walk_at "h"))
noncomputable def filesL : List (Str × Str) := [("rgb", "ycc"), ("cmyk", "ycck"), ("grey", "grey"), ("raw", "raw"), ("ycc", "ycc"), ("ycck", "ycck")]
noncomputable def shownL : List (Str × Str) := [("rgb", "rgb"), ("cmyk", "cmyk"), ("grey", "grey"), ("raw", "raw"), ("ycc", "rgb"), ("ycck", "cmyk")]
theorem files_ok : ∀ p ∈ filesL, p.1 ∈ modelsL ∧ fileF p.1 = p.2 := by
  intro p hp
  simp only [filesL, List.mem_cons, List.not_mem_nil, or_false] at hp
  rcases hp with rfl | rfl | rfl | rfl | rfl | rfl <;> decide
theorem showns_ok : ∀ p ∈ shownL, p.1 ∈ modelsL ∧ shownF p.1 = p.2 := by
  intro p hp
  simp only [shownL, List.mem_cons, List.not_mem_nil, or_false] at hp
  rcases hp with rfl | rfl | rfl | rfl | rfl | rfl <;> decide
theorem models_ok (B : Below A₀ base outer h₀) (F : Fr h₀ L s.heap m) (X : (KK w.params).In h₀) (T : Top VV LO mean mg mb h₀) (hf : env.frame = some L) (hk : env.scope.kind = .function) (hd : dp + 15 < recursionLimit) (hu : un + 400 < cLine) :
    Eff (model PR w) (AT dp un gd env outer) (call (.ref 325) []) s [] (fun _ => True) (fun _ r => r = .bool true) := by
  k_dflt ((refine' call_E (Wn := []) ?kB ?kF ?kX ?kT ?kA ?kf ?kk News.nil ?ko ?kc ?kr ?kb ?kl ?km ?_ ?c1 ?c2 ?c3 ?c4; (case kA => exact rfl); (case kB => assumption); (case kF => assumption); (case kX => assumption); (case kT => assumption); (case kf => assumption); (case kk => assumption); (case ko => k_is); (case kc => k_is); (case kr => ktr_room); (case kb => exact BindsTo.of_eq rfl); (case c4 => decide); (case kl => exact locs rfl); (case c1 => exact rfl); (case c2 => exact rfl); (case c3 => exact rfl)))
  case km => exact fun _ _ _ _ h => h
  intro g L' h₁ F' N' B' X' T' G'
  clear G'
  k_unmd
  k_fold
  k_steps
  unfold Stop
  rename Fr _ _ _ _ => F9
  with_reducible refine for_pairs (ps := filesL) (g := g) (L := L') (m := ?mm) ?f ?d1 ?d2 ?d3 ?c1 ?c2 ?c3 ?c4 ?hit ?c5
  case f => exact F9
  case d1 => rfl
  case d2 => rfl
  case d3 => exact PassesOwn.never
  case c1 => decide
  case c2 => rfl
  case c3 => rfl
  case c4 => rfl
  case c5 => intro _; rfl
  case hit =>
    k_steps
    rename Fr _ _ _ _ => F8
    rename News _ _ _ _ => N8
    refine ⟨_, [_, _, _, _, _, _], _, _, rfl, F8, N8, .head _, rfl, fun i v p e1 e2 => ?items, ?turn, ?done⟩
    case items =>
      refine six (R := fun v p => ∃ T t u k, v = Value.ref T ∧ (T, tup2 p.1 p.2 t u k) ∈ (_ : List (Addr × Obj))) ?_ ?_ ?_ ?_ ?_ ?_ i v p e1 e2
      · exact ⟨_, _, _, _, rfl, .tail _ (.tail _ (.tail _ (.tail _ (.tail _ (.tail _ (.head _))))))⟩
      · exact ⟨_, _, _, _, rfl, .tail _ (.tail _ (.tail _ (.tail _ (.tail _ (.head _)))))⟩
      · exact ⟨_, _, _, _, rfl, .tail _ (.tail _ (.tail _ (.tail _ (.head _))))⟩
      · exact ⟨_, _, _, _, rfl, .tail _ (.tail _ (.tail _ (.head _)))⟩
      · exact ⟨_, _, _, _, rfl, .tail _ (.tail _ (.head _))⟩
      · exact ⟨_, _, _, _, rfl, .tail _ (.head _)⟩
    case turn =>
      rintro ⟨a, b⟩ hab t u h tk led' sub F7 N7
      obtain ⟨hm, hd⟩ := files_ok _ hab
      dsimp only at hm hd F7 ⊢
      subst hd
      clear hab
      k_steps
      all_goals first | (exfalso; exact absurd ‹(fileF a != fileF a) = true› (by simp)) | assumption
    case done =>
      intro u v h' tk' F7 N7
      clear N8 F8
      k_steps
      unfold Stop
      rename Fr _ _ _ _ => F6
      with_reducible refine for_pairs (ps := shownL) (g := g) (L := L') (m := ?mm2) ?f2 ?d12 ?d22 ?d32 ?c12 ?c22 ?c32 ?c42 ?hit2 ?c52
      case f2 => exact F6
      case d12 => rfl
      case d22 => rfl
      case d32 => exact PassesOwn.never
      case c12 => decide
      case c22 => rfl
      case c32 => rfl
      case c42 => rfl
      case c52 => intro _; rfl
      case hit2 =>
        k_steps
        rename Fr _ _ _ _ => F5
        rename News _ _ _ _ => N5
        refine ⟨_, [_, _, _, _, _, _], _, _, rfl, F5, N5, .head _, rfl, fun i v p e1 e2 => ?items2, ?turn2, ?done2⟩
        case items2 =>
          refine six (R := fun v p => ∃ T t u k, v = Value.ref T ∧ (T, tup2 p.1 p.2 t u k) ∈ (_ : List (Addr × Obj))) ?_ ?_ ?_ ?_ ?_ ?_ i v p e1 e2
          · exact ⟨_, _, _, _, rfl, .tail _ (.tail _ (.tail _ (.tail _ (.tail _ (.tail _ (.head _))))))⟩
          · exact ⟨_, _, _, _, rfl, .tail _ (.tail _ (.tail _ (.tail _ (.tail _ (.head _)))))⟩
          · exact ⟨_, _, _, _, rfl, .tail _ (.tail _ (.tail _ (.tail _ (.head _))))⟩
          · exact ⟨_, _, _, _, rfl, .tail _ (.tail _ (.tail _ (.head _)))⟩
          · exact ⟨_, _, _, _, rfl, .tail _ (.tail _ (.head _))⟩
          · exact ⟨_, _, _, _, rfl, .tail _ (.head _)⟩
        case turn2 =>
          rintro ⟨a, b⟩ hab t u h tk led' sub F7 N7
          obtain ⟨hm, hd⟩ := showns_ok _ hab
          dsimp only at hm hd F7 ⊢
          subst hd
          clear hab
          k_steps
          all_goals first | (exfalso; exact absurd ‹(shownF a != shownF a) = true› (by simp)) | assumption
        case done2 =>
          intro u v h' tk' F7 N7
          k_steps
          exact BodyEnd.intro (by assumption) trivial rfl
end
end

section
open PySem PySem.W PyProof.Rows PyProof.Rows.LCg PySem.Calls
set_option maxRecDepth 100000
set_option maxHeartbeats 4000000
section
variable {prog : Program} {w : World} {A : Around} {env : Env}
/-- a comprehension's block whose test is false for every item -/
theorem block_N {elt iter test : Expr} {x : Str} {px : Pos} {scope : Scope} {cl : List (Str × Addr)} {pos : Pos} {s₂ : Shared} {I : Addr} {fp Wm : List Addr} {n : Nat} {P : Nat → Value → Prop} {St : Nat → Heap → Prop}
    {Inv : Heap → Prop} {E : Value → Shared → Prop} {RR : Value → Addr → Result → Shared → Prop}
    (W : Walks prog w A I fp [I] n P St) (hkind : scope.kind = .function)
    (hx : (relabel scope env).names.lookup x = some .local)
    (hst : St 0 s₂.heap) (hfp : ∀ b ∈ fp, b < s₂.heap.objs.size) (hWl : ∀ b ∈ Wm, b < s₂.heap.objs.size) (hWf : ∀ b ∈ Wm, b ∉ fp)
    (hIs : ∀ h h', Inv h → (∀ b ∈ Wm, ∀ o, h.get? b = some o → h'.get? b = some o) → Inv h') (inv0 : Inv s₂.heap)
    (htest : ∀ C i v (s : Shared) cl', (∃ h tk, s = { s₂ with heap := h, toks := tk }) → cl' = cellsFrom (C + 1) scope.names cl → i < n ∧ s₂.heap.objs.size ≤ C → P i v → Stays (I :: Wm) s₂.heap s.heap → Inv s.heap → Holds (compEnvC scope cl' C env) x v s.heap →
      Eff (model prog w) A (isTrue test (compEnvC scope cl' C env) (eval test (compEnvC scope cl' C env))) s Wm Inv (fun _ ok => ok = false))
    (hRR : ∀ D C h tk m', s₂.heap.get? D = none → s₂.heap.get? C = none → C ≠ D → h.Ns C m' → h.get? D = some (lst []) → Stays (I :: Wm) s₂.heap h → Inv h → RR (.ref D) C (.ok .next) { s₂ with heap := h, toks := tk }) :
    wpAny (model prog w) A (newList []) (fun acc s₃ => wpAny (model prog w) A (newFunctionEnv scope env.globals cl [] env.qual none .none (some env)) (fun cenv s₄ =>
      codeAny (model prog w) A (.compStart (.ListComp elt [⟨.Name x px, iter, [test], 0⟩] scope pos) 0 (.ref I) acc { cenv with scope := relabel scope env }) (RR acc cenv.locals) s₄) E s₃) E s₂ := by
  refine wpAny_newObj_type (blockEnv ?_)
  dsimp only [newEnv]
  have hIlt : I < s₂.heap.objs.size := hfp I (W.sub I (List.mem_singleton.mpr rfl))
  generalize hDd : s₂.heap.objs.size = D at hfp hWl hIlt
  generalize hHd : s₂.heap.push { cls := .type "list", dict := none, data := .seq ([] : List Value).toArray } = H₂
  have hCs : H₂.objs.size = D + 1 := by rw [← hHd, Heap.size_push, hDd]
  rw [hCs]
  generalize hH1 : pushCells (H₂.push { cls := .type "dict", data := .dict #[] }) scope.names = H₁
  have old : ∀ b o, s₂.heap.get? b = some o → H₁.get? b = some o := fun b o e => by
    rw [← hH1]; exact pushCells_keeps _ _ _ _ (Heap.get?_push_of_some _ (hHd ▸ Heap.get?_push_of_some _ e))
  have hD₁ : H₁.get? D = some (lst []) := by
    rw [← hH1]; refine pushCells_keeps _ _ _ _ (Heap.get?_push_of_some _ ?_); rw [← hHd, ← hDd]; exact Heap.get?_push_size _ rfl
  have hC₁ : H₁.Ns (D + 1) fun _ => none := by
    rw [← hH1, ← hCs]; exact (Heap.Ns.new H₂ (.type "dict")).keeps (pushCells_keeps _ _)
  have ge := ownX_ge (env := env) (C := D + 1) (cl := cl) (.inl hx)
  have pl₁ : Placed (compEnvC scope (cellsFrom (D + 1 + 1) scope.names cl) (D + 1) env) x H₁ := .inl hx
  generalize hcl : cellsFrom (D + 1 + 1) scope.names cl = cl' at ge pl₁
  have fresh : ∀ a, D ≤ a → s₂.heap.get? a = none := fun a ha => by
    cases e : s₂.heap.get? a with
    | none => rfl
    | some o' => exact absurd (Heap.lt_size e) (Nat.not_lt.mpr (hDd ▸ ha))
  have hkE : (compEnvC scope cl' (D + 1) env).scope.kind = .function := hkind
  have hnW : ∀ b, D ≤ b → b ∉ Wm := fun b hb hm => absurd (hWl b hm) (Nat.not_lt.mpr hb)
  have hnF : ∀ b, D ≤ b → b ∉ fp := fun b hb hm => absurd (hfp b hm) (Nat.not_lt.mpr hb)
  have hIW : I ∉ Wm := fun hm => hWf I hm (W.sub I (List.mem_singleton.mpr rfl))
  have nOwn : ∀ b, b < D → b ∉ ownX (compEnvC scope cl' (D + 1) env) x := fun b hb hm => absurd (ge b hm) (by omega)
  have dOwn : D ∉ ownX (compEnvC scope cl' (D + 1) env) x := fun hm => absurd (ge D hm) (by omega)
  have hst₁ : St 0 H₁ := W.frame _ _ _ hst fun b _ o e => old b o e
  have nDI : D ∉ [I] := fun z => absurd (show I < D from hIlt) (by rw [← show D = I from List.mem_singleton.mp z]; exact Nat.lt_irrefl _)
  have nCI : (D + 1) ∉ [I] := fun z => absurd (show I < D from hIlt) (by rw [← show D + 1 = I from List.mem_singleton.mp z]; exact Nat.not_lt.mpr (Nat.le_succ _))
  have loop : ∀ s₃ : Shared, s₃ = { s₂ with heap := H₁ } →
      codeAny (model prog w) A (.compLoop (.ListComp elt [⟨.Name x px, iter, [test], 0⟩] scope pos) 0 (.ref I) (.ref D) (compEnvC scope cl' (D + 1) env)) (RR (.ref D) (D + 1)) s₃ := by
    rintro s₃ rfl
    refine codeAny_compLoop_tests
      (fun k s' => ∃ H tk i, s' = { s₂ with heap := H, toks := tk } ∧ i ≤ n ∧ k = n + 1 - i ∧ St i H ∧ H.get? D = some (lst []) ∧ (∃ m, H.Ns (D + 1) m) ∧ Placed (compEnvC scope cl' (D + 1) env) x H ∧ Stays (I :: Wm) s₂.heap H ∧ Inv H) ?_ (n + 1)
      ⟨H₁, _, 0, rfl, Nat.zero_le _, rfl, hst₁, hD₁, ⟨_, hC₁⟩, pl₁, .of old, hIs _ _ inv0 (fun b _ o e => old b o e)⟩
    rintro k s' ⟨H, tk, i, rfl, hi, rfl, hst', hD', hC', pl', st', inv'⟩
    by_cases hlt : i < n
    · refine W.item i _ _ _ hlt hst' fun v h₁ tk₁ hPv hs₁ hk₁ => ?_
      have k1 : Stays [I] H h₁ := hk₁
      have C1 : ∃ m, h₁.Ns (D + 1) m := by obtain ⟨m, hm⟩ := hC'; exact ⟨m, hm.at' fun o e => k1 _ o nCI e⟩
      have pl1 : Placed (compEnvC scope cl' (D + 1) env) x h₁ := .inl hx
      refine store_E hkE pl1 C1 fun h₂ tk₂ ho2 pl2 C2 k2 => ?_
      have hs2 : St (i + 1) h₂ := W.frame _ _ _ hs₁ fun b hb o e => k2 b o (nOwn b (hfp b hb)) e
      have st2 : Stays (I :: Wm) s₂.heap h₂ := fun b o q e => k2 b o (nOwn b (hDd ▸ Heap.lt_size e)) (k1 b o (fun z => q (by rw [List.mem_singleton.mp z]; exact .head _)) (st' b o q e))
      have inv2 : Inv h₂ := hIs _ _ inv' fun b hb o e => k2 b o (nOwn b (hWl b hb)) (k1 b o (fun z => hIW (List.mem_singleton.mp z ▸ hb)) e)
      refine wpAny_tests_one (Eff.use (htest (D + 1) i v { s₂ with heap := h₂, toks := tk₂ } cl' ⟨_, _, rfl⟩ hcl.symm ⟨hlt, by rw [hDd]; exact Nat.le_succ _⟩ hPv st2 inv2 ho2) fun y h₃ tk₃ k3 inv3 t3 => ?_)
      subst t3
      simp only [Bool.false_eq_true, if_false]
      have hD2 : h₂.get? D = some (lst []) := k2 D _ dOwn (k1 D _ nDI hD')
      have hD3 : h₃.get? D = some (lst []) := k3 D _ (hnW D (Nat.le_refl _)) hD2
      refine ⟨n + 1 - (i + 1), by omega, h₃, tk₃, i + 1, rfl, hlt, rfl, ?_, hD3, ?_, .inl hx, ?_, inv3⟩
      · exact W.frame _ _ _ hs2 fun b hb o e => k3 b o (fun z => hWf b z hb) e
      · obtain ⟨m, hm⟩ := C2
        exact ⟨m, hm.at' fun o e => k3 _ o (hnW _ (Nat.le_succ _)) e⟩
      · exact fun b o q e => k3 b o (fun z => q (.tail _ z)) (st2 b o q e)
    · obtain rfl : i = n := Nat.le_antisymm hi (Nat.not_lt.mp hlt)
      refine W.done _ _ _ hst' fun h₁ tk₁ hk₁ => ?_
      have k1 : Stays [I] H h₁ := hk₁
      obtain ⟨m, hm⟩ := hC'
      exact hRR D (D + 1) h₁ tk₁ m (fresh _ (Nat.le_refl _)) (fresh _ (Nat.le_succ _)) (Nat.ne_of_gt (Nat.lt_succ_self _)) (hm.at' fun o e => k1 _ o nCI e) (k1 _ _ nDI hD')
        (fun b o q e => k1 b o (fun z => q (by rw [List.mem_singleton.mp z]; exact .head _)) (st' b o q e)) (hIs _ _ inv' fun b hb o e => k1 b o (fun z => hIW (List.mem_singleton.mp z ▸ hb)) e)
  exact codeAny_compStart_list (loop _ rfl) (W.self 0 _ _ _ hst₁ (loop _ rfl))

inductive NoneEnd (g : Heap) (L : Addr) (m : Str → Option Value) (led : List (Addr × Obj)) (vs : List Value) (s : Shared) (xv : Value) (s₁ : Shared) : Prop
  | mk : ∀ h tk ax led₁, s₁ = { s with heap := h, toks := tk } → xv = .ref ax → Fr g L h m → News g L h (led₁ ++ led) → h.IsList ax vs.toArray → NoneEnd g L m led vs s xv s₁
theorem NoneEnd.intro {g h : Heap} {L ax : Addr} {m : Str → Option Value} {led : List (Addr × Obj)} {vs : List Value} {s : Shared} {tk : Nat} (F : Fr g L h m) (N : News g L h led) (hl : h.IsList ax vs.toArray) : NoneEnd g L m led vs s (.ref ax) { s with heap := h, toks := tk } :=
  ⟨h, tk, ax, [], rfl, rfl, F, N, hl⟩
/-- a comprehension over a list whose test is false for every item -/
theorem comp_none {elt iter test : Expr} {x : Str} {px : Pos} {scope : Scope} {cl : List (Str × Addr)} {pos : Pos} {s : Shared} {g : Heap} {L : Addr} {m : Str → Option Value} {led : List (Addr × Obj)} {vs : List Value} {Q E : Value → Shared → Prop}
    (F : Fr g L s.heap m) (N : News g L s.heap led)
    (hit : wpAny (model prog w) A (eval iter env) (NoneEnd g L m led vs s) (fun _ _ => False) s)
    (turns : ∀ C (i : Nat) v h tk cl' led', cl' = cellsFrom (C + 1) scope.names cl → vs[i]? = some v → L < C → Fr g L h m → News g L h led' → (∀ p ∈ led, p ∈ led') → Holds (compEnvC scope cl' C env) x v h →
      wpAny (model prog w) A (isTrue test (compEnvC scope cl' C env) (eval test (compEnvC scope cl' C env))) (CutV g L m led' { s with heap := h, toks := tk } (fun ok => ok = false)) (fun _ _ => False) { s with heap := h, toks := tk })
    (k : ∀ D h' tk', Fr g L h' m → News g L h' ((D, lst []) :: led) → Q (.ref D) { s with heap := h', toks := tk' })
    (hh : A.handled = none) (hclos : closureFor scope env = pure cl) (hkind : scope.kind = .function)
    (hnames : ∀ y ∈ scope.names, y.2 = .local → scope.names.lookup y.1 = some .local)
    (hx : (relabel scope env).names.lookup x = some .local)
    (hs : ∀ x, foldedSetIterable iter env x = pure x) :
    wpAny (model prog w) A (eval (.ListComp elt [⟨.Name x px, iter, [test], 0⟩] scope pos) env) Q E s := by
  rw [eval_ListComp]
  refine wpAny_comprehension_free (use := none) rfl hs hclos hkind hnames (wpAny_mono hit (fun xv s₁ h₁ => ?_) fun _ _ e => e.elim)
  obtain ⟨h, tk, ax, led₁, rfl, rfl, F₁, N₁, hl⟩ := h₁
  have hlt : ax < h.objs.size := by obtain ⟨_, e, _⟩ := hl; exact Heap.lt_size e
  have hxL : ax ≠ L := fun e => by
    obtain ⟨o, e1, _, n, e2⟩ := hl
    obtain ⟨o', es, ep, e3, e4, _⟩ := F₁.ns
    rw [← e, e1] at e3; cases e3
    rw [e2] at e4; cases e4
  have gL : ∀ b o, g.get? b = some o → b ∉ [L] := fun b o e z => by
    have := Heap.lt_size e
    rw [List.mem_singleton.mp z] at this
    exact absurd this (Nat.not_lt.mpr F.above)
  have up : ∀ (o : Obj) b o', h.get? b = some o' → (h.push o).get? b = some o' := fun o b o' e => Heap.get?_push_of_some _ e
  refine wpAny_pyIter_list hl ?_
  have hsz : vs.toArray.size = vs.length := List.size_toArray
  have stp : ∀ h' : Heap, Stays (h.objs.size :: [L]) (h.push { cls := .type "list_iterator", data := .fields #[.ref ax, .int 0 0] }) h' → Stays [L] h h' := fun h' st b o q e => st b o (fun z => by
    rcases List.mem_cons.mp z with z | z
    · exact absurd (Heap.lt_size e) (by rw [z]; exact Nat.lt_irrefl _)
    · exact q z) (up _ _ _ e)
  have frk : ∀ h' : Heap, Stays [L] h h' → h'.Ns L m → Fr g L h' m := fun h' st i => ⟨i, fun b o e => st b o (gL b o e) (F₁.keep b o e), F₁.above⟩
  have nwk : ∀ h' : Heap, Stays [L] h h' → News g L h' led := fun h' st p hp => by
    have := N₁ p (List.mem_append_right _ hp)
    exact ⟨st _ _ (fun z => this.2.1 (List.mem_singleton.mp z)) this.1, this.2⟩
  refine block_N (s₂ := { s with heap := h.push { cls := .type "list_iterator", data := .fields #[.ref ax, .int 0 0] }, toks := tk }) (Wm := [L]) (Inv := fun h => h.Ns L m) (Walks.list hh h.objs.size ax (Nat.ne_of_lt hlt) vs.toArray) hkind hx
    ⟨⟨_, Heap.get?_push_size _ rfl, rfl, rfl⟩, hl.at fun o e => up _ _ _ e⟩ (fun b hb => ?_) (fun b hb => ?_) (fun b hb hm => ?_) (fun h h' i z => i.at' fun o e => z L (.head _) o e) (F₁.ns.at' fun o e => up _ _ _ e) ?tst ?fin
  · show b < (h.push _).objs.size
    rw [Heap.size_push]
    rcases List.mem_cons.mp hb with rfl | hb
    · exact Nat.lt_succ_self _
    · rw [List.mem_singleton.mp hb]; exact Nat.lt_succ_of_lt hlt
  · show b < (h.push _).objs.size
    rw [Heap.size_push, List.mem_singleton.mp hb]; exact Nat.lt_succ_of_lt F₁.ns.lt
  · rw [List.mem_singleton.mp hb] at hm
    rcases List.mem_cons.mp hm with e | hm
    · exact absurd F₁.ns.lt (e ▸ Nat.lt_irrefl _)
    · exact hxL (List.mem_singleton.mp hm).symm
  case tst =>
    rintro C i v s' cl' ⟨h₂, tk₂, rfl⟩ hcl ⟨hi, hC⟩ hv st inv ho
    have st₂ := stp h₂ st
    have F₂ := frk h₂ st₂ inv
    have hC0 : (h.push { cls := .type "list_iterator", data := .fields #[.ref ax, .int 0 0] }).objs.size ≤ C := hC
    rw [Heap.size_push] at hC0
    have hC' : L < C := Nat.lt_of_lt_of_le F₁.ns.lt (Nat.le_trans (Nat.le_succ _) hC0)
    unfold Eff
    refine wpAny_mono (turns C i v h₂ tk₂ cl' (rest g L h₂) hcl (by simpa using hv) hC' F₂ news_rest (sub_rest (nwk h₂ st₂)) ho) (fun ok s₃ h₃ => ?_) fun _ _ e => e
    obtain ⟨h₃, tk₃, rfl, F₃, N₃, e⟩ := h₃
    exact ⟨h₃, tk₃, rfl, full_stays full_rest F₂ F₃ (fun p hp => (N₃ p hp).1), F₃.ns, e⟩
  case fin =>
    intro D C h' tk' m' hD hC hCD hn hl' st inv
    have st₂ := stp h' st
    have F₂ := frk h' st₂ inv
    have no : ∀ a, (h.push { cls := .type "list_iterator", data := .fields #[.ref ax, .int 0 0] }).get? a = none → h.get? a = none := fun a e => by
      cases q : h.get? a with
      | none => rfl
      | some o => rw [up _ _ _ q] at e; cases e
    refine ⟨m', hn, fun h'' hs'' => k D h'' tk' ?_ ?_⟩
    · have nC : ∀ b o, h.get? b = some o → b ≠ C := fun b o e z => by rw [z, no _ hC] at e; cases e
      have nL : L ≠ C := by obtain ⟨o, _, _, e, _⟩ := F₁.ns; exact nC L o e
      exact ⟨F₂.ns.at' fun o e => hs''.extBut _ o nL e, fun b o e => hs''.extBut b o (nC b o (F₁.keep b o e)) (F₂.keep b o e), F₂.above⟩
    · have nC : ∀ b o, h.get? b = some o → b ≠ C := fun b o e z => by rw [z, no _ hC] at e; cases e
      intro p hp
      rcases List.mem_cons.mp hp with rfl | hp
      · refine ⟨hs''.extBut _ _ (Ne.symm hCD) hl', fun e => ?_, ?_⟩
        · obtain ⟨o, _, _, e', _⟩ := F₁.ns
          have := no _ hD
          rw [show D = L from e, e'] at this; cases this
        · cases q : g.get? D with
          | none => rfl
          | some o => have := no _ hD; rw [F₁.keep _ _ q] at this; cases this
      · have q := nwk h' st₂ p hp
        exact ⟨hs''.extBut _ _ (nC p.1 p.2 (N₁ p (List.mem_append_right _ hp)).1) q.1, q.2⟩
end
end

section
open PySem PySem.W PyProof.Rows PyProof.Rows.LCg PySem.Calls
set_option maxRecDepth 100000
set_option maxHeartbeats 4000000
/-- how a cut ends that may store the name x and the cell of lf -/
inductive CutW (g : Heap) (L : Addr) (x : Str) (m : Str → Option Value) (lf : Obj → List (Addr × Obj)) (s : Shared) (f : Flow) (s' : Shared) : Prop
  | mk : f = .next → ∀ h' tk' u o y0, s' = { s with heap := h', toks := tk' } → Fr g L h' (fun z => if z = x then u else m z) → News g L h' (lf o) → o.data = .cell y0 → CutW g L x m lf s f s'
theorem CutW.intro {g : Heap} {L : Addr} {x : Str} {m : Str → Option Value} {lf : Obj → List (Addr × Obj)} {led : List (Addr × Obj)} {s : Shared} {h' : Heap} {tk' : Nat} {u : Option Value} {o : Obj} {y0 : Option Value} (F : Fr g L h' (fun z => if z = x then u else m z)) (N : News g L h' led) (hy : o.data = .cell y0) (sub : ∀ p ∈ lf o, p ∈ led) :
    CutW g L x m lf s .next { s with heap := h', toks := tk' } := ⟨rfl, h', tk', u, o, y0, rfl, F, fun p hp => N p (sub p hp), hy⟩
theorem CutW.same {g : Heap} {L : Addr} {x : Str} {m : Str → Option Value} {lf : Obj → List (Addr × Obj)} {led : List (Addr × Obj)} {s : Shared} {h' : Heap} {tk' : Nat} {o : Obj} {y0 : Option Value} (F : Fr g L h' m) (N : News g L h' led) (hy : o.data = .cell y0) (sub : ∀ p ∈ lf o, p ∈ led) :
    CutW g L x m lf s .next { s with heap := h', toks := tk' } := CutW.intro (u := m x) (by rw [← but_self]; exact F) N hy sub
theorem cutW {M : Model} {A : Around} {t : Sem Flow} {g : Heap} {L : Addr} {m : Str → Option Value} {x : Str} {lf : Obj → List (Addr × Obj)} {led : List (Addr × Obj)} {s : Shared} {Q : Flow → Shared → Prop} {E : Value → Shared → Prop} (_ : Fr g L s.heap m) (_ : News g L s.heap led) (h : wpAny M A t (CutW g L x m lf s) (fun _ _ => False) s)
    (k : ∀ h' tk' u o y0, Fr g L h' (fun z => if z = x then u else m z) → News g L h' (lf o) → o.data = .cell y0 → Q .next { s with heap := h', toks := tk' }) : wpAny M A t Q E s :=
  wpAny_mono h (fun f s' hc => by obtain ⟨rfl, h', tk', u, o, y0, rfl, F, N, p⟩ := hc; exact k h' tk' u o y0 F N p) fun _ _ e => e.elim
section
variable {prog : Program} {w : World} {A : Around} {env : Env} {s : Shared} {g : Heap} {L : Addr} {m : Str → Option Value} {Q : Flow → Shared → Prop} {E : Value → Shared → Prop}
inductive ForEndW (g : Heap) (L : Addr) (own : List (Addr × Obj)) (x : Str) (m : Str → Option Value) (lf : Obj → List (Addr × Obj)) (s : Shared) (f : Flow) (s' : Shared) : Prop
  | mk : f = .next → ∀ h' tk' u o y0, s' = { s with heap := h', toks := tk' } → Fr g L h' (fun z => if z = x then u else m z) → News g L h' (lf o ++ own) → o.data = .cell y0 → ForEndW g L own x m lf s f s'
theorem ForEndW.intro {own led : List (Addr × Obj)} {x : Str} {lf : Obj → List (Addr × Obj)} {h' : Heap} {tk' : Nat} {u : Option Value} {o : Obj} {y0 : Option Value} (F : Fr g L h' (fun z => if z = x then u else m z)) (N : News g L h' led) (hy : o.data = .cell y0) (sub : ∀ p ∈ lf o ++ own, p ∈ led) :
    ForEndW g L own x m lf s .next { s with heap := h', toks := tk' } := ⟨rfl, h', tk', u, o, y0, rfl, F, fun p hp => N p (sub p hp), hy⟩
inductive ForRW (prog : Program) (w : World) (A : Around) (env : Env) (g : Heap) (L : Addr) (m : Str → Option Value) (target : Expr) (x : Str) (body : List Stmt) (Q : Flow → Shared → Prop) (E : Value → Shared → Prop) (lf : Obj → List (Addr × Obj)) (n : Nat) (xv : Value) (s₁ : Shared) : Prop
  | mk : ∀ r b t u v o y0, xv = .ref r → Fr g L s₁.heap m → News g L s₁.heap (lf o) → o.data = .cell y0 → IsRange s₁.heap r 0 b 1 t u v → Builtin.Range.small 0 b 1 = true → Builtin.Range.rangeSize 0 b 1 = ((n : Nat) : Int) → (∀ (i : Nat) t I u o y0 (s' : Shared) own, i < n → o.data = .cell y0 → (∀ p ∈ lf o, p.1 ≠ I) → (∀ p ∈ own, p.1 = I) → Fr g L s'.heap (fun z => if z = x then u else m z) → News g L s'.heap (lf o ++ own) →       wpAny (model prog w) A (assign target env (.int (i : Int) t)) (fun _ s₃ => wpAny (model prog w) A (execs body env) (ForEndW g L own x m lf s') E s₃) E s') → (∀ h' tk' u o y0, Fr g L h' (fun z => if z = x then u else m z) → News g L h' (lf o) → o.data = .cell y0 → Q .next { s₁ with heap := h', toks := tk' }) → ForRW prog w A env g L m target x body Q E lf n xv s₁
theorem ForRW.intro {target : Expr} {x : Str} {body : List Stmt} {lf : Obj → List (Addr × Obj)} {n : Nat} {r : Addr} {b : Int} {t u v : Tok} {o : Obj} {y0 : Option Value} (F : Fr g L s.heap m) (N : News g L s.heap (lf o)) (hy : o.data = .cell y0) (hr : IsRange s.heap r 0 b 1 t u v) (h1 : Builtin.Range.small 0 b 1 = true) (h2 : Builtin.Range.rangeSize 0 b 1 = ((n : Nat) : Int))
    (turn : ∀ (i : Nat) t I u o y0 (s' : Shared) own, i < n → o.data = .cell y0 → (∀ p ∈ lf o, p.1 ≠ I) → (∀ p ∈ own, p.1 = I) → Fr g L s'.heap (fun z => if z = x then u else m z) → News g L s'.heap (lf o ++ own) →
      wpAny (model prog w) A (assign target env (.int (i : Int) t)) (fun _ s₃ => wpAny (model prog w) A (execs body env) (ForEndW g L own x m lf s') E s₃) E s')
    (done : ∀ h' tk' u o y0, Fr g L h' (fun z => if z = x then u else m z) → News g L h' (lf o) → o.data = .cell y0 → Q .next { s with heap := h', toks := tk' }) : ForRW prog w A env g L m target x body Q E lf n (.ref r) s :=
  ⟨r, b, t, u, v, o, y0, rfl, F, N, hy, hr, h1, h2, turn, done⟩
/-- a loop over a range that may store the name x and the cell of lf -/
theorem for_rangeW {target iter : Expr} {body : List Stmt} {pos : Pos} {n : Nat} {x : Str} {lf : Obj → List (Addr × Obj)} (F : Fr g L s.heap m) (hlf : ∀ o o' p, p ∈ lf o' → ∃ q ∈ lf o, q.1 = p.1) (hL : env.locals = L) (hh : A.handled = none) (hE : PassesOwn (model prog w) A env E)
    (h : wpAny (model prog w) A (eval iter env) (ForRW prog w A env g L m target x body Q E lf n) E s)
    (ht : ∀ (s' : Shared) I v (Q' : Unit → Shared → Prop), Q' () s' → wpAny (model prog w) A (letOwnedTupleGo target (.ref I) v) Q' E s')
    (hs : ∀ x, foldedSetIterable iter env x = pure x) :
    wpAny (model prog w) A (exec (.For target iter body [] pos) env) Q E s := by
  refine for_range (n := n) (fun _ m₁ led => ∃ u o y0, (m₁ = fun z => if z = x then u else m z) ∧ led = lf o ∧ o.data = .cell y0) F hL hh hE (wpAny_mono h (fun xv s₁ h₁ => ?_) fun _ _ e => e) ht hs
  obtain ⟨r, b, t, u, v, o, y0, rfl, F₁, N₁, hy, hr, hsm, hn, turn, done⟩ := h₁
  refine ⟨r, b, t, u, v, lf o, rfl, F₁, N₁, hr, hsm, hn, ⟨m x, o, y0, but_self x m, rfl, hy⟩, ?_, fun h' tk' m' led' F' N' j => ?_⟩
  · rintro i t' I m₁ led' s' own hi ⟨u, o, y0, rfl, rfl, hy⟩ off hown hIo F₂ N₂
    refine wpAny_mono (turn i t' I u o y0 s' own hi hy off hown F₂ N₂) (fun _ s₃ h₃ => wpAny_mono h₃ (fun f s₄ h₄ => ?_) fun _ _ e => e) fun _ _ e => e
    obtain ⟨rfl, h', tk', u', o', y', rfl, F', N', hy'⟩ := h₄
    exact ⟨rfl, h', tk', _, lf o', rfl, F', N', fun p hp => by obtain ⟨q, hq, e⟩ := hlf o o' p hp; rw [← e]; exact off q hq, ⟨u', o', y', rfl, rfl, hy'⟩⟩
  · obtain ⟨u, o, y0, rfl, rfl, hy⟩ := j
    exact done h' tk' u o y0 F' N' hy
end
end

section
open PySem PySem.W PyProof.Rows PyProof.Rows.LCg PySem.Calls
set_option maxRecDepth 100000
set_option maxHeartbeats 8000000
section
variable {w : World} {mean : ExcName → Option Value} {mg mb : Str → Option Value} {dp un : Nat} {gd : Option (List Code)} {env : Env} {outer : List Env} {A₀ : Around} {base h₀ : Heap} {L : Addr} {m : Str → Option Value} {s : Shared}

local macro_rules | `(tactic| walk_at "subscriptTail") => `(tactic| walk_at "it")
theorem kept_ok {n : Int} {t u : Tok} (B : Below A₀ base outer h₀) (F : Fr h₀ L s.heap m) (X : (KK w.params).In h₀) (T : Top VV LO mean mg mb h₀) (hf : env.frame = some L) (hk : env.scope.kind = .function) (hd : dp + 5 < recursionLimit) (h1 : 1 ≤ n) : Eff (model PR w) (AT dp un gd env outer) (call (.ref 126) [.int 0 t, .int n u]) s [] (fun _ => True) (fun _ r => ∃ t, r = .int 0 t) := by
  k_dflt ((refine' call_E (Wn := []) ?kB ?kF ?kX ?kT ?kA ?kf ?kk News.nil ?ko ?kc ?kr ?kb ?kl ?km ?_ ?c1 ?c2 ?c3 ?c4; (case kA => exact rfl); (case kB => assumption); (case kF => assumption); (case kX => assumption); (case kT => assumption); (case kf => assumption); (case kk => assumption); (case ko => k_is); (case kc => k_is); (case kr => ktr_room); (case kb => exact BindsTo.of_eq rfl); (case c4 => decide); (case kl => exact locs rfl); (case c1 => exact rfl); (case c2 => exact rfl); (case c3 => exact rfl)))
  case km => exact fun _ _ _ _ h => h
  intro g L' h₁ F' N' B' X' T' G'
  clear G'
  k_unmd
  k_fold
  k_steps
  all_goals first | exact BodyEnd.intro (by assumption) trivial ⟨_, rfl⟩ | (exfalso; omega)
local macro_rules | `(tactic| walk_at "fn") => `(tactic| (apply kept_ok <;> walk_at "h"))
/-- a plane by its pieces -/
theorem at_ok {pa d ra ia : Addr} {e1 e2 e3 : Int} {t1 t2 t3 t4 t5 : Tok} {n rn inn : Nat} {W H : Int} {rvs ivs : List Value} {t u : Tok} {z : Int} {tz : Tok} (B : Below A₀ base outer h₀) (F : Fr h₀ L s.heap m) (X : (KK w.params).In h₀) (T : Top VV LO mean mg mb h₀) (hf : env.frame = some L) (hk : env.scope.kind = .function) (hd : dp + 10 < recursionLimit) (hW : 1 ≤ W) (hH : 1 ≤ H)
    (h1 : s.heap.get? pa = some (instObj 77 d)) (h2 : s.heap.get? d = some (dictOf [⟨e1, .str (Str.ofString "width") t1, .int W t2⟩, ⟨e2, .str (Str.ofString "height") t3, .int H t4⟩, ⟨e3, .str (Str.ofString "rows") t5, .ref ra⟩] n))
    (h3 : s.heap.get? ra = some (listOf (.ref ia :: rvs).toArray rn)) (h4 : s.heap.get? ia = some (listOf (.int z tz :: ivs).toArray inn)) :
    Eff (model PR w) (AT dp un gd env outer) (call (.ref 67) [.ref pa, .int 0 t, .int 0 u]) s [] (fun _ => True) (fun _ r => ∃ z t, r = .int z t) := by
  k_dflt ((refine' call_E (Wn := []) ?kB ?kF ?kX ?kT ?kA ?kf ?kk News.nil ?ko ?kc ?kr ?kb ?kl ?km ?_ ?c1 ?c2 ?c3 ?c4; (case kA => exact rfl); (case kB => assumption); (case kF => assumption); (case kX => assumption); (case kT => assumption); (case kf => assumption); (case kk => assumption); (case ko => k_is); (case kc => k_is); (case kr => ktr_room); (case kb => exact BindsTo.of_eq rfl); (case c4 => decide); (case kl => exact locs rfl); (case c1 => exact rfl); (case c2 => exact rfl); (case c3 => exact rfl)))
  case km => exact fun _ _ _ _ h => h
  intro g L' h₁ F' N' B' X' T' G'
  have G := gsub_nil G'
  replace h1 := G _ _ h1
  replace h2 := G _ _ h2
  replace h3 := G _ _ h3
  replace h4 := G _ _ h4
  clear G' G
  k_unmd
  k_fold
  k_steps
  exact BodyEnd.intro (by assumption) trivial ⟨_, _, rfl⟩
theorem put_ok {pa d ra ia : Addr} {e1 e2 e3 : Int} {t1 t2 t3 t4 t5 : Tok} {n rn inn : Nat} {W H : Int} {rvs ivs : List Value} {t u : Tok} {z z2 : Int} {tz tz2 : Tok} (B : Below A₀ base outer h₀) (F : Fr h₀ L s.heap m) (X : (KK w.params).In h₀) (T : Top VV LO mean mg mb h₀) (hf : env.frame = some L) (hk : env.scope.kind = .function) (hd : dp + 10 < recursionLimit) (hW : 1 ≤ W) (hH : 1 ≤ H)
    (N : News h₀ L s.heap [(ia, listOf (.int z tz :: ivs).toArray inn)]) (n1 : pa ≠ ia) (n2 : d ≠ ia) (n3 : ra ≠ ia)
    (h1 : s.heap.get? pa = some (instObj 77 d)) (h2 : s.heap.get? d = some (dictOf [⟨e1, .str (Str.ofString "width") t1, .int W t2⟩, ⟨e2, .str (Str.ofString "height") t3, .int H t4⟩, ⟨e3, .str (Str.ofString "rows") t5, .ref ra⟩] n))
    (h3 : s.heap.get? ra = some (listOf (.ref ia :: rvs).toArray rn)) :
    Eff (model PR w) (AT dp un gd env outer) (call (.ref 74) [.ref pa, .int 0 t, .int 0 u, .int z2 tz2]) s [ia] (fun h => h.get? ia = some (listOf (.int z2 tz2 :: ivs).toArray inn)) (fun _ _ => True) := by
  k_dflt ((refine' call_E (Wn := [(_, _)]) ?kB ?kF ?kX ?kT ?kA ?kf ?kk ?kN ?ko ?kc ?kr ?kb ?kl ?km ?_ ?c1 ?c2 ?c3 ?c4; (case kN => assumption); (case kA => exact rfl); (case kB => assumption); (case kF => assumption); (case kX => assumption); (case kT => assumption); (case kf => assumption); (case kk => assumption); (case ko => k_is); (case kc => k_is); (case kr => ktr_room); (case kb => exact BindsTo.of_eq rfl); (case c4 => decide); (case kl => exact locs rfl); (case c1 => exact rfl); (case c2 => exact rfl); (case c3 => exact rfl)))
  case km => exact fun _ _ _ _ h => h
  intro g L' h₁ F' N' B' X' T' G'
  replace h1 := G' _ _ h1 (fun h => n1 (List.mem_singleton.mp h))
  replace h2 := G' _ _ h2 (fun h => n2 (List.mem_singleton.mp h))
  replace h3 := G' _ _ h3 (fun h => n3 (List.mem_singleton.mp h))
  clear G'
  k_unmd
  k_fold
  k_steps
  rename News _ _ _ _ => N9
  exact BodyEnd.intro (by assumption) (N9 _ (.head _)).1 trivial
theorem models_strOk {m' : Str} (h : m' ∈ modelsL) : PyData.strOk m' = true := by
  simp only [modelsL, List.mem_cons, List.not_mem_nil, or_false] at h
  rcases h with rfl | rfl | rfl | rfl | rfl | rfl <;> decide +kernel
/-- the first row of a plane's rows -/
theorem RW.first {O : Look} {v : Value} {rows : List (List Int)} {W H : Nat} (h : RW O v rows) (hH : rows.length = H) (hW : ∀ r ∈ rows, r.length = W) (h1 : 1 ≤ H) {C : Prop}
    (k : ∀ (a a0 : Addr) (vs cvs : List Value) (n cn : Nat), v = .ref a → O a (listOf vs.toArray n) → vs[0]? = some (.ref a0) → vs.length = H → O a0 (listOf cvs.toArray cn) → cvs.length = W → C) : C := by
  obtain ⟨a, vs, n, rfl, r1, r2, r3⟩ := h
  have e1 : vs[0]? = some (vs[0]'(by omega)) := List.getElem?_eq_getElem _
  have e2 : rows[0]? = some (rows[0]'(by omega)) := List.getElem?_eq_getElem _
  obtain ⟨a0, cvs, cn, e3, c1, c2, c3⟩ := r3 0 _ _ e1 e2
  exact k a a0 vs cvs n cn rfl r1 (by rw [e1, e3]) (by omega) c1 (by rw [c2]; exact hW _ (List.getElem_mem _))
theorem PRS.one {O : Look} {D : Addr} {v0 : Value} {n : Nat} {xs : List (List (List Int))} (h : O D (listOf #[v0] n)) (h0 : ∀ x, xs[0]? = some x → RW O v0 x) (hl : 1 ≤ xs.length) : PRS O (.ref D) (xs.take 1) := by
  refine ⟨D, [v0], n, rfl, h, by rw [List.length_take]; simp; omega, fun i v x e1 e2 => ?_⟩
  match i with
  | 0 =>
    cases e1
    exact h0 x (by rw [List.getElem?_take] at e2; simpa using e2)
  | i + 1 => simp at e1
/-- a list of the same rows three times -/
theorem PRS.three {O : Look} {D : Addr} {v0 v1 v2 : Value} {n : Nat} {x0 x1 x2 : List (List Int)} (h : O D (listOf #[v0, v1, v2] n)) (h0 : RW O v0 x0) (h1 : RW O v1 x1) (h2 : RW O v2 x2) : PRS O (.ref D) [x0, x1, x2] := LL.three h h0 h1 h2
/-- a plane's shape, its objects in T -/
inductive ShapeT (T : List (Addr × Obj)) (W H : Nat) (v : Value) : Prop
  | mk : ∀ p : Pln, PL (fun a o => (a, o) ∈ T) v p → p.w = W → p.h = H → p.rows.length = H → (∀ r ∈ p.rows, r.length = W) → ShapeT T W H v
theorem ShapeT.elim {T : List (Addr × Obj)} {W H : Nat} {v : Value} (S : ShapeT T W H v) (hW : 1 ≤ W) (hH : 1 ≤ H) {C : Prop}
    (k : ∀ (pa d ra ia : Addr) (e1 e2 e3 : Int) (t1 t2 t3 t4 t5 : Tok) (n rn inn : Nat) (rvs ivs : List Value) (z : Int) (tz : Tok) (xs : List Int), v = .ref pa → (pa, instObj 77 d) ∈ T →
      (d, dictOf [⟨e1, .str (Str.ofString "width") t1, .int W t2⟩, ⟨e2, .str (Str.ofString "height") t3, .int H t4⟩, ⟨e3, .str (Str.ofString "rows") t5, .ref ra⟩] n) ∈ T →
      (ra, listOf (.ref ia :: rvs).toArray rn) ∈ T → (ia, listOf (.int z tz :: ivs).toArray inn) ∈ T → IntsAre (.int z tz :: ivs) xs → xs.length = W → C) : C := by
  obtain ⟨p, ⟨a, d, e1, e2, e3, t1, t2, t3, t4, t5, rv, n, rfl, h1, h2, ra, vs, rn, rfl, r1, r2, r3⟩, hw, hh, hl, hr⟩ := S
  obtain ⟨v0, vs', rfl⟩ : ∃ v0 vs', vs = v0 :: vs' := by cases vs with | nil => simp at r2; omega | cons a b => exact ⟨a, b, rfl⟩
  obtain ⟨r0, rs', hrs⟩ : ∃ r0 rs', p.rows = r0 :: rs' := by cases hq : p.rows with | nil => rw [hq] at hl; simp at hl; omega | cons a b => exact ⟨a, b, rfl⟩
  refine IL.elim' (r3 0 v0 r0 rfl (by rw [hrs]; rfl)) fun ia ivs inn hE9e i1 i2 => ?_
  subst hE9e
  have hw0 : r0.length = W := hr r0 (by rw [hrs]; exact .head _)
  cases i2 with
  | nil => simp at hw0; omega
  | cons x t r => exact k a d ra ia e1 e2 e3 t1 t2 t3 t4 t5 n rn inn vs' _ x t _ rfl h1 (by rw [hw, hh] at h2; exact h2) r1 i1 (.cons x t r) hw0
noncomputable def setT (ia : Addr) (o : Obj) (T : List (Addr × Obj)) : List (Addr × Obj) := T.map fun q => if q.1 = ia then (ia, o) else q
theorem mem_setT {ia : Addr} {o : Obj} {T : List (Addr × Obj)} {q : Addr × Obj} (h : q ∈ T) (hne : q.1 ≠ ia) : q ∈ setT ia o T := List.mem_map.mpr ⟨q, h, by rw [if_neg hne]⟩
theorem mem_setT_self {ia : Addr} {o o' : Obj} {T : List (Addr × Obj)} (h : (ia, o') ∈ T) : (ia, o) ∈ setT ia o T := List.mem_map.mpr ⟨_, h, by rw [if_pos rfl]⟩
theorem of_setT {ia : Addr} {o : Obj} {T : List (Addr × Obj)} {q : Addr × Obj} (h : q ∈ setT ia o T) : q = (ia, o) ∨ (q ∈ T ∧ q.1 ≠ ia) := by
  obtain ⟨p, hp, e⟩ := List.mem_map.mp h
  by_cases z : p.1 = ia
  · rw [if_pos z] at e; exact .inl e.symm
  · rw [if_neg z] at e; subst e; exact .inr ⟨hp, z⟩
theorem news_setT {g h h' : Heap} {L ia : Addr} {o o' : Obj} {T base : List (Addr × Obj)} (N : News g L h (T ++ base)) (hm : (ia, o) ∈ T) (st : Stays [ia] h h') (ho : h'.get? ia = some o') (hb : ∀ p ∈ base, p.1 ≠ ia) : News g L h' (setT ia o' T ++ base) := fun p hp => by
  rcases List.mem_append.mp hp with hp | hp
  · rcases of_setT hp with rfl | ⟨hp, hne⟩
    · exact ⟨ho, (N _ (List.mem_append_left _ hm)).2⟩
    · have q := N _ (List.mem_append_left _ hp)
      exact ⟨st _ _ (fun z => hne (List.mem_singleton.mp z)) q.1, q.2⟩
  · have q := N _ (List.mem_append_right _ hp)
    exact ⟨st _ _ (fun z => hb p hp (List.mem_singleton.mp z)) q.1, q.2⟩
theorem obj_once {g h : Heap} {L a : Addr} {o o' : Obj} {led : List (Addr × Obj)} (N : News g L h led) (h1 : (a, o) ∈ led) (h2 : (a, o') ∈ led) : o = o' := by
  have := (N _ h1).1.symm.trans (N _ h2).1
  exact Option.some.inj this
theorem listOf_inj {vs ws : List Value} {n k : Nat} (h : listOf vs.toArray n = listOf ws.toArray k) : vs = ws := by
  have := congrArg (fun o : Obj => match o.data with | .seq a _ => a.toList | _ => []) h
  simpa using this
theorem shape_set {g h : Heap} {L ia : Addr} {T : List (Addr × Obj)} {W H : Nat} {v : Value} {z z2 : Int} {tz tz2 : Tok} {ivs : List Value} {inn : Nat} {xs : List Int} (N : News g L h T) (hm : (ia, listOf (.int z tz :: ivs).toArray inn) ∈ T)
    (hi : IntsAre (.int z tz :: ivs) xs) (hl : xs.length = W) (hH : 1 ≤ H) (S : ShapeT T W H v) : ShapeT (setT ia (listOf (.int z2 tz2 :: ivs).toArray inn) T) W H v := by
  obtain ⟨p, ⟨a, d, e1, e2, e3, t1, t2, t3, t4, t5, rv, n, rfl, h1, h2, ra, vs, rn, rfl, r1, r2, r3⟩, hw, hh, hlr, hr⟩ := S
  have na : a ≠ ia := fun e => by
    subst e
    have := congrArg Obj.cls (obj_once N h1 hm)
    cases this
  have nd : d ≠ ia := fun e => by
    subst e
    have := congrArg Obj.data (obj_once N h2 hm)
    cases this
  have nr : ra ≠ ia := fun e => by
    subst e
    have e2 := listOf_inj (obj_once N r1 hm)
    obtain ⟨r0, hr0⟩ : ∃ r0, p.rows[0]? = some r0 := ⟨_, List.getElem?_eq_getElem (by omega)⟩
    obtain ⟨c, _, _, e3, _⟩ := r3 0 (.int z tz) r0 (by rw [e2]; rfl) hr0
    cases e3
  obtain ⟨as, q1, q2⟩ := choose_list (R := fun _ y r => IL (fun a o => (a, o) ∈ setT ia (listOf (.int z2 tz2 :: ivs).toArray inn) T) y r ∧ r.length = W) vs 0 fun i y e => by
    have hi' : i < p.rows.length := by
      rw [← r2]
      rcases Nat.lt_or_ge i vs.length with h | h
      · exact h
      · rw [List.getElem?_eq_none h] at e; cases e
    have er := List.getElem?_eq_getElem hi'
    refine IL.elim' (r3 i y _ e er) fun c cvs cn e3 c1 c2 => ?_
    by_cases hc : c = ia
    · refine ⟨z2 :: xs.tail, ?_, ?_⟩
      · rw [e3, hc]
        refine IL.of (mem_setT_self hm) ?_
        cases hi with | cons x t r => exact .cons z2 tz2 r
      · cases hi with | cons x t r => simpa using hl
    · exact ⟨_, ⟨c, cvs, cn, e3, mem_setT c1 hc, c2.length, of_ints c2⟩, hr _ (List.getElem_mem _)⟩
  refine ⟨⟨p.w, p.h, as⟩, ⟨a, d, e1, e2, e3, t1, t2, t3, t4, t5, _, n, rfl, mem_setT h1 na, mem_setT h2 nd, ra, vs, rn, rfl, mem_setT r1 nr, q1.symm, fun i v x e1 e2 => (q2 i v x e1 e2).1⟩, hw, hh, by rw [q1, r2, hlr], fun r hr' => ?_⟩
  obtain ⟨i, hi'⟩ := List.getElem?_of_mem hr'
  have hlt : i < vs.length := by
    rw [← q1]
    rcases Nat.lt_or_ge i as.length with h | h
    · exact h
    · rw [List.getElem?_eq_none h] at hi'; cases hi'
  exact (q2 i _ r (List.getElem?_eq_getElem hlt) hi').2
theorem IntsAre.at {vs : List Value} {xs : List Int} (h : IntsAre vs xs) {x : Nat} (hx : x < xs.length) : ∃ t, vs[(x : Int).toNat]? = some (.int (xs.getD x 0) t) := by
  have hl := h.length
  have e1 : vs[x]? = some (vs[x]'(by omega)) := List.getElem?_eq_getElem _
  have e2 : xs[x]? = some (xs[x]'hx) := List.getElem?_eq_getElem _
  obtain ⟨t, e⟩ := of_ints (O := fun _ _ => False) h x _ _ e1 e2
  exact ⟨t, by rw [Int.toNat_natCast, e1, e, List.getD_eq_getElem?_getD, e2]; rfl⟩
theorem RW.at {O : Look} {v : Value} {rows : List (List Int)} {W H : Nat} (h : RW O v rows) (hH : rows.length = H) (hW : ∀ r ∈ rows, r.length = W) {i : Nat} (hi : i < H) {C : Prop}
    (k : ∀ (a ra : Addr) (vs cvs : List Value) (n cn : Nat), v = .ref a → O a (listOf vs.toArray n) → vs.length = H → vs[(i : Int).toNat]? = some (.ref ra) → O ra (listOf cvs.toArray cn) → IntsAre cvs (rows.getD i []) → (rows.getD i []).length = W → C) : C := by
  obtain ⟨a, vs, n, rfl, r1, r2, r3⟩ := h
  have e1 : vs[i]? = some (vs[i]'(by omega)) := List.getElem?_eq_getElem _
  have e2 : rows[i]? = some (rows[i]'(by omega)) := List.getElem?_eq_getElem _
  have e5 : rows.getD i [] = rows[i]'(by omega) := by rw [List.getD_eq_getElem?_getD, e2]; rfl
  refine IL.elim' (r3 i _ _ e1 e2) fun ra cvs cn e3 c1 c2 => ?_
  exact k a ra vs cvs n cn rfl r1 (by omega) (by rw [Int.toNat_natCast, e1, e3]) c1 (by rw [e5]; exact c2) (by rw [e5]; exact hW _ (List.getElem_mem _))
theorem CompPost.rangeMap {β : Type} {P : Look → Value → β → Prop} {f : Nat → β} {n : Nat} {P0 : Nat → Value → Prop} {O : Look} {y : Value} (h : CompPost n P0 (fun i _ O y => P O y (f i)) O y) : LL P O y ((List.range n).map f) := by
  obtain ⟨D, ys, rfl, h1, h2, h3⟩ := h
  refine ⟨D, ys, _, rfl, h1, by rw [List.length_map, List.length_range, h2], fun i v x e1 e2 => ?_⟩
  obtain ⟨_, _, t⟩ := h3 i v e1
  have hi : i < n := by
    rcases Nat.lt_or_ge i n with h | h
    · exact h
    · rw [List.getElem?_eq_none (by rw [List.length_map, List.length_range]; exact h)] at e2; cases e2
  rw [List.getElem?_map, List.getElem?_range hi] at e2
  cases e2
  exact t
inductive PutR (tvs : List Value) (tpa : Addr) (tpn W H : Nat) (base : List (Addr × Obj)) (_ : Nat) (led : List (Addr × Obj)) : Prop
  | mk : ∀ T, led = T ++ base → (∀ v ∈ tvs, ShapeT T W H v) → (tpa, listOf tvs.toArray tpn) ∈ T → (∀ p ∈ T, ∀ q ∈ base, p.1 ≠ q.1) → PutR tvs tpa tpn W H base _ led
theorem PutR.elim {tvs : List Value} {tpa : Addr} {tpn W H i : Nat} {base led : List (Addr × Obj)} (h : PutR tvs tpa tpn W H base i led) {C : Prop} (k : ∀ T, led = T ++ base → (∀ v ∈ tvs, ShapeT T W H v) → (tpa, listOf tvs.toArray tpn) ∈ T → (∀ p ∈ T, ∀ q ∈ base, p.1 ≠ q.1) → C) : C := by
  obtain ⟨T, a, b, c, d⟩ := h
  exact k T a b c d
theorem ne_int {g h : Heap} {L ia a : Addr} {T : List (Addr × Obj)} {z : Int} {tz : Tok} {ivs : List Value} {inn : Nat} {o : Obj} (N : News g L h T) (hm : (ia, listOf (.int z tz :: ivs).toArray inn) ∈ T) (h1 : (a, o) ∈ T) (hne : o ≠ listOf (.int z tz :: ivs).toArray inn) : a ≠ ia := fun e => by
  subst e
  exact hne (obj_once N h1 hm)
theorem ne_inst {C d : Addr} {vs : List Value} {n : Nat} : instObj C d ≠ listOf vs.toArray n := fun e => by have := congrArg Obj.cls e; cases this
theorem ne_dict {es : List DictEntry} {k n : Nat} {vs : List Value} : dictOf es k ≠ listOf vs.toArray n := fun e => by have := congrArg Obj.data e; cases this
theorem ne_refs {a : Addr} {z : Int} {tz : Tok} {vs ws : List Value} {n k : Nat} : listOf (.ref a :: ws).toArray k ≠ listOf (.int z tz :: vs).toArray n := fun e => by cases listOf_inj e
/-- how one put leaves the loop's state -/
theorem put_end {g h h' : Heap} {L I ia tpa : Addr} {T base own : List (Addr × Obj)} {W H tpn i : Nat} {tvs : List Value} {z z2 : Int} {tz tz2 : Tok} {ivs : List Value} {inn : Nat} {xs : List Int} {m : Str → Option Value} {s : Shared} {tk' : Nat}
    (F : Fr g L h m) (N : News g L h (T ++ (base ++ own))) (hS : ∀ v ∈ tvs, ShapeT T W H v) (mt : (tpa, listOf tvs.toArray tpn) ∈ T) (dj : ∀ p ∈ T, ∀ q ∈ base, p.1 ≠ q.1) (hW : 1 ≤ W) (hH : 1 ≤ H)
    (hm : (ia, listOf (.int z tz :: ivs).toArray inn) ∈ T) (hi : IntsAre (.int z tz :: ivs) xs) (hl : xs.length = W) (off : ∀ p ∈ T ++ base, p.1 ≠ I) (hown : ∀ p ∈ own, p.1 = I ∨ p.1 = tpa)
    (st : Stays [ia] h h') (ho : h'.get? ia = some (listOf (.int z2 tz2 :: ivs).toArray inn)) :
    Fr g L h' m ∧ ForEnd1 g L I own m (PutR tvs tpa tpn W H base i) s .next { s with heap := h', toks := tk' } := by
  have NT : News g L h T := fun p hp => N p (List.mem_append_left _ hp)
  have hia := NT _ hm
  have F' : Fr g L h' m := fr_stays F st (fun z => hia.2.1 (List.mem_singleton.mp z).symm) (fun b hb => by rw [List.mem_singleton.mp hb]; exact hia.2.2)
  have nt : tpa ≠ ia := ne_int NT hm mt fun e => by
    have e2 := listOf_inj e
    have := hS (.int z tz) (by rw [e2]; exact .head _)
    exact this.elim hW hH fun pa _ _ _ _ _ _ _ _ _ _ _ _ _ _ _ _ _ _ _ e3 _ _ _ _ _ _ => by cases e3
  have hb : ∀ p ∈ base ++ own, p.1 ≠ ia := fun p hp => by
    rcases List.mem_append.mp hp with hp | hp
    · exact Ne.symm (dj _ hm p hp)
    · rcases hown p hp with e | e
      · rw [e]; exact Ne.symm (off _ (List.mem_append_left _ hm))
      · rw [e]; exact nt
  have N' := news_setT N hm st ho hb
  refine ⟨F', ForEnd1.intro F' N' (setT ia (listOf (.int z2 tz2 :: ivs).toArray inn) T ++ base) (fun p hp => by rw [← List.append_assoc]; exact hp) (fun p hp => ?_) ⟨_, rfl, fun v hv => shape_set NT hm hi hl hH (hS v hv), mem_setT mt nt, fun p hp q hq => ?_⟩⟩
  · rcases List.mem_append.mp hp with hp | hp
    · rcases of_setT hp with rfl | ⟨hp, _⟩
      · exact off (ia, listOf (.int z tz :: ivs).toArray inn) (List.mem_append_left _ hm)
      · exact off _ (List.mem_append_left _ hp)
    · exact off _ (List.mem_append_right _ hp)
  · rcases of_setT hp with rfl | ⟨hp, _⟩
    · exact dj (ia, listOf (.int z tz :: ivs).toArray inn) hm q hq
    · exact dj _ hp q hq
end
end

section
open PySem PySem.W PyProof.Rows PyProof.Rows.LCg PySem.Calls
set_option maxRecDepth 100000
set_option maxHeartbeats 8000000
section
variable {w : World} {mean : ExcName → Option Value} {mg mb : Str → Option Value} {dp un : Nat} {gd : Option (List Code)} {env : Env} {outer : List Env} {A₀ : Around} {base h₀ : Heap} {L : Addr} {m : Str → Option Value} {s : Shared}

local macro_rules | `(tactic| walk_at "call ref") => `(tactic| (k_here; refine Stop.ref [299] (by decide) ?_))
local macro_rules | `(tactic| walk_at "subscriptTail") => `(tactic| walk_at "it")
local macro_rules | `(tactic| walk_at "call builtin:len") => `(tactic| (k_here; (with_reducible show wpAny _ _ (call (Value.builtin "len") [Value.ref _]) _ _ _); k_dflt (refine len_base (by k_asm) (by assumption) (by omega) ?_)))
theorem one_ok {src ta : Addr} {o : Obj} {vs : List Value} {n : Nat} (B : Below A₀ base outer h₀) (F : Fr h₀ L s.heap m) (X : (KK w.params).In h₀) (T : Top VV LO mean mg mb h₀) (hf : env.frame = some L) (hk : env.scope.kind = .function) (hd : dp + 15 < recursionLimit) (hu : un + 400 < cLine)
    (N : News h₀ L s.heap [(src, o)]) (ho : SrcOk o) (ht : s.heap.get? ta = some (listOf vs.toArray n)) (hne : ta ≠ src) (h1 : 1 ≤ vs.length) (h2 : vs.length ≤ 1000) :
    Eff (model PR w) (AT dp un gd env outer) (call (.ref 306) [.ref src, .ref ta]) s [src] (SrcAt src) (fun _ r => ∃ i : Nat, vs[i]? = some r) := by
  k_dflt ((refine' call_E (Wn := [(_, _)]) ?kB ?kF ?kX ?kT ?kA ?kf ?kk ?kN ?ko ?kc ?kr ?kb ?kl ?km ?_ ?c1 ?c2 ?c3 ?c4; (case kN => assumption); (case kA => exact rfl); (case kB => assumption); (case kF => assumption); (case kX => assumption); (case kT => assumption); (case kf => assumption); (case kk => assumption); (case ko => k_is); (case kc => k_is); (case kr => ktr_room); (case kb => exact BindsTo.of_eq rfl); (case c4 => decide); (case kl => exact locs rfl); (case c1 => exact rfl); (case c2 => exact rfl); (case c3 => exact rfl)))
  case km => exact fun _ _ _ _ h => h
  intro g L' h₁ F' N' B' X' T' G'
  have ht' := G' ta _ ht (fun h => hne (List.mem_singleton.mp h))
  k_unmd
  k_fold
  k_steps
  unfold Stop
  rename Fr _ _ _ _ => F9
  rename News _ _ _ _ => N9
  refine eff_useS0 (Post := fun _ r => ∃ d t, r = .int d t ∧ 0 ≤ d ∧ d < (vs.length : Int)) F9 N9 (by k_updF) (take_ok (by assumption) F9 (by assumption) (by assumption) (by exact rfl) (by exact rfl) (by ktr_room) (by ktr_units) (news_one N9 (by k_mem)) ho (by omega) (by omega)) ?_
  rintro y a ta' b tb n' h' tk' F8 N8 a0 b0 b1 ⟨d, t, rfl, d0, d1⟩
  have hd : d.toNat < vs.length := by omega
  have hx : vs[d.toNat]? = some (vs[d.toNat]'hd) := List.getElem?_eq_getElem _
  k_steps
  rename Fr _ _ _ _ => F7
  rename News _ _ _ _ => N7
  exact BodyEnd.intro F7 ⟨_, (N7 _ (.head _)).1, _, _, _, _, _, rfl, a0, b0, b1⟩ ⟨_, hx⟩
end
end

section
open PySem PySem.W PyProof.Rows PyProof.Rows.LCg PySem.Calls
set_option maxRecDepth 100000
set_option maxHeartbeats 8000000
section
variable {w : World} {mean : ExcName → Option Value} {mg mb : Str → Option Value} {dp un : Nat} {gd : Option (List Code)} {env : Env} {outer : List Env} {A₀ : Around} {base h₀ : Heap} {L : Addr} {m : Str → Option Value} {s : Shared}

noncomputable def AD (v : Value) (a : Option Int) : Prop := match a with | none => v = .none | some i => ∃ t, v = .int i t
noncomputable def guessF (many : Int) (xs : List Int) (jf : Bool) (ad : Option Int) : Str :=
  if many = 1 then "grey" else if many = 3 then (if jf then "ycc" else match ad with | some i => if i = 0 then "rgb" else "ycc" | none => if xs = [82, 71, 66] then "rgb" else "ycc")
  else if many = 4 then (if ad = some 2 then "ycck" else "cmyk") else "raw"
theorem guessed_ok {many : Int} {tm : Tok} {nv av : Value} {xs : List Int} {jf : Bool} {ad : Option Int} (B : Below A₀ base outer h₀) (F : Fr h₀ L s.heap m) (X : (KK w.params).In h₀) (T : Top VV LO mean mg mb h₀) (hf : env.frame = some L) (hk : env.scope.kind = .function) (hd : dp + 5 < recursionLimit) (hu : un + 200 < cLine) (hm : 0 ≤ many) (hm' : many ≤ 5) (hx : IL (HG s.heap) nv xs) (hl : xs.length ≤ 5) (ha : AD av ad) :
    Eff (model PR w) (AT dp un gd env outer) (call (.ref 285) [.int many tm, nv, .bool jf, av]) s [] (fun _ => True) (fun _ r => ∃ t, r = .str (guessF many xs jf ad) t) := by
  refine IL.elim' hx fun a vs n hE9e h1 h2 => ?_
  subst hE9e
  cases ad with
  | none =>
    simp only [AD] at ha
    subst ha
    k_dflt ((refine' call_E (Wn := []) ?kB ?kF ?kX ?kT ?kA ?kf ?kk News.nil ?ko ?kc ?kr ?kb ?kl ?km ?_ ?c1 ?c2 ?c3 ?c4; (case kA => exact rfl); (case kB => assumption); (case kF => assumption); (case kX => assumption); (case kT => assumption); (case kf => assumption); (case kk => assumption); (case ko => k_is); (case kc => k_is); (case kr => ktr_room); (case kb => exact BindsTo.of_eq rfl); (case c4 => decide); (case kl => exact locs rfl); (case c1 => exact rfl); (case c2 => exact rfl); (case c3 => exact rfl)))
    case km => exact fun _ _ _ _ h => h
    intro g L' h₁ F' N' B' X' T' G'
    have G := gsub_nil G'
    replace h1 := G _ _ h1
    have hlst : g.IsList a vs.toArray := ⟨_, h1, rfl, _, rfl⟩
    have hlen := h2.length
    clear G' hx
    k_unmd
    k_fold
    k_steps
    all_goals first | exact BodyEnd.intro (by assumption) trivial ⟨_, rfl⟩ | exact BodyEnd.intro (by assumption) trivial ⟨_, congrArg (fun x => Value.str x _) (by simp [guessF, *])⟩
  | some i =>
    simp only [AD] at ha
    obtain ⟨ti, rfl⟩ := ha
    k_dflt ((refine' call_E (Wn := []) ?kB ?kF ?kX ?kT ?kA ?kf ?kk News.nil ?ko ?kc ?kr ?kb ?kl ?km ?_ ?c1 ?c2 ?c3 ?c4; (case kA => exact rfl); (case kB => assumption); (case kF => assumption); (case kX => assumption); (case kT => assumption); (case kf => assumption); (case kk => assumption); (case ko => k_is); (case kc => k_is); (case kr => ktr_room); (case kb => exact BindsTo.of_eq rfl); (case c4 => decide); (case kl => exact locs rfl); (case c1 => exact rfl); (case c2 => exact rfl); (case c3 => exact rfl)))
    case km => exact fun _ _ _ _ h => h
    intro g L' h₁ F' N' B' X' T' G'
    have G := gsub_nil G'
    replace h1 := G _ _ h1
    have hlst : g.IsList a vs.toArray := ⟨_, h1, rfl, _, rfl⟩
    have hlen := h2.length
    clear G' hx
    k_unmd
    k_fold
    k_steps
    all_goals first | exact BodyEnd.intro (by assumption) trivial ⟨_, rfl⟩ | exact BodyEnd.intro (by assumption) trivial ⟨_, congrArg (fun x => Value.str x _) (by simp [guessF, *])⟩
end
end

section
open PySem PySem.W PyProof.Rows PyProof.Rows.LCg PySem.Calls
set_option maxRecDepth 100000
set_option maxHeartbeats 8000000
section
variable {w : World} {mean : ExcName → Option Value} {mg mb : Str → Option Value} {dp un : Nat} {gd : Option (List Code)} {env : Env} {outer : List Env} {A₀ : Around} {base h₀ : Heap} {L : Addr} {m : Str → Option Value} {s : Shared}

section
variable {prog : Program} {A : Around} {E : Value → Shared → Prop} {Q : Value → Shared → Prop} {l : Addr} {t : Tok} {n : Nat} {g : Heap} {led : List (Addr × Obj)}
theorem reads_n0 (N : News g L s.heap led) (hm : (l, listOf #[.none, .int 0 t] n) ∈ led) : Reads s.heap (.ref l) (.list [.none, .int 0]) (l :: ([] ++ ([] ++ []))) := .list (N _ hm).1 rfl rfl (.cons .none (.cons (.int 0 t) .nil))
theorem notin_none (N : News g L s.heap led) (hm : (l, listOf #[.none, .int 0 t] n) ∈ led) (hu : A.units + 64 < cLine) (h : Q (.bool false) s) : wpAny (model prog w) A (compareOp .NotIn .none (.ref l)) Q E s :=
  SeqAt.notIn_list_reads (reads_n0 N hm) .none (by simp [PyData.canLayAll0, PyData.canLay0]) (by simp [PyData.canLay0]) (by simp only [PyData.depth]; omega) (by simpa [PyData.eqv] using h)
theorem notin_int {i : Int} {u : Tok} (N : News g L s.heap led) (hm : (l, listOf #[.none, .int 0 t] n) ∈ led) (hu : A.units + 64 < cLine) (h : Q (.bool (decide (i ≠ 0))) s) : wpAny (model prog w) A (compareOp .NotIn (.int i u) (.ref l)) Q E s :=
  SeqAt.notIn_list_reads (reads_n0 N hm) (.int i u) (by simp [PyData.canLayAll0, PyData.canLay0]) (by simp [PyData.canLay0]) (by simp only [PyData.depth]; omega) (by
    have e : (!([PyData.none, PyData.int 0].any fun y => PyData.eqv y (PyData.int i))) = decide (i ≠ 0) := by
      simp only [List.any_cons, List.any_nil, PyData.eqv, Bool.false_or, Bool.or_false]
      by_cases hi : i = 0
      · subst hi; rfl
      · have : ((0 : Int) == i) = false := by rw [beq_eq_false_iff_ne]; exact fun e => hi e.symm
        rw [this]; simp [hi]
    rw [e]; exact h)
theorem notin_134 {i : Int} {u t1 t2 t3 : Tok} (N : News g L s.heap led) (hm : (l, listOf #[.int 1 t1, .int 3 t2, .int 4 t3] n) ∈ led) (hu : A.units + 64 < cLine) (h : Q (.bool (decide (i ≠ 1 ∧ i ≠ 3 ∧ i ≠ 4))) s) : wpAny (model prog w) A (compareOp .NotIn (.int i u) (.ref l)) Q E s :=
  SeqAt.notIn_list_reads (.list (N _ hm).1 rfl rfl (.cons (.int 1 t1) (.cons (.int 3 t2) (.cons (.int 4 t3) .nil)))) (.int i u) (by simp [PyData.canLayAll0, PyData.canLay0]) (by simp [PyData.canLay0]) (by simp only [PyData.depth]; omega) (by
    have e : (!([PyData.int 1, PyData.int 3, PyData.int 4].any fun y => PyData.eqv y (PyData.int i))) = decide (i ≠ 1 ∧ i ≠ 3 ∧ i ≠ 4) := by
      simp only [List.any_cons, List.any_nil, PyData.eqv, Bool.or_false]
      by_cases h1 : i = 1
      · subst h1; rfl
      · by_cases h3 : i = 3
        · subst h3; rfl
        · by_cases h4 : i = 4
          · subst h4; rfl
          · have e1 : ((1 : Int) == i) = false := by rw [beq_eq_false_iff_ne]; exact fun e => h1 e.symm
            have e3 : ((3 : Int) == i) = false := by rw [beq_eq_false_iff_ne]; exact fun e => h3 e.symm
            have e4 : ((4 : Int) == i) = false := by rw [beq_eq_false_iff_ne]; exact fun e => h4 e.symm
            rw [e1, e3, e4]; simp [h1, h3, h4]
    rw [e]; exact h)
end
local macro_rules | `(tactic| walk_at "compareOp NotIn none ref") => `(tactic| (k_here; k_dflt (refine notin_none (by k_asm) (.head _) (by ktr_units) ?_)))
local macro_rules | `(tactic| walk_at "compareOp NotIn int ref") => `(tactic| (k_here; k_dflt (refine notin_int (by k_asm) (.head _) (by ktr_units) ?_)))
local macro_rules | `(tactic| walk_at "compareOp NotIn int ref") => `(tactic| (k_here; k_dflt (refine notin_134 (by k_asm) (.head _) (by ktr_units) ?_)))
theorem law_guess_ok {many : Int} {tm : Tok} {nv av : Value} {xs : List Int} {jf : Bool} {ad : Option Int} (B : Below A₀ base outer h₀) (F : Fr h₀ L s.heap m) (X : (KK w.params).In h₀) (T : Top VV LO mean mg mb h₀) (hf : env.frame = some L) (hk : env.scope.kind = .function) (hd : dp + 5 < recursionLimit) (hu : un + 200 < cLine) (hm : 0 ≤ many) (hm' : many ≤ 5) (hx : IL (HG s.heap) nv xs) (hl : xs.length ≤ 5) (ha : AD av ad) :
    Eff (model PR w) (AT dp un gd env outer) (call (.ref 313) [.int many tm, nv, .bool jf, av]) s [] (fun _ => True) (fun _ r => ∃ t, r = .str (guessF many xs jf ad) t) := by
  refine IL.elim' hx fun a vs n hE9e h1 h2 => ?_
  subst hE9e
  cases ad with
  | none =>
    simp only [AD] at ha
    subst ha
    k_dflt ((refine' call_E (Wn := []) ?kB ?kF ?kX ?kT ?kA ?kf ?kk News.nil ?ko ?kc ?kr ?kb ?kl ?km ?_ ?c1 ?c2 ?c3 ?c4; (case kA => exact rfl); (case kB => assumption); (case kF => assumption); (case kX => assumption); (case kT => assumption); (case kf => assumption); (case kk => assumption); (case ko => k_is); (case kc => k_is); (case kr => ktr_room); (case kb => exact BindsTo.of_eq rfl); (case c4 => decide); (case kl => exact locs rfl); (case c1 => exact rfl); (case c2 => exact rfl); (case c3 => exact rfl)))
    case km => exact fun _ _ _ _ h => h
    intro g L' h₁ F' N' B' X' T' G'
    have G := gsub_nil G'
    replace h1 := G _ _ h1
    have hlst : g.IsList a vs.toArray := ⟨_, h1, rfl, _, rfl⟩
    have hlen := h2.length
    clear G' hx
    k_unmd
    k_fold
    k_steps
    all_goals first | (exfalso; simp_all; done) | exact BodyEnd.intro (by assumption) trivial ⟨_, rfl⟩ | exact BodyEnd.intro (by assumption) trivial ⟨_, congrArg (fun x => Value.str x _) (by simp_all [guessF])⟩
  | some i =>
    simp only [AD] at ha
    obtain ⟨ti, rfl⟩ := ha
    k_dflt ((refine' call_E (Wn := []) ?kB ?kF ?kX ?kT ?kA ?kf ?kk News.nil ?ko ?kc ?kr ?kb ?kl ?km ?_ ?c1 ?c2 ?c3 ?c4; (case kA => exact rfl); (case kB => assumption); (case kF => assumption); (case kX => assumption); (case kT => assumption); (case kf => assumption); (case kk => assumption); (case ko => k_is); (case kc => k_is); (case kr => ktr_room); (case kb => exact BindsTo.of_eq rfl); (case c4 => decide); (case kl => exact locs rfl); (case c1 => exact rfl); (case c2 => exact rfl); (case c3 => exact rfl)))
    case km => exact fun _ _ _ _ h => h
    intro g L' h₁ F' N' B' X' T' G'
    have G := gsub_nil G'
    replace h1 := G _ _ h1
    have hlst : g.IsList a vs.toArray := ⟨_, h1, rfl, _, rfl⟩
    have hlen := h2.length
    clear G' hx
    k_unmd
    k_fold
    k_steps
    all_goals first | (exfalso; simp_all; done) | exact BodyEnd.intro (by assumption) trivial ⟨_, rfl⟩ | exact BodyEnd.intro (by assumption) trivial ⟨_, congrArg (fun x => Value.str x _) (by simp_all [guessF])⟩
end
end

section
open PySem PySem.W PyProof.Rows PyProof.Rows.LCg PySem.Calls
set_option maxRecDepth 100000
set_option maxHeartbeats 8000000
section
variable {w : World} {mean : ExcName → Option Value} {mg mb : Str → Option Value} {dp un : Nat} {gd : Option (List Code)} {env : Env} {outer : List Env} {A₀ : Around} {base h₀ : Heap} {L : Addr} {m : Str → Option Value} {s : Shared}

local macro_rules | `(tactic| walk_at "call ref") => `(tactic| (k_here; refine Stop.ref [299, 306, 285, 313] (by decide) ?_))
local macro_rules | `(tactic| k_mem) => `(tactic| walk_at "km")
theorem IL.led {g h : Heap} {La a : Addr} {led : List (Addr × Obj)} {vs : List Value} {n : Nat} {xs : List Int} (N : News g La h led) (hm : (a, listOf vs.toArray n) ∈ led) (hi : IntsAre vs xs) : IL (HG h) (.ref a) xs := IL.of (N _ hm).1 hi
theorem pick3 {g h : Heap} {La : Addr} {led : List (Addr × Obj)} (_ : News g La h led) {q2 q1 q0 : Addr} {v2 v1 v0 : List Value} {n2 n1 n0 : Nat} {x2 x1 x0 : List Int} (m2 : (q2, listOf v2.toArray n2) ∈ led) (i2 : IntsAre v2 x2) (l2 : x2.length = 5) (m1 : (q1, listOf v1.toArray n1) ∈ led) (i1 : IntsAre v1 x1) (l1 : x1.length = 5)
    (m0 : (q0, listOf v0.toArray n0) ∈ led) (i0 : IntsAre v0 x0) (l0 : x0.length = 5) {ix : Nat} {r : Value} (hix : [Value.ref q2, Value.ref q1, Value.ref q0][ix]? = some r) :
    ∃ (na : Addr) (nvs : List Value) (ns : List Int) (nk : Nat), r = .ref na ∧ (na, listOf nvs.toArray nk) ∈ led ∧ IntsAre nvs ns ∧ ns.length = 5 := by
  match ix, hix with
  | 0, hix => cases hix; exact ⟨_, _, _, _, rfl, m2, i2, l2⟩
  | 1, hix => cases hix; exact ⟨_, _, _, _, rfl, m1, i1, l1⟩
  | 2, hix => cases hix; exact ⟨_, _, _, _, rfl, m0, i0, l0⟩
  | i + 3, hix => simp at hix
theorem pick6 {g h : Heap} {La qa : Addr} {led : List (Addr × Obj)} {t0 t1 t2 t3 : Tok} (N : News g La h ((qa, listOf #[.none, .none, .int 0 t0, .int 1 t1, .int 2 t2, .int 7 t3] 0) :: led)) :
    ∃ vs6 : List Value, h.get? qa = some (listOf vs6.toArray 0) ∧ vs6.length = 6 ∧ ∀ (i : Nat) v, vs6[i]? = some v → ∃ ad, AD v ad := by
  refine ⟨[_, _, _, _, _, _], (N _ (.head _)).1, rfl, fun i v e => ?_⟩
  match i, e with
  | 0, hix => cases hix; exact ⟨none, rfl⟩
  | 1, hix => cases hix; exact ⟨none, rfl⟩
  | 2, hix => cases hix; exact ⟨some 0, _, rfl⟩
  | 3, hix => cases hix; exact ⟨some 1, _, rfl⟩
  | 4, hix => cases hix; exact ⟨some 2, _, rfl⟩
  | 5, hix => cases hix; exact ⟨some 7, _, rfl⟩
  | i + 6, hix => simp at hix
theorem guess_right_ok {src : Addr} {o : Obj} (B : Below A₀ base outer h₀) (F : Fr h₀ L s.heap m) (X : (KK w.params).In h₀) (T : Top VV LO mean mg mb h₀) (hf : env.frame = some L) (hk : env.scope.kind = .function) (hd : dp + 25 < recursionLimit) (hu : un + 600 < cLine)
    (N : News h₀ L s.heap [(src, o)]) (ho : SrcOk o) :
    Eff (model PR w) (AT dp un gd env outer) (call (.ref 318) [.ref src]) s [src] (SrcAt src) (fun _ r => r = .bool true) := by
  k_dflt (refine' call_EC (Wn := [(_, _)]) ?kB ?kF ?kX ?kT ?kA ?kf ?kk ?kN ?ko ?kc ?kr ?kb ?kl ?kd ?km ?_ ?c1 ?c2 ?c3; (case kN => assumption); (case kA => exact rfl); (case kB => assumption); (case kF => assumption); (case kX => assumption); (case kT => assumption); (case kf => assumption); (case kk => assumption); (case ko => k_is); (case kc => k_is); (case kr => ktr_room); (case kb => exact BindsTo.of_eq rfl); (case kl => exact rfl); (case kd => decide +kernel); (case c1 => exact rfl); (case c2 => exact rfl); (case c3 => exact rfl))
  case km => exact fun _ _ _ _ h => h
  intro g L' h₁ tk₁ cells F' N' Y' lW B' X' T' G'
  have hlt : @LT.lt Nat _ src L' := lW _ (.head _)
  clear lW G'
  k_cells Y'
  rename_i oc hoc
  replace hoc : oc.data = .cell (some (.ref src)) := hoc
  simp only [List.cons_append, List.nil_append, List.append_nil] at N'
  k_unmd
  k_fold
  k_steps
  unfold Stop
  rename Fr _ _ _ _ => F9
  rename News _ _ _ _ => N9
  refine eff_useS0 (src := src) (Post := fun _ r => ∃ d t, r = .int d t ∧ 0 ≤ d ∧ d < 6) F9 N9 (by k_updF) (take_ok (by assumption) F9 (by assumption) (by assumption) (by exact rfl) (by exact rfl) (by ktr_room) (by ktr_units) (news_one N9 (.tail _ (.head _))) ho (by decide) (by decide)) ?_
  rintro y a ta b tb n h' tk' F8 N8 a0 b0 b1 ⟨many, tm, rfl, m0, m6⟩
  k_steps
  unfold Stop
  rename Fr _ _ _ _ => F7
  rename News _ _ _ _ => N7
  refine comp_frS (src := src) (n := 5) (P := fun i v => ∃ t, v = .int (0 + (i : Int)) t) (fun i v O y => ∃ x, IV O y x) F7 N7 (by k_updF) ⟨_, _, _, _, _, rfl, a0, b0, b1⟩ ?mono ?hit ?turns ?k rfl (by with_unfolding_all rfl) rfl (by decide) (.inl rfl) (by intro _; rfl)
  case mono => exact fun _ _ _ _ _ _ h => h
  case hit =>
    intro led₀ N₀ sub₀
    k_steps
    rename Fr _ _ _ _ => F6
    rename News _ _ _ _ => N6
    rename IsRange _ _ _ _ _ _ _ _ => hR2
    exact IterEndS.range F6 N6 (fun _ h => h) hR2 (ranges_ok 5 (by decide)).1 (ranges_ok 5 (by decide)).2 (by rw [sizeLine_eq]; decide) (sub₀ _ (by k_mem)) ⟨_, _, _, _, _, rfl, a0, b0, b1⟩
  case turns =>
    intro C i v h tk cl' led' o' hcl hi hv F2 ho2 hm2 N2 sub2 U2 hho
    have mc : (L' + 1, oc) ∈ led' := sub2 _ (by k_mem) (Nat.ne_of_gt (Nat.lt_succ_of_lt hlt))
    subst hcl
    k_steps
    unfold Stop
    rename Fr _ _ _ _ => F6
    rename News _ _ _ _ => N6
    refine Eff.use (take_ok (by assumption) F6 (by assumption) (by assumption) (by exact rfl) (by exact rfl) (by ktr_room) (by ktr_units) (news_one N6 hm2) ho2 (by decide) (by decide)) fun y h' tk' st i9 po => ?_
    obtain ⟨x, tx, rfl, _, _⟩ := po
    have hsN := N6 _ hm2
    exact ⟨h', tk', rfl, fr_stays F6 st (fun z => hsN.2.1 (List.mem_singleton.mp z).symm) (fun b hb => by rw [List.mem_singleton.mp hb]; exact hsN.2.2), i9, fun p hp hne => st _ _ (fun z => hne (List.mem_singleton.mp z)) (N6 p hp).1, x, tx, rfl⟩
  case k =>
    intro y new a ta b tb nn h' tk' F6 N6 hn6 a0 b0 b1 po
    have hns := ne_new hn6 (d := src) (N7 _ (.tail _ (.tail _ (.tail _ (.head _))))).1
    obtain ⟨xs, hxs, ⟨D, dvs, dn, rfl, d1, d2, d3⟩, _⟩ := CompPost.choose (R := fun _ _ => True) (CompPost.mono' po)
    k_steps
    unfold Stop
    rename Fr _ _ _ _ => F5
    rename News _ _ _ _ => N5
    rename_i q2 _ f2 q1 _ f1 _ q3 _ f3
    have ms : ∀ {x y z : Addr × Obj} {ob : Obj}, (src, ob) ∈ x :: (new ++ [y, z, (L' + 1, oc), (src, ob)]) := .tail _ (List.mem_append_right _ (.tail _ (.tail _ (.tail _ (.head _)))))
    have hne3 := ne_list (vs := [_, _, _]) (ws := [_, _]) (N5 _ (.head _)).1 (N5 _ ms).1 (by simp)
    refine eff_useS0 (src := src) (Post := fun _ r => ∃ i : Nat, [Value.ref q2, Value.ref q1, Value.ref D][i]? = some r) F5 N5 (by k_updF) (one_ok (by assumption) F5 (by assumption) (by assumption) (by exact rfl) (by exact rfl) (by ktr_room) (by ktr_units) (news_one N5 ms) ⟨_, _, _, _, _, rfl, a0, b0, b1⟩ (N5 _ (.head _)).1 hne3 (by simp) (by simp)) ?_
    rintro y a5 ta5 b5 tb5 n5 h5 tk5 F4 N4 a0 b0 b1 ⟨ix, hix⟩
    obtain ⟨na, nvs, ns, nk, rfl, hnm, hni, hnl⟩ := pick3 N4 (v2 := [_, _, _, _, _]) (.tail _ (List.mem_append_right _ (.tail _ (.head _)))) (.cons _ _ (.cons _ _ (.cons _ _ (.cons _ _ (.cons _ _ .nil))))) rfl (v1 := [_, _, _, _, _]) (.tail _ (List.mem_append_right _ (.head _))) (.cons _ _ (.cons _ _ (.cons _ _ (.cons _ _ (.cons _ _ .nil))))) rfl (.tail _ (List.mem_append_left _ d1)) (ints_of d2 d3) hxs hix
    have hnv := hni.length
    k_steps
    unfold Stop
    rename Fr _ _ _ _ => F3
    rename News _ _ _ _ => N3
    rename IntsAre _ (List.take _ _) => hI3
    refine eff_useS0 (src := src) (Post := fun _ r => ∃ d t, r = .int d t ∧ 0 ≤ d ∧ d < 2) F3 N3 (by k_updF) (take_ok (by assumption) F3 (by assumption) (by assumption) (by exact rfl) (by exact rfl) (by ktr_room) (by ktr_units) (news_one N3 (.tail _ (.tail _ (List.mem_append_right _ (.tail _ (.tail _ (.tail _ (.head _)))))))) ⟨_, _, _, _, _, rfl, a0, b0, b1⟩ (by decide) (by decide)) ?_
    rintro y a6 ta6 b6 tb6 n6 h6 tk6 F2 N2 a0 b0 b1 ⟨d, td, rfl, e0, e1⟩
    k_steps
    unfold Stop
    rename Fr _ _ _ _ => F1
    rename News _ _ _ _ => N1
    obtain ⟨vs6, hv6, hl6, hd6⟩ := pick6 N1
    have hne6 := ne_list (ws := [_, _]) hv6 (N1 _ (.tail _ (.tail _ (.tail _ (List.mem_append_right _ (.tail _ (.tail _ (.tail _ (.head _))))))))).1 (by rw [hl6]; simp)
    refine eff_useS0 (src := src) (Post := fun _ r => ∃ i : Nat, vs6[i]? = some r) F1 N1 (by k_updF) (one_ok (by assumption) F1 (by assumption) (by assumption) (by exact rfl) (by exact rfl) (by ktr_room) (by ktr_units) (news_one N1 (.tail _ (.tail _ (.tail _ (List.mem_append_right _ (.tail _ (.tail _ (.tail _ (.head _))))))))) ⟨_, _, _, _, _, rfl, a0, b0, b1⟩ hv6 hne6 (by omega) (by omega)) ?_
    rintro y a7 ta7 b7 tb7 n7 h7 tk7 F0 N0 a0 b0 b1 ⟨ix2, hix2⟩
    obtain ⟨ad, had⟩ := hd6 _ _ hix2
    k_steps
    unfold Stop
    rename Fr _ _ _ _ => F9
    rename News _ _ _ _ => N9
    refine eff_use0 F9 N9 (guessed_ok (by assumption) F9 (by assumption) (by assumption) (by exact rfl) (by exact rfl) (by ktr_room) (by ktr_units) m0 (by omega) (IL.led N9 (by k_mem) hI3) (by rw [List.length_take]; omega) had) ?_
    rintro y8 h8 tk8 O8 F8 N8 _ ⟨t8, rfl⟩
    k_steps
    unfold Stop
    rename Fr _ _ _ _ => F9
    rename News _ _ _ _ => N9
    refine eff_use0 F9 N9 (law_guess_ok (by assumption) F9 (by assumption) (by assumption) (by exact rfl) (by exact rfl) (by ktr_room) (by ktr_units) m0 (by omega) (IL.led N9 (by k_mem) hI3) (by rw [List.length_take]; omega) had) ?_
    rintro y8 h8 tk8 O8 F8 N8 _ ⟨t8, rfl⟩
    k_steps
    exact BodyEnd.intro F8 ⟨_, (N8 _ (by k_mem : (src, listOf #[.int a7 ta7, .int b7 tb7] n7) ∈ _)).1, _, _, _, _, _, rfl, a0, b0, b1⟩ (by simp)
end
end

section
open PySem PySem.W PyProof.Rows PyProof.Rows.LCg PySem.Calls
set_option maxRecDepth 100000
set_option maxHeartbeats 8000000
section
variable {w : World} {mean : ExcName → Option Value} {mg mb : Str → Option Value} {dp un : Nat} {gd : Option (List Code)} {env : Env} {outer : List Env} {A₀ : Around} {base h₀ : Heap} {L : Addr} {m : Str → Option Value} {s : Shared}

local macro_rules | `(tactic| walk_at "new") => `(tactic| ((first | apply plane_use | apply pic_use | apply turn_use); iterate 8 walk_at "h"))
local macro_rules | `(tactic| walk_at "call ref") => `(tactic| (k_here; k_dflt (walk_at "new"; intros; rename_i l1 l2; (try k_lt l1); (try k_lt2 l2); (try dsimp only); (try k_fold))))

local macro_rules | `(tactic| walk_at "call ref") => `(tactic| (k_here; refine Stop.ref [299] (by decide) ?_))
local macro_rules | `(tactic| k_mem) => `(tactic| walk_at "km")
local macro_rules | `(tactic| walk_at "exec Assign") => `(tactic| (k_here; (with_reducible show wpAny _ _ (exec (Stmt.Assign [Expr.Name _ _] (Expr.Subscript (Expr.Dict _ _ _) _ _) _) _) _ _ _); refine Stop.go ?_))
/-- what the loop of _law_picture keeps -/
inductive PicR (fa src : Addr) (mid : List (Addr × Obj)) (W H : Nat) (i : Nat) (led : List (Addr × Obj)) : Prop
  | mk : ∀ (vs : List Value) (nn : Nat) (a b : Int) (ta tb : Tok) (n : Nat) (imm : List (Addr × Obj)) (ps : List Pln), led = (fa, listOf vs.toArray nn) :: (mid ++ (src, listOf #[.int a ta, .int b tb] n) :: imm) → 0 ≤ a → 0 ≤ b → b < 2147483647 → vs.length = i → ps.length = i → Sized W H ps → (∀ p ∈ imm, p.1 ≠ fa ∧ p.1 ≠ src) → (∀ (j : Nat) v p, vs[j]? = some v → ps[j]? = some p → PL (fun a o => (a, o) ∈ imm) v p) → PicR fa src mid W H i led
theorem PicR.elim {fa src : Addr} {mid : List (Addr × Obj)} {W H i : Nat} {led : List (Addr × Obj)} (h : PicR fa src mid W H i led) {C : Prop}
    (k : ∀ (vs : List Value) (nn : Nat) (a b : Int) (ta tb : Tok) (n : Nat) (imm : List (Addr × Obj)) (ps : List Pln), led = (fa, listOf vs.toArray nn) :: (mid ++ (src, listOf #[.int a ta, .int b tb] n) :: imm) →
      0 ≤ a → 0 ≤ b → b < 2147483647 → vs.length = i → ps.length = i → Sized W H ps → (∀ p ∈ imm, p.1 ≠ fa ∧ p.1 ≠ src) → (∀ (j : Nat) v p, vs[j]? = some v → ps[j]? = some p → PL (fun a o => (a, o) ∈ imm) v p) → C) : C := by
  obtain ⟨vs, nn, a, b, ta, tb, n, imm, ps, h0, h1, h2, h3, h4, h5, h6, h7, h8⟩ := h
  exact k vs nn a b ta tb n imm ps h0 h1 h2 h3 h4 h5 h6 h7 h8
theorem look6 {m' : Str} {t1 t2 t3 t4 t5 t6 u1 u2 u3 u4 u5 u6 : Tok} (hm : m' ∈ modelsL) :
    PySem.Spec.lookup (PyData.str m') (strData [(.str "grey" t1, .int 1 u1), (.str "rgb" t2, .int 3 u2), (.str "ycc" t3, .int 3 u3), (.str "cmyk" t4, .int 4 u4), (.str "ycck" t5, .int 4 u5), (.str "raw" t6, .int 2 u6)]) = some (PyData.int (cnt m' : Int)) := by
  simp only [modelsL, List.mem_cons, List.not_mem_nil, or_false] at hm
  rcases hm with rfl | rfl | rfl | rfl | rfl | rfl <;> rfl
theorem law_picture_ok {src : Addr} {o : Obj} {M : Int} {md : Str} {tm t2 : Tok} (B : Below A₀ base outer h₀) (F : Fr h₀ L s.heap m) (X : (KK w.params).In h₀) (T : Top VV LO mean mg mb h₀) (hf : env.frame = some L) (hk : env.scope.kind = .function) (hd : dp + 25 < recursionLimit) (hu : un + 600 < cLine)
    (N : News h₀ L s.heap [(src, o)]) (ho : SrcOk o) (hm : md ∈ modelsL) (hM : 0 ≤ M) (hM' : M ≤ 255) :
    Eff (model PR w) (AT dp un gd env outer) (call (.ref 330) [.ref src, .str md tm, .int M t2]) s [src] (SrcAt src) (fun O r => ∃ ps W H, PLS O r ps ∧ ps.length = cnt md ∧ Sized W H ps ∧ 1 ≤ W ∧ W ≤ 3 ∧ 1 ≤ H ∧ H ≤ 2) := by
  k_dflt (refine' call_EC (Wn := [(_, _)]) ?kB ?kF ?kX ?kT ?kA ?kf ?kk ?kN ?ko ?kc ?kr ?kb ?kl ?kd ?km ?_ ?c1 ?c2 ?c3; (case kN => assumption); (case kA => exact rfl); (case kB => assumption); (case kF => assumption); (case kX => assumption); (case kT => assumption); (case kf => assumption); (case kk => assumption); (case ko => k_is); (case kc => k_is); (case kr => ktr_room); (case kb => exact BindsTo.of_eq rfl); (case kl => exact rfl); (case kd => decide +kernel); (case c1 => exact rfl); (case c2 => exact rfl); (case c3 => exact rfl))
  case km => exact fun O O' v k ⟨ps, W, H, a, b⟩ => ⟨ps, W, H, PLS.mono _ _ _ _ k a, b⟩
  intro g L' h₁ tk₁ cells F' N' Y' lW B' X' T' G'
  have hlt : @LT.lt Nat _ src L' := lW _ (.head _)
  clear lW G'
  k_cells Y'
  rename_i ow om os how hom hos
  replace how : ow.data = .cell none := how
  replace hom : om.data = .cell (some (.int M t2)) := hom
  replace hos : os.data = .cell (some (.ref src)) := hos
  simp only [List.cons_append, List.nil_append] at N'
  k_unmd
  k_fold
  k_steps
  unfold Stop
  rename Fr _ _ _ _ => F9
  rename News _ _ _ _ => N9
  with_reducible refine wpAny_Assign_Name ?mainA ?hsw
  case hsw => with_unfolding_all rfl
  case mainA =>
    with_reducible refine cut (fun v => ∃ t, v = .int (cnt md : Int) t) F9 N9 ?cutA ?cutB
    case cutA =>
      iterate 24 (walk1 <;> (try dsimp only))
      k_dflt (refine' getItem_tab PyProof.V.same_str (strKind_is _ _ _ _) ?k1 ?k2 ?_)
      case k1 => k_tabat
      case k2 => exact look6 hm
      intro v hv'
      obtain ⟨tv, rfl⟩ := PyProof.V.Flat.int_inv hv'
      rename Fr _ _ _ _ => F8
      rename News _ _ _ _ => N8
      exact CutV.intro F8 N8 (fun p hp => .tail _ hp) ⟨_, rfl⟩
    case cutB =>
      rintro v h' tk' F8 N8 ⟨t, rfl⟩
      k_steps
      unfold Stop
      rename Fr _ _ _ _ => F7
      rename News _ _ _ _ => N7
      refine eff_useS0 (src := src) (Post := fun _ r => ∃ d t, r = .int d t ∧ 0 ≤ d ∧ d < 3) F7 N7 (by k_updF) (take_ok (by assumption) F7 (by assumption) (by assumption) (by exact rfl) (by exact rfl) (by ktr_room) (by ktr_units) (news_one N7 (.tail _ (.tail _ (.tail _ (.head _))))) ho (by decide) (by decide)) ?_
      rintro y a ta b tb n h2 tk2 F6 N6 a0 b0 b1 ⟨dw, tw, rfl, w0, w3⟩
      k_steps
      unfold Stop
      rename Fr _ _ _ _ => F5
      rename News _ _ _ _ => N5
      refine eff_useS0 (src := src) (Post := fun _ r => ∃ d t, r = .int d t ∧ 0 ≤ d ∧ d < 2) F5 N5 (by k_updF) (take_ok (by assumption) F5 (by assumption) (by assumption) (by exact rfl) (by exact rfl) (by ktr_room) (by ktr_units) (news_one N5 (.tail _ (.tail _ (.tail _ (.head _))))) ⟨_, _, _, _, _, rfl, a0, b0, b1⟩ (by decide) (by decide)) ?_
      rintro y a2 ta2 b2 tb2 n2 h3 tk3 F4 N4 a0 b0 b1 ⟨dh, th, rfl, e0, e2⟩
      k_steps
      unfold Stop
      rename Fr _ _ _ _ => F3
      rename News _ _ _ _ => N3
      rename_i D8 _ l1D _ _ ow8 how8 _ _ fa _ lfa _
      obtain ⟨W, hW⟩ : ∃ W : Nat, 1 + dw = (W : Int) := ⟨(1 + dw).toNat, by omega⟩
      obtain ⟨H, hH⟩ : ∃ H : Nat, 1 + dh = (H : Int) := ⟨(1 + dh).toNat, by omega⟩
      rw [hW] at N3 how8
      rw [hH] at F3 N3
      refine for_range1 (n := cnt md) (PicR fa src [(D8, { cls := .type "tuple", data := .seq #[.int W tk2, .int H tk3] }), (L' + 1 + 1 + 1, ow8), (L' + 1 + 1, om), (L' + 1, os)] W H) F3 rfl rfl PassesOwn.never rfl rfl ?head (by intro _; rfl)
      case head =>
        k_steps
        rename Fr _ _ _ _ => F8
        rename News _ _ _ _ => N8
        rename IsRange _ _ _ _ _ _ _ _ => hR
        have hc4 : cnt md ≤ 4 := by rcases cnt_models hm with h | h | h | h <;> omega
        refine ForR1.intro F8 N8 hR (ranges_ok _ (by omega)).1 (ranges_ok _ (by omega)).2 ⟨[], 0, _, _, _, _, _, [], [], rfl, a0, b0, b1, rfl, rfl, fun _ h => (nomatch h), fun _ h => (nomatch h), fun j v p h => by simp at h⟩ ?turn ?done
        case turn =>
          rintro i ti I led' s' own hi hPR off hown ⟨oI, hI⟩ F7 N7
          refine hPR.elim fun vs nn a b ta tb n imm ps hled a0 b0 b1 hlen hplen hsz himm hres => ?_
          subst hled
          simp only [List.cons_append, List.nil_append] at N7 off
          have hIx : ∀ p ∈ own, p.1 ≠ fa ∧ p.1 ≠ src := fun p hp => by
            rw [hown p hp]
            exact ⟨Ne.symm (off _ (.head _)), Ne.symm (off _ (.tail _ (.tail _ (.tail _ (.tail _ (.tail _ (.head _)))))))⟩
          have g1 : ∀ p ∈ imm ++ own, p.1 ≠ fa := fun p hp => (List.mem_append.mp hp).elim (fun h => (himm p h).1) fun h => (hIx p h).1
          have g2 : ∀ p ∈ imm ++ own, p.1 ≠ src := fun p hp => (List.mem_append.mp hp).elim (fun h => (himm p h).2) fun h => (hIx p h).2
          have hds : D8 ≠ src := Nat.ne_of_gt (by obtain ⟨_, _, _, h⟩ := l1D; exact h)
          have hfs : fa ≠ src := Nat.ne_of_gt (by obtain ⟨_, _, _, _, h⟩ := lfa; exact h)
          have hL1 : L' + 1 ≠ src := Nat.ne_of_gt (Nat.lt_succ_of_lt hlt)
          have hL2 : L' + 1 + 1 ≠ src := Nat.ne_of_gt (Nat.lt_succ_of_lt (Nat.lt_succ_of_lt hlt))
          have hL3 : L' + 1 + 1 + 1 ≠ src := Nat.ne_of_gt (Nat.lt_succ_of_lt (Nat.lt_succ_of_lt (Nat.lt_succ_of_lt hlt)))
          k_steps
          unfold Stop
          rename Fr _ _ _ _ => F6
          rename News _ _ _ _ => N6
          refine comp_frS (src := src) (n := H) (P := fun i v => ∃ t, v = .int (0 + (i : Int)) t) (fun i v O y => ∃ r, IL O y r ∧ r.length = W) F6 N6 (.tail hfs (.tail hds (.tail hL3 (.tail hL2 (.tail hL1 (.head g2)))))) ⟨_, _, _, _, _, rfl, a0, b0, b1⟩ ?mono1 ?hit1 ?turns1 ?kk1 rfl (by with_unfolding_all rfl) rfl (by decide) (.inl rfl) (by intro _; rfl)
          case mono1 => rintro i v O O' y k ⟨r, h1, h2⟩; exact ⟨r, IL.mono _ _ _ _ k h1, h2⟩
          case hit1 =>
            intro led₀ N₀ sub₀
            k_steps
            rename Fr _ _ _ _ => F5
            rename News _ _ _ _ => N5
            rename IsRange _ _ _ _ _ _ _ _ => hR2
            exact IterEndS.range F5 N5 (fun _ h => h) hR2 (ranges_ok H (by omega)).1 (ranges_ok H (by omega)).2 (by rw [sizeLine_eq]; omega) (sub₀ _ (.tail _ (.tail _ (.tail _ (.tail _ (.tail _ (.head _))))))) ⟨_, _, _, _, _, rfl, a0, b0, b1⟩
          case turns1 =>
            intro C yi v h tk cl' led' o' hcl hi hv F2 ho2 hm2 N2 sub2 U2 hho
            have m3 : (L' + 1 + 1 + 1, ow8) ∈ offS src led' := mem_offS (sub2 _ (.tail _ (.tail _ (.head _))) hL3) hL3
            have m2 : (L' + 1 + 1, om) ∈ offS src led' := mem_offS (sub2 _ (.tail _ (.tail _ (.tail _ (.head _)))) hL2) hL2
            have m1 : (L' + 1, os) ∈ offS src led' := mem_offS (sub2 _ (.tail _ (.tail _ (.tail _ (.tail _ (.head _))))) hL1) hL1
            replace N2 := news_offS N2 hm2
            subst hcl
            k_steps
            unfold Stop
            rename Fr _ _ _ _ => F5
            rename News _ _ _ _ => N5
            refine comp_frS (src := src) (n := W) (P := fun i v => ∃ t, v = .int (0 + (i : Int)) t) (fun i v O y => ∃ x, IV O y x) F5 N5 upd_offS ho2 ?mono2 ?hit2 ?turns2 ?kk2 rfl (by with_unfolding_all rfl) rfl (by decide) (.inl rfl) (by intro _; rfl)
            case mono2 => exact fun _ _ _ _ _ _ h => h
            case hit2 =>
              intro led₀ N₀ sub₀
              have m4 := sub₀ _ (.tail _ m3)
              k_steps
              rename Fr _ _ _ _ => F5
              rename News _ _ _ _ => N5
              rename IsRange _ _ _ _ _ _ _ _ => hR2
              exact IterEndS.range F5 N5 (fun _ h => h) hR2 (ranges_ok W (by omega)).1 (ranges_ok W (by omega)).2 (by rw [sizeLine_eq]; omega) (sub₀ _ (.head _)) ho2
            case turns2 =>
              intro C2 xi v h tk cl' led3 o3 hcl hi hv F4 ho3 hm3 N4 sub3 U3 hho
              have m5 := sub3 _ (.tail _ m2) hL2
              have m6 := sub3 _ (.tail _ m1) hL1
              subst hcl
              k_steps
              unfold Stop
              rename Fr _ _ _ _ => F3
              rename News _ _ _ _ => N3
              refine Eff.use (take_ok (by assumption) F3 (by assumption) (by assumption) (by exact rfl) (by exact rfl) (by ktr_room) (by ktr_units) (news_one N3 hm3) ho3 (by omega) (by omega)) fun y h' tk' st i9 po => ?_
              obtain ⟨x, tx, rfl, _, _⟩ := po
              have hsN := N3 _ hm3
              exact ⟨h', tk', rfl, fr_stays F3 st (fun z => hsN.2.1 (List.mem_singleton.mp z).symm) (fun b hb => by rw [List.mem_singleton.mp hb]; exact hsN.2.2), i9, fun p hp hne => st _ _ (fun z => hne (List.mem_singleton.mp z)) (N3 p hp).1, x, tx, rfl⟩
            case kk2 =>
              intro y new a ta b tb nn h' tk' F4 N4 hn4 a0 b0 b1 po
              obtain ⟨r, hr, hil, _⟩ := CompPost.choose (R := fun _ _ => True) (CompPost.mono' po)
              exact EltEndS.intro F4 N4 (List.mem_append_right _ (.head _)) a0 b0 b1 (fun p hp hne => List.mem_append_right _ (.tail _ (mem_offS hp hne))) ⟨r, IL.mono _ _ _ _ (fun a o h => ⟨(N4 _ (List.mem_append_left _ h)).1, hn4 _ h⟩) hil, hr⟩
          case kk1 =>
            intro y new a ta b tb n5 h' tk' F5 N5 hn5 a0 b0 b1 po
            obtain ⟨rows, hrows, hRW, hlenr⟩ := CompPost.choose po
            refine po.elim fun D ys hy _ _ _ => ?_
            subst hy
            have hnf := ne_new hn5 (d := fa) (N6 _ (.head _)).1
            have hns := ne_new hn5 (d := src) (N6 _ (.tail _ (.tail _ (.tail _ (.tail _ (.tail _ (.head _))))))).1
            have hnI := ne_new hn5 (d := I) (N6 _ (.tail _ (.tail _ (.tail _ (.tail _ (.tail _ (.tail _ (List.mem_append_right _ hI)))))))).1
            have hsz2 : vs.toArray.size ≤ sizeLine := by rw [sizeLine_eq, List.size_toArray]; omega
            k_steps
            rename Fr _ _ _ _ => F4
            rename News _ _ _ _ => N4
            refine forEnd_push (of0 := listOf vs.toArray nn) (mid := [(D8, { cls := .type "tuple", data := .seq #[.int W tk2, .int H tk3] }), (L' + 1 + 1 + 1, ow8), (L' + 1 + 1, om), (L' + 1, os), (src, listOf #[.int a ta, .int b tb] n5)]) F4 N4 (by assumption) (by assumption) ?off hI hnI fun nx nd => ?nxt
            case off =>
              intro p hp
              simp only [List.cons_append, List.nil_append, List.mem_cons] at hp
              rcases hp with rfl | rfl | rfl | rfl | rfl | rfl | hp
              · exact off _ (.head _)
              · exact off _ (.tail _ (.head _))
              · exact off _ (.tail _ (.tail _ (.head _)))
              · exact off _ (.tail _ (.tail _ (.tail _ (.head _))))
              · exact off _ (.tail _ (.tail _ (.tail _ (.tail _ (.head _)))))
              · show src ≠ I
                exact off _ (.tail _ (.tail _ (.tail _ (.tail _ (.tail _ (.head _))))))
              · exact off _ (.tail _ (.tail _ (.tail _ (.tail _ (.tail _ (.tail _ hp))))))
            case nxt =>
              have sd := (by assumption : ∀ p ∈ new ++ _, p.1 < _) (src, _) (List.mem_append_right _ (.tail _ (.tail _ (.tail _ (.tail _ (.tail _ (.head _)))))))
              refine ⟨_, _, a, b, ta, tb, n5, _, ps ++ [⟨W, H, rows⟩], rfl, a0, b0, b1, by rw [List.length_append, hlen]; rfl, by rw [List.length_append, hplen]; rfl, ?sz, ?im, ?re⟩
              case sz =>
                intro p hp
                rcases List.mem_append.mp hp with hp | hp
                · exact hsz p hp
                · rw [List.mem_singleton.mp hp]
                  exact ⟨rfl, rfl, hrows, fun r hr => by obtain ⟨k, hk⟩ := List.getElem?_of_mem hr; exact hlenr k r hk⟩
              case im =>
                intro q hq
                replace hq : q ∈ (_, _) :: (_, _) :: (new ++ imm) := hq
                simp only [List.mem_cons, List.mem_append] at hq
                rcases hq with h | h | h | h
                · rw [h]; exact ⟨Ne.symm nx, Nat.ne_of_gt (Nat.lt_trans sd (by assumption))⟩
                · rw [h]; exact ⟨Ne.symm nd, Nat.ne_of_gt sd⟩
                · exact ⟨hnf q h, hns q h⟩
                · exact himm q h
              case re =>
                intro j v' p' hj hp'
                rcases Nat.lt_trichotomy j vs.length with z | z | z
                · rw [List.getElem?_append_left z] at hj
                  rw [List.getElem?_append_left (by omega)] at hp'
                  exact PL.mono _ _ _ _ (fun a o h => .tail _ (.tail _ (List.mem_append_right _ h))) (hres j v' p' hj hp')
                · subst z
                  rw [hlen, ← hplen] at hp'
                  simp at hj hp'
                  subst hj
                  subst hp'
                  exact ⟨_, _, _, _, _, _, _, _, _, _, _, _, rfl, .head _, .tail _ (.head _), RW.mono _ _ _ _ (fun a o h => .tail _ (.tail _ (List.mem_append_left _ h))) hRW⟩
                · rw [List.getElem?_eq_none (by rw [List.length_append, List.length_singleton]; exact z)] at hj; cases hj
        case done =>
          intro h' tk' u led' F7 N7 hPR
          refine hPR.elim fun vs nn a b ta tb n imm ps hled a0 b0 b1 hlen hplen hsz himm hres => ?_
          subst hled
          simp only [List.cons_append, List.nil_append] at N7
          k_steps
          rename Fr _ _ _ _ => F6
          rename News _ _ _ _ => N6
          refine BodyEnd.intro F6 ⟨_, (N6 _ (.tail _ (.tail _ (.tail _ (.tail _ (.tail _ (.head _)))))) ).1, _, _, _, _, _, rfl, a0, b0, b1⟩ ⟨ps, W, H, ⟨_, _, _, rfl, ⟨(N6 _ (.head _)).1, (N6 _ (.head _)).2.2, fun z => Nat.ne_of_gt (by obtain ⟨_, _, _, _, h⟩ := lfa; exact h) (List.mem_singleton.mp z), (N6 _ (.head _)).2.1⟩, by rw [hlen, hplen], fun j v p h1 h2 => PL.mono _ _ _ _ (fun a o h => ?look) (hres j v p h1 h2)⟩, hplen, hsz, by omega, by omega, by omega, by omega⟩
          have hq := N6 _ (.tail _ (.tail _ (.tail _ (.tail _ (.tail _ (.tail _ h))))))
          exact ⟨hq.1, hq.2.2, fun z => (himm _ h).2 (List.mem_singleton.mp z), hq.2.1⟩
end
end

section
open PySem PySem.W PyProof.Rows PyProof.Rows.LCg PySem.Calls
set_option maxRecDepth 100000
set_option maxHeartbeats 8000000
section
variable {w : World} {mean : ExcName → Option Value} {mg mb : Str → Option Value} {dp un : Nat} {gd : Option (List Code)} {env : Env} {outer : List Env} {A₀ : Around} {base h₀ : Heap} {L : Addr} {m : Str → Option Value} {s : Shared}

local macro_rules | `(tactic| k_mem) => `(tactic| walk_at "km")
local macro_rules | `(tactic| k_inst) => `(tactic| exact inst_led (by k_asm) (by walk_at "km") (by walk_at "km"))
local macro_rules | `(tactic| walk_at "compareOp Eq ref ref") => `(tactic| walk_at "st")
local macro_rules | `(tactic| walk_at "compareOp In ref ref") => `(tactic| walk_at "st")
local macro_rules | `(tactic| walk_at "compareOp NotEq ref ref") => `(tactic| walk_at "st")
local macro_rules | `(tactic| walk_at "call ref") => `(tactic| (k_here; refine Stop.ref [335, 259, 209, 67, 74] (by decide) ?_))
local macro_rules | `(tactic| walk_at "exec If") => `(tactic| (k_here; (with_reducible show wpAny _ _ (exec (Stmt.If _ _ _ _) _) _ _ _); (fail_if_success (with_reducible show wpAny _ _ _ (CutV _ _ _ _ _ _) _ _)); (fail_if_success (with_reducible show wpAny _ _ _ (CutW _ _ _ _ _ _) _ _)); (fail_if_success (with_reducible show wpAny _ _ (exec (Stmt.If (Expr.Compare (Expr.Subscript _ _ _) _ _ _) _ _ _) _) _ _ _)); refine Stop.go ?_))
local macro_rules | `(tactic| walk_at "getItem ref str") => `(tactic| (k_here; k_dflt (refine' getItem_tab PyProof.V.same_str (strKind_is _ _ _ _) ?k1 ?k2 ?_; (case k1 => k_tabat); (case k2 => exact look6 (by assumption)); k_whole); intro _ hv'; (obtain ⟨tv', hv''⟩ := PyProof.V.Flat.int_inv hv'); subst hv''))
local macro_rules | `(tactic| walk_at "call builtin:len") => `(tactic| (k_here; (with_reducible show wpAny _ _ (call (Value.builtin "len") [Value.ref _]) _ _ _); k_dflt (refine len_led (by k_asm) (by k_mem) (by omega) ?_)))
local macro_rules | `(tactic| walk_at "subscriptTail") => `(tactic| walk_at "it")
local macro_rules | `(tactic| walk_at "subscriptTail Subscript") => `(tactic| walk_at "it")
local macro_rules | `(tactic| walk_at "subscriptTail Subscript Name Constant Constant ref int") => `(tactic| walk_at "it")
local macro_rules | `(tactic| walk_at "subscriptTail Subscript Name Constant Name ref int") => `(tactic| walk_at "it")
local macro_rules | `(tactic| walk_at "subscriptTail Name Constant ref int") => `(tactic| walk_at "it")
local macro_rules | `(tactic| walk_at "subscriptTail Name Name ref int") => `(tactic| walk_at "it")
local macro_rules | `(tactic| walk_at "subscriptTail Name") => `(tactic| walk_at "it")
theorem law_turned_right_ok {v : Value} {src goal : Str} {prec : Int} {ps : List Pln} {W H : Nat} {tm tp : Tok} (B : Below A₀ base outer h₀) (F : Fr h₀ L s.heap m) (X : (KK w.params).In h₀) (T : Top VV LO mean mg mb h₀) (hf : env.frame = some L) (hk : env.scope.kind = .function) (hd : dp + 50 < recursionLimit) (hu : un + 600 < cLine) (hv : Valid src goal) (hp : PC (HG s.heap) v ⟨src, prec, ps⟩) (hm : src ∈ modelsL) (hg : goal ∈ modelsL) (hl : ps.length = cnt src) (hs : Sized W H ps)
    (w1 : 1 ≤ W) (w3 : W ≤ 3) (h1' : 1 ≤ H) (h22 : H ≤ 2) (hp2 : 2 ≤ prec) (hp8 : prec ≤ 8) :
    Eff (model PR w) (AT dp un gd env outer) (call (.ref 345) [v, .str goal tm, .int prec tp]) s [] (fun _ => True) (fun _ r => r = .bool true) := by
  have ok := hs.ok w1 w3 h1' h22
  have hn4 : ps.length ≤ 4 := by rcases cnt_models hm with h | h | h | h <;> omega
  refine hp.elim fun a d e1 e2 e3 t1 t2 t3 t4 t5 rv n hv1 h1 h2 h3 => ?_
  subst hv1
  refine h3.elim fun pa pvs pn hrv p1 p2 p3 => ?_
  subst hrv
  k_dflt ((refine' call_EC (Wn := []) ?kB ?kF ?kX ?kT ?kA ?kf ?kk News.nil ?ko ?kc ?kr ?kb ?kl ?kd ?km ?_ ?c1 ?c2 ?c3; (case kA => exact rfl); (case kB => assumption); (case kF => assumption); (case kX => assumption); (case kT => assumption); (case kf => assumption); (case kk => assumption); (case ko => k_is); (case kc => k_is); (case kr => ktr_room); (case kb => exact BindsTo.of_eq rfl); (case kl => exact rfl); (case kd => decide +kernel); (case c1 => exact rfl); (case c2 => exact rfl); (case c3 => exact rfl)))
  case km => exact fun _ _ _ _ h => h
  intro g L' h₁ tk₁ cells F' N' Y' lW B' X' T' G'
  have G := gsub_nil G'
  replace h1 := G _ _ h1
  replace h2 := G _ _ h2
  replace h3 := PLS.mono _ _ _ _ G h3
  replace hp := PC.mono _ _ _ _ G hp
  replace p1 := G _ _ p1
  replace p3 := fun i v x e1 e2 => PL.mono _ _ _ _ G (p3 i v x e1 e2)
  clear G'
  dsimp only at h2 h3 p2 p3
  k_cells Y'
  rename_i oy om ob hoy hom hob
  replace hoy : oy.data = .cell none := hoy
  replace hom : om.data = .cell none := hom
  replace hob : ob.data = .cell none := hob
  simp only [List.cons_append, List.nil_append, List.append_nil] at N'
  k_unmd
  k_fold
  k_steps
  unfold Stop
  rename Fr _ _ _ _ => F9
  rename News _ _ _ _ => N9
  refine use_prs F9 N9 (rows_ok (by assumption) F9 (by assumption) (by assumption) (by exact rfl) (by exact rfl) (by ktr_room) (PLS.mono _ _ _ _ F9.keep h3) hn4 ok) ?_
  intro ba bvs bn newB h2' tk2 F8 N8 hnB poB b1 b2 b3
  have nB1 := ne_new hnB (d := L' + 1) (N9 _ (.tail _ (.tail _ (.head _)))).1
  have nB2 := ne_new hnB (d := L' + 1 + 1) (N9 _ (.tail _ (.head _))).1
  have nB3 := ne_new hnB (d := L' + 1 + 1 + 1) (N9 _ (.head _)).1
  k_steps
  unfold Stop
  rename Fr _ _ _ _ => F7
  rename News _ _ _ _ => N7
  refine use_rpc F7 N7 (turned_ok (by assumption) F7 (by assumption) (by assumption) (by exact rfl) (by exact rfl) (by ktr_room) (by ktr_units) hv (PC.mono _ _ _ _ F7.keep hp) hm hl hs w1 w3 h1' h22 hp2 hp8) ?_
  intro rs ta td f1 f2 f3 u1 u2 u3 u4 u5 tn tpa tvs tpn newT h3' tk3 F6 N6 hnT hR poT q1 q2 q3 r1 r2 r3
  have nTB : ∀ p ∈ newT, ∀ q ∈ newB, p.1 ≠ q.1 := fun p hp q hq => ne_new hnT (N7 _ (List.mem_append_left _ hq)).1 p hp
  have nT1 := ne_new hnT (d := L' + 1) (N7 _ (List.mem_append_right _ (.tail _ (.tail _ (.head _))))).1
  have nT2 := ne_new hnT (d := L' + 1 + 1) (N7 _ (List.mem_append_right _ (.tail _ (.head _)))).1
  have nT3 := ne_new hnT (d := L' + 1 + 1 + 1) (N7 _ (List.mem_append_right _ (.head _))).1

  k_steps
  unfold Stop
  rename Fr _ _ _ _ => F5
  rename News _ _ _ _ => N5
  rename_i D1 _ l1D _ _ ob8 hob8 _
  replace N5 : News g L' _ (newT ++ (newB ++ [(L' + 1 + 1 + 1, oy), (L' + 1 + 1, om), (L' + 1, ob8)])) := fun p hp => N5 p (.tail _ hp)
  have hrs4 : rs.length ≤ 4 := by rw [hR.many]; rcases cnt_models hg with h | h | h | h <;> omega
  refine use_prs F5 N5 (rows_ok (by assumption) F5 (by assumption) (by assumption) (by exact rfl) (by exact rfl) (by ktr_room) (PLS.mono _ _ _ _ (fun a o h => (N5 _ (List.mem_append_left _ h)).1) q3) hrs4 (hR.sized.ok w1 w3 h1' h22)) ?_
  intro aa avs an newA h4' tk4 F4 N4 hnA poA a1 a2 a3
  have nA1 := ne_new hnA (d := L' + 1) (N5 _ (List.mem_append_right _ (List.mem_append_right _ (.tail _ (.tail _ (.head _)))))).1
  have nA2 := ne_new hnA (d := L' + 1 + 1) (N5 _ (List.mem_append_right _ (List.mem_append_right _ (.tail _ (.head _))))).1
  have nA3 := ne_new hnA (d := L' + 1 + 1 + 1) (N5 _ (List.mem_append_right _ (List.mem_append_right _ (.head _)))).1
  have nAT : ∀ p ∈ newA, ∀ q ∈ newT, p.1 ≠ q.1 := fun p hp q hq => ne_new hnA (N5 _ (List.mem_append_left _ hq)).1 p hp
  k_steps
  unfold Stop
  rename Fr _ _ _ _ => F2
  rename News _ _ _ _ => N3
  rename_i D2 _ l2D _ _ _ om8 hom8
  have N2 : News g L' _ (newA ++ (newT ++ (newB ++ [(L' + 1 + 1 + 1, oy), (L' + 1 + 1, om8), (L' + 1, ob8)]))) := fun p hp => N3 p (.tail _ hp)
  clear N3
  have hps1 : 1 ≤ ps.length := by rcases cnt_models hm with h | h | h | h <;> omega
  have eb0 : bvs[0]? = some (bvs[0]'(by rw [b2, List.length_map]; omega)) := List.getElem?_eq_getElem _
  have ep0 : (ps.map (·.rows))[0]? = some ((ps.map (·.rows))[0]'(by rw [List.length_map]; omega)) := List.getElem?_eq_getElem _
  have hs0 := hs (ps[0]'(by omega)) (List.getElem_mem _)
  refine (b3 0 _ _ eb0 ep0).first (by rw [List.getElem_map]; exact hs0.2.2.1) (fun r hr => hs0.2.2.2 r (by rw [List.getElem_map] at hr; exact hr)) h1' fun b0 b00 b0vs b00vs b0n b00n hb0 mb0 eb00 lb0 mb00 lb00 => ?_
  rw [hb0] at eb0
  have eb0i : bvs[(0 : Int).toNat]? = some (.ref b0) := eb0
  have eb00i : b0vs[(0 : Int).toNat]? = some (.ref b00) := eb00
  with_reducible refine cut (fun fl => fl = Flow.next) F2 N2 ?cut1 ?nxt1
  case cut1 =>
    k_steps
    unfold Stop
    rename Fr _ _ _ _ => F2
    rename News _ _ _ _ => N2
    refine ne_tup2 (models_strOk hg) (N2 _ (.tail _ (.head _))).1 (N2 _ (.head _)).1 (by ktr_units) ?_
    k_steps
    rename Fr _ _ _ _ => F2
    rename News _ _ _ _ => N2
    exact CutV.intro F2 N2 (fun p hp => .tail _ (.tail _ hp)) rfl
  case nxt1 =>
    rintro fl h' tk' F1 N1 rfl
    clear F2 N2
    k_steps
    unfold Stop
    rename Fr _ _ _ _ => F2
    rename News _ _ _ _ => N2
    with_reducible refine cut (fun fl => fl = Flow.next) F2 N2 ?cut2 ?nxt2
    case cut2 =>
      have hal : avs.length = cnt goal := by rw [a2, List.length_map]; exact hR.many
      have hc4 : avs.length ≤ 4 := by rcases cnt_models hg with h | h | h | h <;> omega
      clear hR hv hp h2 h3 p3 poB b3 poT q2 q3 r3 poA a3 r2
      (repeat' (first | (k_unfold; (try dsimp only)) | (k_end; wrow_close) | (walk1 <;> (try dsimp only)) | (dsimp only; walk1) | (leave1; try dsimp only) | fail "no step"))
      all_goals first | (exfalso; rename (_ != _) = true => hx; rw [hal, bne_self_eq_false] at hx; exact Bool.false_ne_true hx) | (exfalso; simp_all; done) | (rename Fr _ _ _ _ => F9; rename News _ _ _ _ => N9; exact CutV.intro F9 N9 (fun p hp => .tail _ hp) rfl)
    case nxt2 =>
      rintro fl h' tk' F1 N1 rfl
      clear F2 N2
      k_steps
      unfold Stop
      rename Fr _ _ _ _ => F2
      rename News _ _ _ _ => N2
      with_reducible refine cut (fun fl => fl = Flow.next) F2 N2 ?cut3 ?nxt3
      case cut3 =>
        k_steps
        unfold Stop
        rename Fr _ _ _ _ => F9
        rename News _ _ _ _ => N9
        refine comp_none (vs := avs) F9 N9 ?hit3 ?turns3 ?k3 rfl (by with_unfolding_all rfl) rfl (by decide) rfl (by intro _; rfl)
        case hit3 =>
          k_steps
          rename Fr _ _ _ _ => F8
          rename News _ _ _ _ => N8
          exact NoneEnd.intro F8 N8 ⟨_, (N8 _ (List.mem_append_left _ a1)).1, rfl, _, rfl⟩
        case turns3 =>
          intro C i v h tk cl' led' hcl hvi hC F8 N8 sub ho
          have mb := sub _ (List.mem_append_right _ (List.mem_append_right _ (List.mem_append_left _ b1)))
          have mc0 := sub _ (List.mem_append_right _ (List.mem_append_right _ (List.mem_append_left _ mb0)))
          have mc00 := sub _ (List.mem_append_right _ (List.mem_append_right _ (List.mem_append_left _ mb00)))
          have mcell : (L' + 1, ob8) ∈ led' := sub _ (List.mem_append_right _ (List.mem_append_right _ (List.mem_append_right _ (.tail _ (.tail _ (.head _))))))
          refine item_elim a2 a3 hvi fun rws hrw _ hRW => ?_
          rw [List.getElem?_map] at hrw
          obtain ⟨q, hq, hqr⟩ := Option.map_eq_some_iff.mp hrw
          have hsz := hR.sized q (List.mem_of_getElem? hq)
          subst hqr
          refine hRW.first hsz.2.2.1 hsz.2.2.2 h1' fun z z0 zvs z0vs zn z0n hz mz ez lz mz0 lz0 => ?_
          subst hz
          have md := sub _ (List.mem_append_left _ mz)
          have md0 := sub _ (List.mem_append_left _ mz0)
          clear hR hv hp h2 h3 p3 poB b3 poT q2 q3 r3 poA a3 r2 hRW mz mz0 mb0 mb00
          subst hcl
          k_steps
          all_goals first | (exfalso; omega) | (rename Fr _ _ _ _ => F7; rename News _ _ _ _ => N7; exact CutV.intro F7 N7 (fun p hp => hp) rfl)
        case k3 =>
          intro D h' tk' F8 N8
          k_steps
          unfold Stop
          rename Fr _ _ _ _ => F7
          rename News _ _ _ _ => N7
          refine ne_I (xs := []) (IL.of (vs := []) (N7 _ (.tail _ (.head _))).1 .nil) (IL.of (vs := []) (N7 _ (.head _)).1 .nil) (by ktr_units) ?_
          k_steps
          rename Fr _ _ _ _ => F6
          rename News _ _ _ _ => N6
          exact CutV.intro F6 N6 (fun p hp => .tail _ (.tail _ hp)) rfl
      case nxt3 =>
        rintro fl h' tk' F1 N1 rfl
        clear F2 N2
        k_steps
        unfold Stop
        rename Fr _ _ _ _ => F2
        rename News _ _ _ _ => N2
        rename_i D8 _ lD8 _
        with_reducible refine cut (fun fl => fl = Flow.next) F2 N2 ?cut4 ?nxt4
        case cut4 =>
          have gA : ∀ {h : Heap}, News g L' h (newA ++ (newT ++ (newB ++ [(L' + 1 + 1 + 1, oy), (L' + 1 + 1, om8), (L' + 1, ob8)]))) → PRS (HG h) (.ref aa) (rs.map (·.rows)) ∧ PRS (HG h) (.ref ba) (ps.map (·.rows)) := fun N =>
            ⟨PRS.mono _ _ _ _ (fun a o h => (N _ (List.mem_append_left _ h)).1) poA, PRS.mono _ _ _ _ (fun a o h => (N _ (List.mem_append_right _ (List.mem_append_right _ (List.mem_append_left _ h)))).1) poB⟩
          have hsame := hR.same
          have hone := hR.one
          clear hR h3 p3 poT q2 q3 r3 a3
          rcases hv with rfl | hw | hyg | hgy
          · k_steps
            all_goals try (exfalso; exact absurd ‹(src == src) = false› (by simp))
            unfold Stop
            rename Fr _ _ _ _ => F9
            rename News _ _ _ _ => N9
            have xs9 := gA fun p hp => N9 p (.tail _ hp)
            rw [hsame rfl] at xs9
            refine ne_PRS xs9.1 xs9.2 (by ktr_units) ?_
            k_steps
            unfold Stop
            rename Fr _ _ _ _ => F8
            rename News _ _ _ _ => N8
            refine eq_pair_f ⟨models_strOk hm, models_strOk hm⟩ ok_yg (fun e => absurd ((Prod.mk.inj e).1.symm.trans (Prod.mk.inj e).2) (by decide)) (N8 _ (.tail _ (.head _))).1 (N8 _ (.head _)).1 (by ktr_units) ?_
            k_steps
            rename Fr _ _ _ _ => F7
            rename News _ _ _ _ => N7
            exact CutV.intro F7 N7 (fun p hp => .tail _ hp) rfl
          · have ne1 : (src == goal) = false ∧ (src, goal) ≠ (("ycc" : Str), ("grey" : Str)) := by
              simp only [waysL, List.mem_cons, List.not_mem_nil, or_false, Prod.mk.injEq] at hw
              rcases hw with ⟨rfl, rfl⟩ | ⟨rfl, rfl⟩ | ⟨rfl, rfl⟩ | ⟨rfl, rfl⟩ | ⟨rfl, rfl⟩ | ⟨rfl, rfl⟩ <;> exact ⟨by decide, by decide⟩
            k_steps
            all_goals try (exfalso; rename (src == goal) = true => hx; rw [ne1.1] at hx; exact Bool.false_ne_true hx)
            unfold Stop
            rename Fr _ _ _ _ => F8
            rename News _ _ _ _ => N8
            refine eq_pair_f ⟨models_strOk hm, models_strOk hg⟩ ok_yg ne1.2 (N8 _ (.tail _ (.head _))).1 (N8 _ (.head _)).1 (by ktr_units) ?_
            k_steps
            rename Fr _ _ _ _ => F7
            rename News _ _ _ _ => N7
            exact CutV.intro F7 N7 (fun p hp => .tail _ hp) rfl
          · simp only [Prod.mk.injEq] at hyg
            obtain ⟨rfl, rfl⟩ := hyg
            have hb3 : bvs.length = 3 := by rw [b2, List.length_map, hl]; decide
            obtain ⟨v0, v1, v2, rfl⟩ := len3 hb3
            k_steps
            unfold Stop
            rename Fr _ _ _ _ => F8
            rename News _ _ _ _ => N8
            refine eq_pair_t ok_yg (N8 _ (.tail _ (.head _))).1 (N8 _ (.head _)).1 (by ktr_units) ?_
            k_steps
            unfold Stop
            rename Fr _ _ _ _ => F7
            rename News _ _ _ _ => N7
            have xs9 := (gA fun p hp => N7 p (.tail _ (.tail _ (.tail _ hp)))).1
            rw [hone rfl] at xs9
            refine ne_PRS xs9 (PRS.one (N7 _ (.head _)).1 (fun x e => RW.mono _ _ _ _ (fun a o h => (N7 _ (.tail _ (.tail _ (.tail _ (List.mem_append_right _ (List.mem_append_right _ (List.mem_append_left _ h))))))).1) (b3 0 v0 x rfl e)) (by rw [List.length_map]; omega)) (by ktr_units) ?_
            k_steps
            rename Fr _ _ _ _ => F6
            rename News _ _ _ _ => N6
            exact CutV.intro F6 N6 (fun p hp => .tail _ (.tail _ hp)) rfl
          · simp only [Prod.mk.injEq] at hgy
            obtain ⟨rfl, rfl⟩ := hgy
            k_steps
            unfold Stop
            rename Fr _ _ _ _ => F8
            rename News _ _ _ _ => N8
            refine eq_pair_f ok_gy ok_yg (by decide) (N8 _ (.tail _ (.head _))).1 (N8 _ (.head _)).1 (by ktr_units) ?_
            k_steps
            rename Fr _ _ _ _ => F7
            rename News _ _ _ _ => N7
            exact CutV.intro F7 N7 (fun p hp => .tail _ hp) rfl
        case nxt4 =>
          rintro fl h' tk' F1 N1 rfl
          clear F2 N2
          k_steps
          unfold Stop
          rename Fr _ _ _ _ => F2
          rename News _ _ _ _ => N2
          with_reducible refine cut (fun fl => fl = Flow.next) F2 N2 ?cut5 ?nxt5
          case cut5 =>
            have gA : ∀ {h : Heap}, News g L' h (newA ++ (newT ++ (newB ++ [(L' + 1 + 1 + 1, oy), (L' + 1 + 1, om8), (L' + 1, ob8)]))) → PRS (HG h) (.ref aa) (rs.map (·.rows)) :=
              fun N => PRS.mono _ _ _ _ (fun a o h => (N _ (List.mem_append_left _ h)).1) poA
            have hthree := hR.three
            clear hR h3 p3 poT q2 q3 r3 a3 hv
            by_cases hgr : (src, goal) = (("grey" : Str), ("rgb" : Str))
            · obtain ⟨p, hp1, hrows⟩ := hthree hgr
              simp only [Prod.mk.injEq] at hgr
              obtain ⟨rfl, rfl⟩ := hgr
              subst hp1
              obtain ⟨v0, rfl⟩ := len1 (b2.trans rfl)
              k_steps
              unfold Stop
              rename Fr _ _ _ _ => F8
              rename News _ _ _ _ => N8
              refine eq_pair_t ⟨by decide +kernel, by decide +kernel⟩ (N8 _ (.tail _ (.head _))).1 (N8 _ (.head _)).1 (by ktr_units) ?_
              k_steps
              rename Fr _ _ _ _ => F7
              rename News _ _ _ _ => N7
              refine KMa.mul (vs := [v0]) (ws := [v0, v0, v0]) F7 N7 ⟨_, (N7 _ (.tail _ (.tail _ (List.mem_append_right _ (List.mem_append_right _ (List.mem_append_left _ b1)))))).1, rfl, _, rfl⟩ (by decide) (by decide) (Nat.le_of_ble_eq_true rfl) rfl ?_
              intro D3 h3 F6 N6 _
              k_steps
              unfold Stop
              rename Fr _ _ _ _ => F5
              rename News _ _ _ _ => N5
              have xs9 := gA fun p hp => N5 p (.tail _ (.tail _ (.tail _ hp)))
              rw [hrows] at xs9
              have x0 := RW.mono _ _ _ _ (fun a o h => (N5 _ (.tail _ (.tail _ (.tail _ (List.mem_append_right _ (List.mem_append_right _ (List.mem_append_left _ h))))))).1) (b3 0 v0 p.rows rfl rfl)
              refine ne_PRS xs9 (PRS.three (N5 _ (.head _)).1 x0 x0 x0) (by ktr_units) ?_
              k_steps
              rename Fr _ _ _ _ => F4
              rename News _ _ _ _ => N4
              exact CutV.intro F4 N4 (fun p hp => .tail _ (.tail _ hp)) rfl
            · k_steps
              unfold Stop
              rename Fr _ _ _ _ => F8
              rename News _ _ _ _ => N8
              refine eq_pair_f ⟨models_strOk hm, models_strOk hg⟩ ⟨by decide +kernel, by decide +kernel⟩ hgr (N8 _ (.tail _ (.head _))).1 (N8 _ (.head _)).1 (by ktr_units) ?_
              k_steps
              rename Fr _ _ _ _ => F7
              rename News _ _ _ _ => N7
              exact CutV.intro F7 N7 (fun p hp => .tail _ hp) rfl
          case nxt5 =>
            rintro fl h' tk' F1 N1 rfl
            clear F2 N2
            k_steps
            unfold Stop
            rename Fr _ _ _ _ => F2
            rename News _ _ _ _ => N2
            refine comp_frA (n := b0vs.length) (P := fun i v => b0vs[i]? = some v) (fun i v O y => IL O y (List.replicate W (2 ^ (prec - 1).toNat))) F2 N2 rfl ?monof ?hitf ?turnsf ?kf rfl (by with_unfolding_all rfl) (by with_unfolding_all rfl) rfl (by decide) (.inl rfl) rfl rfl (by intro _; rfl)
            case monof => exact fun _ _ _ _ _ k h => IL.mono _ _ _ _ k h
            case hitf =>
              intro led₀ N₀ sub₀
              have m1 := sub₀ _ (.tail _ (List.mem_append_right _ (List.mem_append_right _ (List.mem_append_left _ b1))))
              have m2 := sub₀ _ (.tail _ (List.mem_append_right _ (List.mem_append_right _ (List.mem_append_left _ mb0))))
              have m3 : (L' + 1, ob8) ∈ led₀ := sub₀ _ (.tail _ (List.mem_append_right _ (List.mem_append_right _ (List.mem_append_right _ (.tail _ (.tail _ (.head _)))))))
              clear hR hv hp h2 h3 p3 poB b3 poT q2 q3 r3 poA a3 r2
              k_steps
              rename Fr _ _ _ _ => F9
              rename News _ _ _ _ => N9
              exact IterEnd.list F9 N9 (fun _ h => h) ⟨_, (N9 _ m2).1, rfl, _, rfl⟩ (by rw [sizeLine_eq, lb0]; omega)
            case turnsf =>
              intro C i v h tk cl' led' hcl hi hv9 F9 N9 sub9 U9 ho
              have m1 := sub9 _ (.tail _ (List.mem_append_right _ (List.mem_append_right _ (List.mem_append_left _ b1))))
              have m2 := sub9 _ (.tail _ (List.mem_append_right _ (List.mem_append_right _ (List.mem_append_left _ mb0))))
              have m4 := sub9 _ (.tail _ (List.mem_append_right _ (List.mem_append_right _ (List.mem_append_left _ mb00))))
              have m3 : (L' + 1, ob8) ∈ led' := sub9 _ (.tail _ (List.mem_append_right _ (List.mem_append_right _ (List.mem_append_right _ (.tail _ (.tail _ (.head _)))))))
              have m5 : (L' + 1 + 1, om8) ∈ led' := sub9 _ (.tail _ (List.mem_append_right _ (List.mem_append_right _ (List.mem_append_right _ (.tail _ (.head _))))))
              clear hR hv hp h2 h3 p3 poB b3 poT q2 q3 r3 poA a3 r2
              subst hcl
              k_steps
              rename Fr _ _ _ _ => F8
              rename News _ _ _ _ => N8
              rename IntsAre _ _ => hi8
              rw [flat_rep, flat_rep, Int.toNat_natCast] at hi8
              rw [flat_rep, Int.toNat_natCast] at N8
              have hD := N8 _ (.head _)
              rw [lb00] at hi8 hD
              exact EltEnd.intro F8 N8 (fun _ h => .tail _ (.tail _ h)) (IL.of ⟨hD.1, full_new2 (new := []) U9 (by assumption) (Nat.le_of_lt (by first | assumption | (rename_i hx; exact hx.1) | omega)) hD.2.2 hD.2.1⟩ hi8)
            case kf =>
              intro DF newF h' tk' F1 N1 hnF poF
              have hRWf := CompPost.rep poF
              rw [lb0] at hRWf
              clear poF
              k_steps
              unfold Stop
              clear F2 N2
              rename Fr _ _ _ _ => F2
              rename News _ _ _ _ => N2
              with_reducible refine cut (fun fl => fl = Flow.next) F2 N2 ?cut6 ?nxt6
              case cut6 =>
                have gA : ∀ {h : Heap}, News g L' h (newA ++ (newT ++ (newB ++ [(L' + 1 + 1 + 1, oy), (L' + 1 + 1, om8), (L' + 1, ob8)]))) → PRS (HG h) (.ref aa) (rs.map (·.rows)) :=
                  fun N => PRS.mono _ _ _ _ (fun a o h => (N _ (List.mem_append_left _ h)).1) poA
                have hflat := hR.flat
                clear hR h3 p3 poT q2 q3 r3 a3 hv
                by_cases hgr : (src, goal) = (("grey" : Str), ("ycc" : Str))
                · obtain ⟨p, hp1, hrows⟩ := hflat hgr
                  simp only [Prod.mk.injEq] at hgr
                  obtain ⟨rfl, rfl⟩ := hgr
                  subst hp1
                  have x00 := b3 0 (.ref b0) p.rows eb0 rfl
                  k_steps
                  unfold Stop
                  rename Fr _ _ _ _ => F8
                  rename News _ _ _ _ => N8
                  refine eq_pair_t ok_gy (N8 _ (.tail _ (List.mem_append_right _ (.head _)))).1 (N8 _ (.head _)).1 (by ktr_units) ?_
                  k_steps
                  unfold Stop
                  rename Fr _ _ _ _ => F5
                  rename News _ _ _ _ => N5
                  have xs9 := gA fun p hp => N5 p (.tail _ (.tail _ (List.mem_append_right _ (.tail _ hp))))
                  rw [hrows] at xs9
                  have x0 := RW.mono _ _ _ _ (fun a o h => (N5 _ (.tail _ (.tail _ (List.mem_append_right _ (.tail _ (List.mem_append_right _ (List.mem_append_right _ (List.mem_append_left _ h)))))))).1) x00
                  have xF := RW.mono _ _ _ _ (fun a o h => (N5 _ (.tail _ (.tail _ (List.mem_append_left _ h)))).1) hRWf
                  refine ne_PRS xs9 (PRS.three (N5 _ (.head _)).1 x0 xF xF) (by ktr_units) ?_
                  k_steps
                  rename Fr _ _ _ _ => F4
                  rename News _ _ _ _ => N4
                  exact CutV.intro F4 N4 (fun p hp => .tail _ (.tail _ hp)) rfl
                · k_steps
                  unfold Stop
                  rename Fr _ _ _ _ => F8
                  rename News _ _ _ _ => N8
                  refine eq_pair_f ⟨models_strOk hm, models_strOk hg⟩ ok_gy hgr (N8 _ (.tail _ (List.mem_append_right _ (.head _)))).1 (N8 _ (.head _)).1 (by ktr_units) ?_
                  k_steps
                  rename Fr _ _ _ _ => F7
                  rename News _ _ _ _ => N7
                  exact CutV.intro F7 N7 (fun p hp => .tail _ hp) rfl
              case nxt6 =>
                rintro fl h' tk' F1 N1 rfl
                clear F2 N2
                k_steps
                unfold Stop
                rename Fr _ _ _ _ => F2
                rename News _ _ _ _ => N2
                replace N2 : News g L' _ ((D8, tup2 src goal t2 tm 0) :: (newA ++ (newT ++ (newB ++ [(L' + 1 + 1 + 1, oy), (L' + 1 + 1, om8), (L' + 1, ob8)])))) := fun p hp => N2 p (List.mem_append_right newF hp)
                clear hnF hRWf
                with_reducible refine cutW (x := Str.ofString "light") (lf := fun o => (D8, tup2 src goal t2 tm 0) :: (newA ++ (newT ++ (newB ++ [(L' + 1 + 1 + 1, o), (L' + 1 + 1, om8), (L' + 1, ob8)])))) F2 N2 ?cut7 ?nxt7
                case cut7 =>
                  have hlight := hR.light
                  have hszR := hR.sized
                  clear hR h3 p3 poT q2 q3 r3 hv
                  by_cases hgr : (src, goal) = (("rgb" : Str), ("grey" : Str))
                  · obtain ⟨pA, pB, pC, pr, hp1, hrs1, hlt⟩ := hlight hgr
                    simp only [Prod.mk.injEq] at hgr
                    obtain ⟨rfl, rfl⟩ := hgr
                    k_steps
                    unfold Stop
                    rename Fr _ _ _ _ => F8
                    rename News _ _ _ _ => N8
                    refine eq_pair_t ⟨by decide +kernel, by decide +kernel⟩ (N8 _ (.tail _ (.head _))).1 (N8 _ (.head _)).1 (by ktr_units) ?_
                    k_steps
                    unfold Stop
                    rename Fr _ _ _ _ => F9
                    rename News _ _ _ _ => N9
                    have hb3l : bvs.length = 3 := by rw [b2, List.length_map, hp1]; rfl
                    obtain ⟨v0, v1, v2, rfl⟩ := len3 hb3l
                    obtain ⟨va, rfl⟩ := len1 (a2.trans (by rw [List.length_map]; exact congrArg List.length hrs1))
                    have e0 : v0 = .ref b0 := by simpa using eb0
                    subst e0
                    have xA := b3 0 _ pA.rows rfl (by rw [hp1]; rfl)
                    have xB := b3 1 _ pB.rows rfl (by rw [hp1]; rfl)
                    have xC := b3 2 _ pC.rows rfl (by rw [hp1]; rfl)
                    have xR := a3 0 _ pr.rows rfl (by rw [hrs1]; rfl)
                    have sA := hs pA (by rw [hp1]; exact .head _)
                    have sB := hs pB (by rw [hp1]; exact .tail _ (.head _))
                    have sC := hs pC (by rw [hp1]; exact .tail _ (.tail _ (.head _)))
                    have sR := hszR pr (by rw [hrs1]; exact .head _)
                    refine for_rangeW (n := b0vs.length) (x := Str.ofString "light") (lf := fun o => (D8, tup2 "rgb" "grey" t2 tm 0) :: (newA ++ (newT ++ (newB ++ [(L' + 1 + 1 + 1, o), (L' + 1 + 1, om8), (L' + 1, ob8)])))) F9 ?hlf rfl rfl PassesOwn.never ?headL (fun _ _ _ _ q => wpAny_pure q) (by intro _; rfl)
                    case hlf =>
                      intro o o' p hp
                      simp only [List.mem_cons, List.mem_append, List.not_mem_nil, or_false] at hp
                      rcases hp with h | h | h | h | h | h | h
                      · exact ⟨p, by simp [h], rfl⟩
                      · exact ⟨p, by simp [h], rfl⟩
                      · exact ⟨p, by simp [h], rfl⟩
                      · exact ⟨p, by simp [h], rfl⟩
                      · exact ⟨(L' + 1 + 1 + 1, o), by simp, by rw [h]⟩
                      · exact ⟨p, by simp [h], rfl⟩
                      · exact ⟨p, by simp [h], rfl⟩
                    case headL =>
                      k_steps
                      rename Fr _ _ _ _ => F6
                      rename News _ _ _ _ => N6
                      rename IsRange _ _ _ _ _ _ _ _ => hRg
                      refine ForRW.intro F6 (fun p hp => N6 p (.tail _ hp)) hoy hRg (ranges_ok _ (by omega)).1 (ranges_ok _ (by omega)).2 ?turnL ?doneL
                      case doneL =>
                        intro h' tk' u o y0 F5 N5 hy5
                        k_steps
                        rename Fr _ _ _ _ => F4
                        rename News _ _ _ _ => N4
                        exact CutW.intro F4 N4 hy5 (fun p hp => hp)
                      case turnL =>
                        intro i ti I u o y0 s' own hi hy0 off hown F5 N5
                        simp only [List.cons_append, List.append_assoc, List.nil_append] at N5
                        have hiH : i < H := by omega
                        have gI : ∀ p ∈ own, p.1 ≠ L' + 1 + 1 + 1 := fun p hp => by
                          rw [hown p hp]
                          exact Ne.symm (off (L' + 1 + 1 + 1, o) (.tail _ (List.mem_append_right _ (List.mem_append_right _ (List.mem_append_right _ (.head _))))))
                        have mB : ∀ {x : Addr × Obj}, ∀ p ∈ newB, p ∈ x :: (newA ++ (newT ++ (newB ++ ((L' + 1 + 1 + 1, o) :: (L' + 1 + 1, om8) :: (L' + 1, ob8) :: own)))) := fun p hp => .tail _ (List.mem_append_right _ (List.mem_append_right _ (List.mem_append_left _ hp)))
                        refine xA.at sA.2.2.1 sA.2.2.2 hiH fun bA rA vsA cA nA9 cnA eA mA lA iA mrA hA wA => ?_
                        cases eA
                        have eqA := listOf_inj (obj_once N5 (mB _ mA) (mB _ mb0))
                        subst eqA
                        refine xB.at sB.2.2.1 sB.2.2.2 hiH fun bB rB vsB cB nB9 cnB eB mBB lB iB mrB hB wB => ?_
                        subst eB
                        refine xC.at sC.2.2.1 sC.2.2.2 hiH fun bC rC vsC cC nC9 cnC eC mC lC iC mrC hC wC => ?_
                        subst eC
                        refine xR.at sR.2.2.1 sR.2.2.2 hiH fun bR rR vsR cR nR9 cnR eR mR lR iR mrR hRR wR => ?_
                        subst eR
                        clear mB mA
                        have hlti := hlt i hiH
                        have hgR : pr.rows.getD i [] = (List.range W).map fun x => lightF ((pA.rows.getD i []).getD x 0) ((pB.rows.getD i []).getD x 0) ((pC.rows.getD i []).getD x 0) := by rw [List.getD_eq_getElem?_getD, hlti]; rfl
                        rw [hgR] at hRR
                        clear hlt hlti hlight xA xB xC xR sA sB sC sR b3 a3 hs ok hp poA poB hszR
                        k_steps
                        unfold Stop
                        rename Fr _ _ _ _ => F4
                        rename News _ _ _ _ => N4
                        rename_i _ oy9 hoy9
                        refine comp_frA (n := b00vs.length) (P := fun x v => ∃ t, v = .int (0 + (x : Int)) t) (fun x v O y => IV O y (lightF ((pA.rows.getD i []).getD x 0) ((pB.rows.getD i []).getD x 0) ((pC.rows.getD i []).getD x 0))) F4 N4 rfl ?monoL ?hitL ?turnsL ?kL rfl (by with_unfolding_all rfl) (by with_unfolding_all rfl) rfl (by decide) (.inl rfl) rfl rfl (by intro _; rfl)
                        case monoL => exact fun _ _ _ _ _ _ h => h
                        case hitL =>
                          intro led₀ N₀ sub₀
                          have m1 := sub₀ _ (.tail _ (List.mem_append_right _ (List.mem_append_right _ (List.mem_append_left _ b1))))
                          have m2 := sub₀ _ (.tail _ (List.mem_append_right _ (List.mem_append_right _ (List.mem_append_left _ mb0))))
                          have m4 := sub₀ _ (.tail _ (List.mem_append_right _ (List.mem_append_right _ (List.mem_append_left _ mb00))))
                          have m3 : (L' + 1, ob8) ∈ led₀ := sub₀ _ (.tail _ (List.mem_append_right _ (List.mem_append_right _ (List.mem_append_right _ (.tail _ (.tail _ (.head _)))))))
                          k_steps
                          rename Fr _ _ _ _ => F3
                          rename News _ _ _ _ => N3
                          rename IsRange _ _ _ _ _ _ _ _ => hR2
                          exact IterEnd.range F3 N3 (fun _ h => h) hR2 (ranges_ok _ (by omega)).1 (ranges_ok _ (by omega)).2 (by rw [sizeLine_eq]; omega)
                        case turnsL =>
                          rintro C x v h tk cl' led' hcl ⟨hx, hC9⟩ ⟨xt, rfl⟩ F3 N3 sub3 U3 ho
                          rw [Int.zero_add] at ho
                          have sB9 : ∀ p ∈ newB, p ∈ led' := fun p hp => sub3 p (.tail _ (List.mem_append_right _ (List.mem_append_right _ (List.mem_append_left _ hp))))
                          have m1 := sB9 _ b1
                          have m2 := sB9 _ mb0
                          have m3 : (L' + 1, ob8) ∈ led' := sub3 _ (.tail _ (List.mem_append_right _ (List.mem_append_right _ (List.mem_append_right _ (.tail _ (.tail _ (.head _)))))))
                          have m4 : (L' + 1 + 1 + 1, oy9) ∈ led' := sub3 _ (.tail _ (List.mem_append_right _ (List.mem_append_right _ (List.mem_append_right _ (.head _)))))
                          have m5 := sB9 _ mrA
                          have m6 := sB9 _ mBB
                          have m7 := sB9 _ mrB
                          have m8 := sB9 _ mC
                          have m9 := sB9 _ mrC
                          obtain ⟨tA, kA⟩ := IntsAre.at hA (x := x) (by omega)
                          obtain ⟨tB, kB⟩ := IntsAre.at hB (x := x) (by omega)
                          obtain ⟨tC, kC⟩ := IntsAre.at hC (x := x) (by omega)
                          clear sB9
                          subst hcl
                          k_steps
                          unfold Stop
                          rename Fr _ _ _ _ => F1
                          rename News _ _ _ _ => N1
                          refine eff_use0 F1 N1 (light_ok (by assumption) F1 (by assumption) (by assumption) (by exact rfl) (by exact rfl) (by ktr_room)) ?_
                          rintro y9 h9 tk9 O9 F0 N0 _ ⟨t9, rfl⟩
                          exact EltEnd.intro F0 N0 (fun _ h => h) ⟨_, rfl⟩
                        case kL =>
                          intro DL newL h' tk' F3 N3 hnL poL
                          rw [but_but] at F3
                          have hIL := CompPost.rangeMap poL
                          rw [lb00] at hIL
                          clear poL
                          k_steps
                          unfold Stop
                          rename Fr _ _ _ _ => F1
                          rename News _ _ _ _ => N1
                          refine ne_I (IL.of (N1 _ (List.mem_append_right _ (.tail _ (List.mem_append_left _ mrR)))).1 hRR) (IL.mono _ _ _ _ (fun a o h => (N1 _ (List.mem_append_left _ h)).1) hIL) (by ktr_units) ?_
                          k_steps
                          rename Fr _ _ _ _ => F0
                          rename News _ _ _ _ => N0
                          exact ForEndW.intro F0 N0 hoy9 (fun p hp => List.mem_append_right _ (by simpa only [List.cons_append, List.append_assoc, List.nil_append] using hp))
                  · k_steps
                    unfold Stop
                    rename Fr _ _ _ _ => F8
                    rename News _ _ _ _ => N8
                    refine eq_pair_f ⟨models_strOk hm, models_strOk hg⟩ ⟨by decide +kernel, by decide +kernel⟩ hgr (N8 _ (.tail _ (.head _))).1 (N8 _ (.head _)).1 (by ktr_units) ?_
                    k_steps
                    rename Fr _ _ _ _ => F7
                    rename News _ _ _ _ => N7
                    exact CutW.same F7 N7 hoy (fun p hp => .tail _ hp)
                case nxt7 =>
                  intro h' tk' u oy9 y9 F1 N1 hy9
                  clear F2 N2
                  k_steps
                  unfold Stop
                  rename Fr _ _ _ _ => F2
                  rename News _ _ _ _ => N2
                  with_reducible refine cut (fun fl => fl = Flow.next) F2 N2 ?cut8 ?nxt8
                  case cut8 =>
                    have hkey := hR.key
                    clear hR h3 p3 poT q2 q3 r3 hv
                    by_cases hgr : (src, goal) ∈ [(("cmyk" : Str), ("ycck" : Str)), (("ycck" : Str), ("cmyk" : Str))]
                    · have hk9 := hkey (by simpa using hgr)
                      have hb4 : ps.length = 4 := by
                        rw [hl]
                        simp only [List.mem_cons, List.not_mem_nil, or_false, Prod.mk.injEq] at hgr
                        rcases hgr with ⟨rfl, _⟩ | ⟨rfl, _⟩ <;> decide
                      have eA3 : avs[3]? = some (avs[3]'(by rw [a2, List.length_map]; have := hk9.2; omega)) := List.getElem?_eq_getElem _
                      have eB3 : bvs[3]? = some (bvs[3]'(by rw [b2, List.length_map]; omega)) := List.getElem?_eq_getElem _
                      have eP3 : (ps.map (·.rows))[3]? = some ((ps.map (·.rows))[3]'(by rw [List.length_map]; omega)) := List.getElem?_eq_getElem _
                      have xA := a3 3 _ _ eA3 (hk9.1.trans eP3)
                      have xB := b3 3 _ _ eB3 eP3
                      refine xA.elim fun rA vA nA9 eA mA9 _ _ => ?_
                      refine xB.elim fun rB vB nB9 eB mB9 _ _ => ?_
                      rw [eA] at eA3
                      rw [eB] at eB3
                      have eA3i : avs[(3 : Int).toNat]? = some (.ref rA) := eA3
                      have eB3i : bvs[(3 : Int).toNat]? = some (.ref rB) := eB3
                      rw [eA] at xA
                      rw [eB] at xB
                      clear hkey b3 a3
                      k_steps
                      unfold Stop
                      rename Fr _ _ _ _ => F8
                      rename News _ _ _ _ => N8
                      refine in_list_pairs (p := (src, goal)) (ps := [(("cmyk" : Str), ("ycck" : Str)), (("ycck" : Str), ("cmyk" : Str))]) ⟨_, .list (N8 _ (.head _)).1 rfl rfl (.cons (reads_pair (N8 _ (.tail _ (.tail _ (.head _)))).1) (.cons (reads_pair (N8 _ (.tail _ (.head _))).1) .nil))⟩ ⟨_, reads_pair (N8 _ (.tail _ (.tail _ (.tail _ (.head _))))).1⟩ ?okl ⟨models_strOk hm, models_strOk hg⟩ (by ktr_units) ?_
                      case okl => intro q hq; simp only [List.mem_cons, List.not_mem_nil, or_false] at hq; rcases hq with rfl | rfl <;> exact ⟨by decide +kernel, by decide +kernel⟩
                      rw [decide_eq_true hgr]
                      k_steps
                      unfold Stop
                      rename Fr _ _ _ _ => F7
                      rename News _ _ _ _ => N7
                      refine ne_RW (RW.mono _ _ _ _ (fun a o h => (N7 _ (.tail _ (.tail _ (.tail _ (.tail _ (List.mem_append_left _ h)))))).1) xA) (RW.mono _ _ _ _ (fun a o h => (N7 _ (.tail _ (.tail _ (.tail _ (.tail _ (List.mem_append_right _ (List.mem_append_right _ (List.mem_append_left _ h)))))))).1) xB) (by ktr_units) ?_
                      k_steps
                      rename Fr _ _ _ _ => F6
                      rename News _ _ _ _ => N6
                      exact CutV.intro F6 N6 (fun p hp => .tail _ (.tail _ (.tail _ hp))) rfl
                    · clear hkey
                      k_steps
                      unfold Stop
                      rename Fr _ _ _ _ => F8
                      rename News _ _ _ _ => N8
                      refine in_list_pairs (p := (src, goal)) (ps := [(("cmyk" : Str), ("ycck" : Str)), (("ycck" : Str), ("cmyk" : Str))]) ⟨_, .list (N8 _ (.head _)).1 rfl rfl (.cons (reads_pair (N8 _ (.tail _ (.tail _ (.head _)))).1) (.cons (reads_pair (N8 _ (.tail _ (.head _))).1) .nil))⟩ ⟨_, reads_pair (N8 _ (.tail _ (.tail _ (.tail _ (.head _))))).1⟩ ?okl ⟨models_strOk hm, models_strOk hg⟩ (by ktr_units) ?_
                      case okl => intro q hq; simp only [List.mem_cons, List.not_mem_nil, or_false] at hq; rcases hq with rfl | rfl <;> exact ⟨by decide +kernel, by decide +kernel⟩
                      rw [decide_eq_false hgr]
                      k_steps
                      rename Fr _ _ _ _ => F6
                      rename News _ _ _ _ => N6
                      exact CutV.intro F6 N6 (fun p hp => .tail _ (.tail _ (.tail _ hp))) rfl
                  case nxt8 =>
                    rintro fl h' tk' F1 N1 rfl
                    clear F2 N2
                    k_steps
                    unfold Stop
                    rename Fr _ _ _ _ => F2
                    rename News _ _ _ _ => N2
                    have hbase : ∀ p ∈ newT, ∀ q ∈ (D8, tup2 src goal t2 tm 0) :: (newA ++ (newB ++ [(L' + 1 + 1 + 1, oy9), (L' + 1 + 1, om8), (L' + 1, ob8)])), p.1 ≠ q.1 := fun p hp q hq => by
                      simp only [List.mem_cons, List.mem_append, List.not_mem_nil, or_false] at hq
                      rcases hq with h | h | h | h | h | h
                      · rw [h]; exact Nat.ne_of_lt (lD8 p (List.mem_append_right _ (List.mem_append_left _ hp)))
                      · exact Ne.symm (nAT q h p hp)
                      · exact nTB p hp q h
                      · rw [h]; exact nT3 p hp
                      · rw [h]; exact nT2 p hp
                      · rw [h]; exact nT1 p hp
                    refine for_list1 (vs := tvs) (PutR tvs tpa tpn W H ((D8, tup2 src goal t2 tm 0) :: (newA ++ (newB ++ [(L' + 1 + 1 + 1, oy9), (L' + 1 + 1, om8), (L' + 1, ob8)])))) F2 rfl rfl PassesOwn.never rfl rfl ?headP (by intro _; rfl)
                    case headP =>
                      k_steps
                      rename Fr _ _ _ _ => F9
                      rename News _ _ _ _ => N9
                      have hsh : ∀ v ∈ tvs, ShapeT newT W H v := fun v hv9 => by
                        obtain ⟨i, hi⟩ := List.getElem?_of_mem hv9
                        refine item_elim r2 r3 hi fun p hp9 hpm hpl => ?_
                        have q9 := hR.sized p hpm
                        exact ⟨p, hpl, q9.1, q9.2.1, q9.2.2.1, q9.2.2.2⟩
                      refine ForL1.intro F9 (fun p hp => N9 p ?memb) ⟨_, (N9 _ (.tail _ (List.mem_append_right _ (List.mem_append_left _ r1)))).1, rfl, _, rfl⟩ ⟨newT, rfl, hsh, r1, hbase⟩ ?turnP ?doneP
                      case memb =>
                        simp only [List.mem_cons, List.mem_append, List.not_mem_nil, or_false] at hp ⊢
                        rcases hp with h | h | h | h | h | h | h <;> simp [h]
                      case turnP =>
                        rintro i v I led' s' own hv9 hPR off hown ⟨oI, hI⟩ F8 N8
                        refine hPR.elim fun T hled hS mt dj => ?_
                        subst hled
                        rw [List.append_assoc] at N8
                        have hvm := List.mem_of_getElem? hv9
                        refine (hS v hvm).elim w1 h1' fun pa9 d9 ra9 ia9 e19 e29 e39 t19 t29 t39 t49 t59 n9 rn9 inn9 rvs9 ivs9 z9 tz9 xs9 ev mp md mr mi hi9 hl9 => ?_
                        subst ev
                        clear hR hv h3 p3 poB b3 poT q2 q3 r3 poA a3 r2 hp hbase hPR
                        k_steps
                        unfold Stop
                        rename Fr _ _ _ _ => F7
                        rename News _ _ _ _ => N7
                        refine eff_use0 F7 N7 (at_ok (by assumption) F7 (by assumption) (by assumption) (by exact rfl) (by exact rfl) (by ktr_room) (by omega) (by omega) (N7 _ (List.mem_append_left _ mp)).1 (N7 _ (List.mem_append_left _ md)).1 (N7 _ (List.mem_append_left _ mr)).1 (N7 _ (List.mem_append_left _ mi)).1) ?_
                        rintro y9a h9 tk9 O9 F6 N6 _ ⟨z9a, t9a, rfl⟩
                        k_steps
                        unfold Stop
                        rename Fr _ _ _ _ => F5
                        rename News _ _ _ _ => N5
                        have NT : ∀ {hh}, News g L' hh (T ++ ((D8, tup2 src goal t2 tm 0) :: (newA ++ (newB ++ [(L' + 1 + 1 + 1, oy9), (L' + 1 + 1, om8), (L' + 1, ob8)])) ++ own)) → News g L' hh T := fun N p hp => N p (List.mem_append_left _ hp)
                        refine Eff.use (put_ok (by assumption) F5 (by assumption) (by assumption) (by exact rfl) (by exact rfl) (by ktr_room) (by omega) (by omega) (news_one (NT N5) mi) (ne_int (NT N5) mi mp ne_inst) (ne_int (NT N5) mi md ne_dict) (ne_int (NT N5) mi mr ne_refs) (NT N5 _ mp).1 (NT N5 _ md).1 (NT N5 _ mr).1) fun y h0 tk0 st i0 _ => ?_
                        have hend := fun tk => put_end (i := i + 1) (tk' := tk) (s := s') F5 N5 hS mt dj w1 h1' mi hi9 hl9 off hown st i0
                        clear hS dj off hown
                        have F4 := (hend 0).1
                        k_steps
                        exact (hend _).2
                      case doneP =>
                        intro h' tk' u9 led' F8 N8 hPR
                        refine hPR.elim fun T hled hS mt dj => ?_
                        subst hled
                        clear F9 N9
                        k_steps
                        unfold Stop
                        rename Fr _ _ _ _ => F7
                        rename News _ _ _ _ => N7
                        refine eff_use F7 N7 (rows_ok (by assumption) F7 (by assumption) (by assumption) (by exact rfl) (by exact rfl) (by ktr_room) (PLS.mono _ _ _ _ F7.keep h3) hn4 ok) (fun O O' v k h => PRS.mono _ _ _ _ k h) ?_
                        intro yz newZ h0 tk0 F6 N6 hnZ _ poZ
                        refine poZ.elim fun za zvs zn hyz z1 z2 z3 => ?_
                        subst hyz
                        k_steps
                        unfold Stop
                        rename Fr _ _ _ _ => F5
                        rename News _ _ _ _ => N5
                        refine eq_PRS (PRS.mono _ _ _ _ (fun a o h => (N5 _ (List.mem_append_left _ h)).1) poZ) (PRS.mono _ _ _ _ (fun a o h => (N5 _ (List.mem_append_right _ (List.mem_append_right _ (.tail _ (List.mem_append_right _ (List.mem_append_left _ h)))))).1) poB) (by ktr_units) ?_
                        k_steps
                        exact BodyEnd.intro F5 trivial rfl
end
end

section
open PySem PySem.W PyProof.Rows PyProof.Rows.LCg PySem.Calls
set_option maxRecDepth 100000
set_option maxHeartbeats 8000000
section
variable {w : World} {mean : ExcName → Option Value} {mg mb : Str → Option Value} {dp un : Nat} {gd : Option (List Code)} {env : Env} {outer : List Env} {A₀ : Around} {base h₀ : Heap} {L : Addr} {m : Str → Option Value} {s : Shared}

local macro_rules | `(tactic| k_inst) => `(tactic| exact inst_led (by k_asm) (by walk_at "km") (by walk_at "km"))
local macro_rules | `(tactic| walk_at "fn") => `(tactic| (apply rows_ok <;> walk_at "h"))
local macro_rules | `(tactic| walk_at "fn") => `(tactic| (apply inverted_ok <;> walk_at "h"))
local macro_rules | `(tactic| walk_at "fn") => `(tactic| (apply same_picture_ok <;> walk_at "h"))

local macro_rules | `(tactic| k_mem) => `(tactic| walk_at "km")
local macro_rules | `(tactic| walk_at "call ref") => `(tactic| (k_here; refine Stop.ref [292, 318, 325, 299, 306, 330, 115, 340, 345, 352] (by decide) ?_))
theorem sub2 {α : Type} {a b x : α} {M N : List α} (ha : a ∈ N) (hb : b ∈ N) (h : ∀ z ∈ M, z ∈ N) (q : x ∈ a :: b :: M) : x ∈ N := by
  rcases List.mem_cons.mp q with rfl | q
  · exact ha
  · rcases List.mem_cons.mp q with rfl | q
    · exact hb
    · exact h _ q
theorem pick_model {t1 t2 t3 t4 t5 t6 : Tok} {i : Nat} {r : Value} (h : [Value.str "grey" t1, .str "rgb" t2, .str "ycc" t3, .str "cmyk" t4, .str "ycck" t5, .str "raw" t6][i]? = some r) : ∃ md t, r = .str md t ∧ md ∈ modelsL := by
  match i, h with
  | 0, h => cases h; exact ⟨_, _, rfl, by decide⟩
  | 1, h => cases h; exact ⟨_, _, rfl, by decide⟩
  | 2, h => cases h; exact ⟨_, _, rfl, by decide⟩
  | 3, h => cases h; exact ⟨_, _, rfl, by decide⟩
  | 4, h => cases h; exact ⟨_, _, rfl, by decide⟩
  | 5, h => cases h; exact ⟨_, _, rfl, by decide⟩
  | i + 6, h => simp at h
local macro_rules | `(tactic| walk_at "compareOp In ref ref") => `(tactic| walk_at "st")
theorem ways_ok : ∀ q ∈ waysL ++ [(("ycc" : Str), ("grey" : Str)), (("grey" : Str), ("ycc" : Str))], PairOk q := fun q hq => by
  rcases List.mem_append.mp hq with hq | hq
  · exact waysL_ok q hq
  · simp only [List.mem_cons, List.not_mem_nil, or_false] at hq
    rcases hq with rfl | rfl
    · exact ok_yg
    · exact ok_gy
theorem model_ok {md : Str} (h : md ∈ modelsL) : PyData.strOk md = true ∧ md.length ≤ 8 := by
  simp only [modelsL, List.mem_cons, List.not_mem_nil, or_false] at h
  rcases h with rfl | rfl | rfl | rfl | rfl | rfl <;> exact ⟨by decide +kernel, by decide +kernel⟩
theorem law_code {sc : Addr} {vals : List Value} {xs : List Int} {s : Shared} (X : (KK w.params).In s.heap) (T : Top VV LO mean mg mb s.heap) (hl : s.heap.IsList sc vals.toArray) (hi : IntsAre vals xs) (hn : xs.length ≤ 63) :
    codeAny (model PR w) callerA (.call (.ref 359) ⟨[.ref sc], []⟩) (fun r s' => r = .ok (.ret (.bool true)) ∧ Ends s.heap s s') s := by
  k_dflt (refine' enter_top X T ?ko ?kc ?kb ?kl (fun L h₁ dp un gd F N B hd hu => ?_) ?c1 ?c2 ?c3 ?c4; (case ko => k_is); (case kc => k_is); (case kb => exact BindsTo.of_eq rfl); (case c4 => decide); (case kl => exact locs rfl); (case c1 => exact rfl); (case c2 => exact rfl); (case c3 => exact rfl))
  k_steps
  unfold Stop
  rename Fr _ _ _ _ => F9
  rename News _ _ _ _ => N9
  refine eff_use F9 N9 (pool_ok B F9 X T rfl rfl (by ktr_room) (by ktr_units) (hl.at fun o e => F9.keep _ o e) hi hn) (fun O O' v k ⟨l, o, a, b, c⟩ => ⟨l, o, a, k _ _ b, c⟩) ?_
  rintro y new h' tk' F8 N8' - - ⟨src, o, rfl, hm, ho⟩
  have N8 := news_one N8' (List.mem_append_left _ hm)
  clear N8'
  k_steps
  unfold Stop
  rename Fr _ _ _ _ => F7
  rename News _ _ _ _ => N7
  refine eff_useS0 (src := src) (Post := fun _ r => r = .bool true) F7 N7 (by k_updF) (guess_right_ok B F7 X T rfl rfl (by ktr_room) (by ktr_units) N7 ho) ?_
  rintro y a ta b tb n h' tk' F6 N6 a0 b0 b1 rfl
  k_steps
  unfold Stop
  rename Fr _ _ _ _ => F5
  rename News _ _ _ _ => N5
  refine eff_use0 F5 N5 (models_ok B F5 X T rfl rfl (by ktr_room) (by ktr_units)) ?_
  rintro y h' tk' O F4 N4 - rfl
  k_steps
  unfold Stop
  rename Fr _ _ _ _ => F3
  rename News _ _ _ _ => N3
  refine eff_useS0 (src := src) (Post := fun _ r => ∃ d t, r = .int d t ∧ 0 ≤ d ∧ d < 7) F3 N3 (by k_updF) (take_ok B F3 X T rfl rfl (by ktr_room) (by ktr_units) N3 ⟨_, _, _, _, _, rfl, a0, b0, b1⟩ (by decide) (by decide)) ?_
  rintro y a ta b tb n h' tk' F2 N2 a0 b0 b1 ⟨pr, tp, rfl, p0, p7⟩
  k_steps
  unfold Stop
  rename Fr _ _ _ _ => F1
  rename News _ _ _ _ => N1
  have m1 := (N1 _ (.head _)).1
  have hne := ne_list (vs := [_, _, _, _, _, _]) (ws := [_, _]) m1 (N1 _ (.tail _ (.head _))).1 (by simp)
  refine eff_useS0 (src := src) (Post := fun _ r => ∃ i : Nat, [_, _, _, _, _, _][i]? = some r) F1 N1 (by k_updF) (one_ok (vs := [_, _, _, _, _, _]) B F1 X T rfl rfl (by ktr_room) (by ktr_units) (news_one N1 (.tail _ (.head _))) ⟨_, _, _, _, _, rfl, a0, b0, b1⟩ m1 hne (by simp) (by simp)) ?_
  clear m1
  rintro y a ta b tb n h' tk' F2 N2 a0 b0 b1 ⟨i1, hi1⟩
  obtain ⟨src', ts, rfl, hm⟩ := pick_model hi1
  k_steps
  unfold Stop
  rename Fr _ _ _ _ => F1
  rename News _ _ _ _ => N1
  have m1 := (N1 _ (.head _)).1
  refine eff_useS0 (src := src) (Post := fun _ r => ∃ i : Nat, [_, _, _, _, _, _][i]? = some r) F1 N1 (by k_updF) (one_ok (vs := [_, _, _, _, _, _]) B F1 X T rfl rfl (by ktr_room) (by ktr_units) (news_one N1 (.tail _ (.head _))) ⟨_, _, _, _, _, rfl, a0, b0, b1⟩ m1 hne (by simp) (by simp)) ?_
  clear m1
  rintro y a ta b tb n h' tk' F2 N2 a0 b0 b1 ⟨i2, hi2⟩
  obtain ⟨goal, tg, rfl, hg⟩ := pick_model hi2
  k_steps
  unfold Stop
  rename Fr _ _ _ _ => F1
  rename News _ _ _ _ => N1
  have hM0 : (0 : Int) ≤ 2 ^ (2 + pr).toNat - 1 := by have := pow_le8 (p := 2 + pr) (by omega) (by omega); omega
  have hM1 : (2 : Int) ^ (2 + pr).toNat - 1 ≤ 255 := by have := pow_le8 (p := 2 + pr) (by omega) (by omega); omega
  refine eff_useS (src := src) (Post := fun O r => ∃ ps W H, PLS O r ps ∧ ps.length = cnt src' ∧ Sized W H ps ∧ 1 ≤ W ∧ W ≤ 3 ∧ 1 ≤ H ∧ H ≤ 2) F1 N1 (by k_updF) (law_picture_ok B F1 X T rfl rfl (by ktr_room) (by ktr_units) (news_one N1 (by k_mem)) ⟨_, _, _, _, _, rfl, a0, b0, b1⟩ hm hM0 hM1) (fun O O' v k ⟨ps, W, H, a, b⟩ => ⟨ps, W, H, PLS.mono _ _ _ _ k a, b⟩) ?_
  rintro y new a ta b tb n h' tk' F2 N2 - a0 b0 b1 ⟨ps, W, H, hps, hl, hs, w1, w3, h1, h2⟩
  have ok := hs.ok w1 w3 h1 h2
  have hn4 : ps.length ≤ 4 := by rcases cnt_models hm with h | h | h | h <;> omega
  k_steps
  unfold Stop
  rename Fr _ _ _ _ => F1
  rename News _ _ _ _ => N1
  refine pic_use B F1 N1 X T rfl rfl (by ktr_room) ?_
  intro pa pd e1 e2 e3 t1 t2 t3 t4 t5 pn h' tk' F3 N3 _ _
  have hpL : PC (fun a o => (a, o) ∈ (pa, instObj 115 pd) :: (pd, dictOf [⟨e1, .str (Str.ofString "model") t1, .str src' t2⟩, ⟨e2, .str (Str.ofString "precision") t3, .int (2 + pr) t4⟩, ⟨e3, .str (Str.ofString "planes") t5, y⟩] pn) :: new) (.ref pa) ⟨src', 2 + pr, ps⟩ := ⟨pa, pd, e1, e2, e3, _, _, _, _, _, _, pn, rfl, .head _, .tail _ (.head _), PLS.mono _ _ _ _ (fun a o q => .tail _ (.tail _ q)) hps⟩
  clear hps hi1 hi2
  k_steps
  unfold Stop
  rename Fr _ _ _ _ => F1
  rename News _ _ _ _ => N1
  refine eff_use0 F1 N1 (inverted_right_ok (P := ⟨src', 2 + pr, ps⟩) B F1 X T rfl rfl (by ktr_room) (by ktr_units) (PC.mono _ _ _ _ (fun a o q => (N1 (a, o) (sub2 (by k_mem) (by k_mem) (fun z hz => by k_mem) q)).1) hpL) hn4 ok (model_ok hm).1 (by show (2 : Int) ≤ 2 + pr; omega) (by show (2 : Int) + pr ≤ 8; omega)) ?_
  rintro y h' tk' O F4 N4 - rfl
  clear F1 N1 hM0 hM1
  refine wpAny_truthy_bool ?_
  k_unfold
  rw [if_neg (by decide)]
  repeat' (first | (k_unfold; (try dsimp only)) | (k_end; wrow_close) | (walk1 <;> (try dsimp only)) | (dsimp only; walk1) | (leave1; try dsimp only))
  · unfold Stop
    rename Fr _ _ _ _ => F0
    rename News _ _ _ _ => N0
    rename (src' == goal) = true => hb
    refine eff_use0 F0 N0 (law_turned_right_ok B F0 X T rfl rfl (by ktr_room) (by ktr_units) (.inl (eq_of_beq hb)) (PC.mono _ _ _ _ (fun a o q => (N0 (a, o) (sub2 (by k_mem) (by k_mem) (fun z hz => by k_mem) q)).1) hpL) hm hg hl hs w1 w3 h1 h2 (by omega) (by omega)) ?_
    rintro y h' tk' O F4 N4 - rfl
    exact ⟨rfl, F4.keep, rfl, rfl⟩
  · unfold Stop
    rename Fr _ _ _ _ => F9
    rename News _ _ _ _ => N9
    refine in_list_pairs (p := (src', goal)) (ps := waysL ++ [(("ycc" : Str), ("grey" : Str)), (("grey" : Str), ("ycc" : Str))]) ⟨_, .list (N9 _ (.head _)).1 rfl rfl (.cons (reads_pair (N9 _ (.tail _ (.tail _ (.tail _ (.tail _ (.tail _ (.tail _ (.tail _ (.tail _ (.tail _ (.tail _ (.tail _ (.head _))))))))))))).1) (.cons (reads_pair (N9 _ (.tail _ (.tail _ (.tail _ (.tail _ (.tail _ (.tail _ (.tail _ (.tail _ (.tail _ (.tail _ (.head _)))))))))))).1) (.cons (reads_pair (N9 _ (.tail _ (.tail _ (.tail _ (.tail _ (.tail _ (.tail _ (.tail _ (.tail _ (.tail _ (.head _))))))))))).1) (.cons (reads_pair (N9 _ (.tail _ (.tail _ (.tail _ (.tail _ (.tail _ (.tail _ (.tail _ (.tail _ (.head _)))))))))).1) (.cons (reads_pair (N9 _ (.tail _ (.tail _ (.tail _ (.tail _ (.tail _ (.tail _ (.tail _ (.head _))))))))).1) (.cons (reads_pair (N9 _ (.tail _ (.tail _ (.tail _ (.tail _ (.tail _ (.tail _ (.head _)))))))).1) (.cons (reads_pair (N9 _ (.tail _ (.tail _ (.tail _ (.head _))))).1) (.cons (reads_pair (N9 _ (.tail _ (.tail _ (.head _)))).1) .nil))))))))⟩ ⟨_, reads_pair (N9 _ (.tail _ (.tail _ (.tail _ (.tail _ (.head _)))))).1⟩ ways_ok ⟨(model_ok hm).1, (model_ok hg).1⟩ (by ktr_units) ?_
    rename (src' == goal) = false => hb
    refine wpAny_truthy_bool ?_
    by_cases hq : (src', goal) ∈ waysL ++ [(("ycc" : Str), ("grey" : Str)), (("grey" : Str), ("ycc" : Str))]
    · have hval : Valid src' goal := .inr (by simpa [List.mem_append] using hq)
      rw [decide_eq_true hq]
      k_steps
      unfold Stop
      rename Fr _ _ _ _ => F0
      rename News _ _ _ _ => N0
      refine eff_use0 F0 N0 (law_turned_right_ok B F0 X T rfl rfl (by ktr_room) (by ktr_units) hval (PC.mono _ _ _ _ (fun a o q => (N0 (a, o) (sub2 (by k_mem) (by k_mem) (fun z hz => by k_mem) q)).1) hpL) hm hg hl hs w1 w3 h1 h2 (by omega) (by omega)) ?_
      rintro y h' tk' O F4 N4 - rfl
      exact ⟨rfl, F4.keep, rfl, rfl⟩
    · have hval : ¬ Valid src' goal := fun z => by
        rcases z with z | z
        · exact absurd z (beq_eq_false_iff_ne.mp hb)
        · exact hq (by simpa [List.mem_append] using z)
      rw [decide_eq_false hq]
      k_steps
      unfold Stop
      rename Fr _ _ _ _ => F0
      rename News _ _ _ _ => N0
      refine wpAny_mono (refused_ok B F0 X T rfl rfl (by ktr_room) (by ktr_units) ⟨(model_ok hm).1, (model_ok hg).1⟩ (model_ok hm).2 (model_ok hg).2 hval (PC.mono _ _ _ _ (fun a o q => ⟨(N0 (a, o) (sub2 (by k_mem) (by k_mem) (fun z hz => by k_mem) q)).1, (N0 (a, o) (sub2 (by k_mem) (by k_mem) (fun z hz => by k_mem) q)).2.1⟩) hpL) hn4 ok) (fun r s' e => ?_) fun _ _ e => e.elim
      exact ⟨by rw [e.1], e.2⟩
end
end

section
open PySem PySem.W PyProof.Rows
set_option maxRecDepth 100000
set_option maxHeartbeats 8000000
theorem topL : PySem.Challenge.rw_nt0558_01.Holds := by
  refine holds_law said_ok fun said => ?_
  refine holds_open (q := VV) (loose := [Str.ofString "HALF"]) (Xt := fun s => xlAt VV [(Str.ofString "HALF", WData.int 32768)] s && recOk PySem.Challenge.rw_nt0558_01.row.records s) (XP := XL VV [(Str.ofString "HALF", WData.int 32768)]) (Yf := (kHook KK asK asK_ok).obs) (Ya := (kHook KK asK asK_ok).val) (YP := (kHook KK asK asK_ok).says) (N := 5028) leftP
    (Hook.of _) (Hook.keeps _) (fun s e => xl_of s (Bool.and_eq_true_iff.mp e).1) XL.keeps (by rfl) (by rfl) (by rfl) (fun s e => recFacts_of (Bool.and_eq_true_iff.mp e).2) (by rfl) said chains_ok ⟨rfl, rfl, rfl, rfl, rfl, by decide +kernel⟩ ⟨_, wit1, wit2⟩ ?call
  case call =>
    w_on
    intro w s₀ s₁ mg mb G Y fa o pm cd doc dV kV ho hd hcd hD hmg hg args vals as hpre hlay hrd hwl hlo
    have KX := kIn_of Y
    refine Ground.open G ?_
    intro T B D TE TW
    clear B TE TW D
    wrow_args hpre hlay hrd hwl hlo
    all_goals (
      refine enter_call ?_
      w_top on
      try refine codeAny_mono ?_ (fun _ _ g => GoodW.toG g))
    rename_i hcond _
    rename Heap.IsList _ _ _ => hL
    rename IntsAre _ _ => hI
    have hfa := (mg_of KX T.g law_at).symm.trans hmg
    cases hfa
    refine codeAny_mono (law_code KX T hL hI (by omega)) (fun r s' e => ?_)
    obtain ⟨rfl, e1, e2, e3⟩ := e
    refine ⟨.inl ⟨.bool true, .bool true, [], rfl, fun _ => rfl, ?rd, ?post, ?un⟩, e1, e2, e3.trans hg⟩
    case rd => constructor
    case post => wrow_post
    case un => exact fun _ => ⟨List.nodup_nil, fun a h => by cases h⟩
end
end Mine
theorem PySem.Challenge.cw_nt0558_01_holds : PySem.Challenge.rw_nt0558_01.Holds := by
  exact Mine.topL
