import PyProof.Rows.All
import Wide.All
import OpenK.AllK
import Wide.FinOn
import Lean
import PySem.Challenge.RW_pb0183_01
open PySem PySem.W PyProof.Rows PySem.Challenge
set_option Elab.async false
set_option maxRecDepth 100000
set_option maxHeartbeats 8000000
namespace Mine
section
open PySem.Calls
noncomputable def topS (i : Nat) : PySem.Stmt := match PySem.Challenge.pw_pb0183_01.main.body[i]? with
  | some s => s
  | none => .Pass ⟨0, 0, 0, 0⟩
noncomputable def inS (i j : Nat) : PySem.Stmt := match topS i with
  | .ClassDef _ _ _ body _ _ _ _ _ _ _ => (match body[j]? with
    | some s => s
    | none => .Pass ⟨0, 0, 0, 0⟩)
  | _ => .Pass ⟨0, 0, 0, 0⟩
noncomputable def kFn (s : PySem.Stmt) (q : PySem.Str) (cl : List (PySem.Str × Addr)) (dV kV doc pm : Value) (an : Option Addr) (cdv ct : Value) : PySem.Obj := match s with
  | .FunctionDef name args body _ _ _ scope _ _ _ => { cls := .type "function", data := .func { name := name, qualname := q, params := args, body := .stmts body, scope := scope, globals := 3, closure := cl, defaults := dV, kwdefaults := kV, doc := doc, pyModule := pm, annotations := an, code := cdv, closureTuple := ct, builtins := 0 } }
  | _ => { cls := .none }
noncomputable def k2 (P : Params) : Obj := .mk .none none (.dict #[.mk (PyData.keyHash P "type.__subclasses__.Exception.0") (.str "type.__subclasses__.Exception.0" 234) (.int 48 0), .mk (PyData.keyHash P "type.__subclasses__.Exception.n") (.str "type.__subclasses__.Exception.n" 235) (.int 1 0)] 2) #[]
noncomputable def k3 (P : Params) : Obj := .mk (.type "dict") none (.dict #[.mk (PyData.keyHash P "__name__") (.str "__name__" 165) (.str "law_pb0183_01" 613), .mk (PyData.keyHash P "__doc__") (.str "__doc__" 166) .none, .mk (PyData.keyHash P "__package__") (.str "__package__" 167) .none, .mk (PyData.keyHash P "__loader__") (.str "__loader__" 168) (.builtin "__main__.__loader__#opaque"), .mk (PyData.keyHash P "__spec__") (.str "__spec__" 169) .none, .mk (PyData.keyHash P "__annotations__") (.str "__annotations__" 170) (.ref 6), .mk (PyData.keyHash P "__builtins__") (.str "__builtins__" 171) (.ref 4), .mk (PyData.keyHash P "__file__") (.str "__file__" 173) (.str "/claim/cut.py" 172), .mk (PyData.keyHash P "__cached__") (.str "__cached__" 174) .none, .mk (PyData.keyHash P "_wall") (.str "_wall" 193) (.ref 21), .mk (PyData.keyHash P "ShapeError") (.str "ShapeError" 237) (.ref 48), .mk (PyData.keyHash P "TableFault") (.str "TableFault" 253) (.ref 61), .mk (PyData.keyHash P "USE_SET") (.str "USE_SET" 257) (.int 16 256), .mk (PyData.keyHash P "Lookup") (.str "Lookup" 298) (.ref 85), .mk (PyData.keyHash P "check_room") (.str "check_room" 309) (.ref 96), .mk (PyData.keyHash P "number_at") (.str "number_at" 320) (.ref 103), .mk (PyData.keyHash P "OctetsIn") (.str "OctetsIn" 424) (.ref 187), .mk (PyData.keyHash P "NO_FEATURE") (.str "NO_FEATURE" 428) (.int 65535 427), .mk (PyData.keyHash P "NO_SET") (.str "NO_SET" 431) (.int (-1) 430), .mk (PyData.keyHash P "LangSys") (.str "LangSys" 469) (.ref 215), .mk (PyData.keyHash P "Script") (.str "Script" 508) (.ref 241), .mk (PyData.keyHash P "Feature") (.str "Feature" 546) (.ref 269), .mk (PyData.keyHash P "offset_behind") (.str "offset_behind" 556) (.ref 280), .mk (PyData.keyHash P "read_records") (.str "read_records" 571) (.ref 287), .mk (PyData.keyHash P "read_langsys") (.str "read_langsys" 582) (.ref 294), .mk (PyData.keyHash P "read_script") (.str "read_script" 596) (.ref 301), .mk (PyData.keyHash P "read_feature") (.str "read_feature" 606) (.ref 308), .mk (PyData.keyHash P "read_lookup") (.str "read_lookup" 612) (.ref 313), .mk (PyData.keyHash P "_law_pen") (.str "_law_pen" 620) (.ref 318), .mk (PyData.keyHash P "_law_draw") (.str "_law_draw" 629) (.ref 325), .mk (PyData.keyHash P "_law_pick") (.str "_law_pick" 637) (.ref 332), .mk (PyData.keyHash P "_law_row") (.str "_law_row" 643) (.ref 337), .mk (PyData.keyHash P "_law_script_octets") (.str "_law_script_octets" 649) (.ref 342), .mk (PyData.keyHash P "_law_lookup_octets") (.str "_law_lookup_octets" 655) (.ref 347), .mk (PyData.keyHash P "_law_bent") (.str "_law_bent" 666) (.ref 354), .mk (PyData.keyHash P "_law_table") (.str "_law_table" 676) (.ref 361), .mk (PyData.keyHash P "_law_heard") (.str "_law_heard" 684) (.ref 368), .mk (PyData.keyHash P "_law_readers") (.str "_law_readers" 694) (.ref 375), .mk (PyData.keyHash P "_law_lookup") (.str "_law_lookup" 700) (.ref 380), .mk (PyData.keyHash P "_law_moved") (.str "_law_moved" 708) (.ref 387), .mk (PyData.keyHash P "law") (.str "law" 714) (.ref 392)] 41) #[]
noncomputable def k25 (_ : Params) : Obj := .mk (.type "cell") none (.cell (some (.ref 48))) #[]
noncomputable def k30 (_ : Params) : Obj := .mk (.type "tuple") none (.seq #[.int (-1) 209]) #[]
noncomputable def k37 (_ : Params) : Obj := .mk (.type "code") none (.fields #[.str "__init__" 210, .str "ShapeError.__init__" 211, .str "/claim/cut.py" 212, .int 7 0, .int 3 0, .int 0 0, .int 0 0, .int 3 0, .ref 32, .bool true, .int 181 0, .ref 33, .none, .ref 34, .ref 35, .ref 36, .int 217 0, .int 7 0, .str "/claim/cut.py" 218]) #[]
noncomputable def k38 (_ : Params) : Obj := kFn (inS 2 0) "ShapeError.__init__" [(Str.ofString "__class__", 25)] (.ref 30) .none .none (.str "joinedhand.errors" 194) none (.ref 37) (.ref 31)
noncomputable def k47 (P : Params) : Obj := .mk (.type "dict") none (.dict #[.mk (PyData.keyHash P "__module__") (.str "__module__" 203) (.str "joinedhand.errors" 194), .mk (PyData.keyHash P "__firstlineno__") (.str "__firstlineno__" 207) (.int 5 206), .mk (PyData.keyHash P "__init__") (.str "__init__" 219) (.ref 38), .mk (PyData.keyHash P "told") (.str "told" 226) (.ref 45), .mk (PyData.keyHash P "__static_attributes__") (.str "__static_attributes__" 229) (.ref 46), .mk (PyData.keyHash P "__weakref__") (.str "__weakref__" 232) (.ref 49), .mk (PyData.keyHash P "__doc__") (.str "__doc__" 233) .none] 4) #[]
noncomputable def k48 (_ : Params) : Obj := .mk (.type "type") none (.cls (.mk "ShapeError" [.type "Exception"] [.ref 48, .type "Exception", .type "BaseException", .type "object"] 47 "ShapeError" true [] [.ref 61] false none false)) #[some (.ref 22), none, some (.str "ShapeError" 196), some (.str "ShapeError" 204), some (.builtin "Exception.__new__"), some (.bool true)]
noncomputable def k49 (_ : Params) : Obj := .mk (.type "getset_descriptor") none (.fields #[.str "__weakref__" 231, .ref 48, .builtin "ExceptionGroup.__weakref__", .none]) #[]
noncomputable def k60 (P : Params) : Obj := .mk (.type "dict") none (.dict #[.mk (PyData.keyHash P "__module__") (.str "__module__" 245) (.str "joinedhand.errors" 194), .mk (PyData.keyHash P "__firstlineno__") (.str "__firstlineno__" 249) (.int 14 248), .mk (PyData.keyHash P "__static_attributes__") (.str "__static_attributes__" 250) (.ref 59), .mk (PyData.keyHash P "__doc__") (.str "__doc__" 251) .none] 2) #[]
noncomputable def k61 (_ : Params) : Obj := .mk (.type "type") none (.cls (.mk "TableFault" [.ref 48] [.ref 61, .ref 48, .type "Exception", .type "BaseException", .type "object"] 60 "TableFault" true [] [] false none false)) #[some (.ref 52), none, some (.str "TableFault" 238), some (.str "TableFault" 246), some (.builtin "Exception.__new__"), some (.bool true)]
noncomputable def k76 (_ : Params) : Obj := .mk (.type "code") none (.fields #[.str "__init__" 270, .str "Lookup.__init__" 271, .str "/claim/cut.py" 272, .int 20 0, .int 5 0, .int 0 0, .int 0 0, .int 3 0, .ref 71, .bool true, .int 181 0, .ref 72, .none, .ref 73, .ref 74, .ref 75, .int 278 0, .int 20 0, .str "/claim/cut.py" 279]) #[]
noncomputable def k77 (_ : Params) : Obj := kFn (inS 6 0) "Lookup.__init__" [] .none .none .none (.str "joinedhand.flags" 254) none (.ref 76) .none
noncomputable def k81 (_ : Params) : Obj := .mk (.type "code") none (.fields #[.str "told" 281, .str "Lookup.told" 282, .str "/claim/cut.py" 283, .int 26 0, .int 1 0, .int 0 0, .int 0 0, .int 3 0, .ref 78, .bool true, .int 181 0, .ref 79, .none, .none, .none, .ref 80, .int 284 0, .int 26 0, .str "/claim/cut.py" 285]) #[]
noncomputable def k82 (_ : Params) : Obj := kFn (inS 6 1) "Lookup.told" [] .none .none .none (.str "joinedhand.flags" 254) none (.ref 81) .none
noncomputable def k84 (P : Params) : Obj := .mk (.type "dict") none (.dict #[.mk (PyData.keyHash P "__module__") (.str "__module__" 265) (.str "joinedhand.flags" 254), .mk (PyData.keyHash P "__firstlineno__") (.str "__firstlineno__" 269) (.int 18 268), .mk (PyData.keyHash P "__init__") (.str "__init__" 280) (.ref 77), .mk (PyData.keyHash P "told") (.str "told" 286) (.ref 82), .mk (PyData.keyHash P "__static_attributes__") (.str "__static_attributes__" 291) (.ref 83), .mk (PyData.keyHash P "__dict__") (.str "__dict__" 293) (.ref 86), .mk (PyData.keyHash P "__weakref__") (.str "__weakref__" 295) (.ref 87), .mk (PyData.keyHash P "__doc__") (.str "__doc__" 296) .none] 4) #[]
noncomputable def k85 (_ : Params) : Obj := .mk (.type "type") none (.cls (.mk "Lookup" [.type "object"] [.ref 85, .type "object"] 84 "Lookup" true [] [] false none false)) #[none, none, some (.str "Lookup" 258), some (.str "Lookup" 266), some (.builtin "object.__new__"), some (.bool true)]
noncomputable def k86 (_ : Params) : Obj := .mk (.type "getset_descriptor") none (.fields #[.str "__dict__" 292, .ref 85, .builtin "function.__dict__", .builtin "function.__dict__#set"]) #[]
noncomputable def k87 (_ : Params) : Obj := .mk (.type "getset_descriptor") none (.fields #[.str "__weakref__" 294, .ref 85, .builtin "ExceptionGroup.__weakref__", .none]) #[]
noncomputable def k95 (_ : Params) : Obj := .mk (.type "code") none (.fields #[.str "check_room" 301, .str "check_room" 302, .str "/claim/cut.py" 303, .int 30 0, .int 3 0, .int 0 0, .int 0 0, .int 3 0, .ref 90, .bool true, .int 181 0, .ref 91, .none, .ref 92, .ref 93, .ref 94, .int 307 0, .int 30 0, .str "/claim/cut.py" 308]) #[]
noncomputable def k96 (_ : Params) : Obj := kFn (topS 8) "check_room" [] .none .none .none (.str "joinedhand.octets" 299) none (.ref 95) .none
noncomputable def k102 (_ : Params) : Obj := .mk (.type "code") none (.fields #[.str "number_at" 310, .str "number_at" 311, .str "/claim/cut.py" 312, .int 33 0, .int 3 0, .int 0 0, .int 0 0, .int 3 0, .ref 97, .bool true, .int 181 0, .ref 98, .none, .ref 99, .ref 100, .ref 101, .int 318 0, .int 33 0, .str "/claim/cut.py" 319]) #[]
noncomputable def k103 (_ : Params) : Obj := kFn (topS 9) "number_at" [] .none .none .none (.str "joinedhand.octets" 299) none (.ref 102) .none
noncomputable def k111 (_ : Params) : Obj := .mk (.type "tuple") none (.seq #[.int 0 333]) #[]
noncomputable def k117 (_ : Params) : Obj := .mk (.type "code") none (.fields #[.str "__init__" 334, .str "OctetsIn.__init__" 335, .str "/claim/cut.py" 336, .int 41 0, .int 3 0, .int 0 0, .int 0 0, .int 3 0, .ref 112, .bool true, .int 181 0, .ref 113, .none, .ref 114, .ref 115, .ref 116, .int 340 0, .int 41 0, .str "/claim/cut.py" 341]) #[]
noncomputable def k118 (_ : Params) : Obj := kFn (inS 10 0) "OctetsIn.__init__" [] (.ref 111) .none .none (.str "joinedhand.octets" 299) none (.ref 117) .none
noncomputable def k124 (_ : Params) : Obj := .mk (.type "code") none (.fields #[.str "need" 343, .str "OctetsIn.need" 344, .str "/claim/cut.py" 345, .int 45 0, .int 2 0, .int 0 0, .int 0 0, .int 3 0, .ref 119, .bool true, .int 181 0, .ref 120, .none, .ref 121, .ref 122, .ref 123, .int 348 0, .int 45 0, .str "/claim/cut.py" 349]) #[]
noncomputable def k125 (_ : Params) : Obj := kFn (inS 10 1) "OctetsIn.need" [] .none .none .none (.str "joinedhand.octets" 299) none (.ref 124) .none
noncomputable def k131 (_ : Params) : Obj := .mk (.type "code") none (.fields #[.str "number" 351, .str "OctetsIn.number" 352, .str "/claim/cut.py" 353, .int 48 0, .int 2 0, .int 0 0, .int 0 0, .int 3 0, .ref 126, .bool true, .int 181 0, .ref 127, .none, .ref 128, .ref 129, .ref 130, .int 357 0, .int 48 0, .str "/claim/cut.py" 358]) #[]
noncomputable def k132 (_ : Params) : Obj := kFn (inS 10 2) "OctetsIn.number" [] .none .none .none (.str "joinedhand.octets" 299) none (.ref 131) .none
noncomputable def k145 (_ : Params) : Obj := .mk (.type "code") none (.fields #[.str "u16" 367, .str "OctetsIn.u16" 368, .str "/claim/cut.py" 369, .int 56 0, .int 1 0, .int 0 0, .int 0 0, .int 3 0, .ref 140, .bool true, .int 181 0, .ref 141, .none, .ref 142, .ref 143, .ref 144, .int 371 0, .int 56 0, .str "/claim/cut.py" 372]) #[]
noncomputable def k146 (_ : Params) : Obj := kFn (inS 10 4) "OctetsIn.u16" [] .none .none .none (.str "joinedhand.octets" 299) none (.ref 145) .none
noncomputable def k171 (_ : Params) : Obj := .mk (.type "code") none (.fields #[.str "tag" 395, .str "OctetsIn.tag" 396, .str "/claim/cut.py" 397, .int 68 0, .int 1 0, .int 0 0, .int 0 0, .int 3 0, .ref 168, .bool true, .int 181 0, .ref 169, .none, .none, .none, .ref 170, .int 398 0, .int 68 0, .str "/claim/cut.py" 399]) #[]
noncomputable def k172 (_ : Params) : Obj := kFn (inS 10 8) "OctetsIn.tag" [] .none .none .none (.str "joinedhand.octets" 299) none (.ref 171) .none
noncomputable def k176 (_ : Params) : Obj := .mk (.type "code") none (.fields #[.str "rows" 401, .str "OctetsIn.rows" 402, .str "/claim/cut.py" 403, .int 74 0, .int 2 0, .int 0 0, .int 0 0, .int 3 0, .ref 173, .bool true, .int 181 0, .ref 174, .none, .none, .none, .ref 175, .int 404 0, .int 74 0, .str "/claim/cut.py" 405]) #[]
noncomputable def k177 (_ : Params) : Obj := kFn (inS 10 9) "OctetsIn.rows" [] .none .none .none (.str "joinedhand.octets" 299) none (.ref 176) .none
noncomputable def k186 (P : Params) : Obj := .mk (.type "dict") none (.dict #[.mk (PyData.keyHash P "__module__") (.str "__module__" 328) (.str "joinedhand.octets" 299), .mk (PyData.keyHash P "__firstlineno__") (.str "__firstlineno__" 332) (.int 39 331), .mk (PyData.keyHash P "__init__") (.str "__init__" 342) (.ref 118), .mk (PyData.keyHash P "need") (.str "need" 350) (.ref 125), .mk (PyData.keyHash P "number") (.str "number" 359) (.ref 132), .mk (PyData.keyHash P "u8") (.str "u8" 366) (.ref 139), .mk (PyData.keyHash P "u16") (.str "u16" 373) (.ref 146), .mk (PyData.keyHash P "i16") (.str "i16" 380) (.ref 153), .mk (PyData.keyHash P "u24") (.str "u24" 387) (.ref 160), .mk (PyData.keyHash P "u32") (.str "u32" 394) (.ref 167), .mk (PyData.keyHash P "tag") (.str "tag" 400) (.ref 172), .mk (PyData.keyHash P "rows") (.str "rows" 406) (.ref 177), .mk (PyData.keyHash P "here") (.str "here" 414) (.ref 184), .mk (PyData.keyHash P "__static_attributes__") (.str "__static_attributes__" 417) (.ref 185), .mk (PyData.keyHash P "__dict__") (.str "__dict__" 419) (.ref 188), .mk (PyData.keyHash P "__weakref__") (.str "__weakref__" 421) (.ref 189), .mk (PyData.keyHash P "__doc__") (.str "__doc__" 422) .none] 4) #[]
noncomputable def k187 (_ : Params) : Obj := .mk (.type "type") none (.cls (.mk "OctetsIn" [.type "object"] [.ref 187, .type "object"] 186 "OctetsIn" true [] [] false none false)) #[none, none, some (.str "OctetsIn" 321), some (.str "OctetsIn" 329), some (.builtin "object.__new__"), some (.bool true)]
noncomputable def k188 (_ : Params) : Obj := .mk (.type "getset_descriptor") none (.fields #[.str "__dict__" 418, .ref 187, .builtin "function.__dict__", .builtin "function.__dict__#set"]) #[]
noncomputable def k189 (_ : Params) : Obj := .mk (.type "getset_descriptor") none (.fields #[.str "__weakref__" 420, .ref 187, .builtin "ExceptionGroup.__weakref__", .none]) #[]
noncomputable def k204 (_ : Params) : Obj := .mk (.type "code") none (.fields #[.str "__init__" 444, .str "LangSys.__init__" 445, .str "/claim/cut.py" 446, .int 85 0, .int 3 0, .int 0 0, .int 0 0, .int 3 0, .ref 199, .bool true, .int 181 0, .ref 200, .none, .ref 201, .ref 202, .ref 203, .int 450 0, .int 85 0, .str "/claim/cut.py" 451]) #[]
noncomputable def k205 (_ : Params) : Obj := kFn (inS 14 0) "LangSys.__init__" [] .none .none .none (.str "joinedhand.layout" 425) none (.ref 204) .none
noncomputable def k211 (_ : Params) : Obj := .mk (.type "code") none (.fields #[.str "told" 453, .str "LangSys.told" 454, .str "/claim/cut.py" 455, .int 89 0, .int 1 0, .int 0 0, .int 0 0, .int 3 0, .ref 206, .bool true, .int 181 0, .ref 207, .none, .ref 208, .ref 209, .ref 210, .int 457 0, .int 89 0, .str "/claim/cut.py" 458]) #[]
noncomputable def k212 (_ : Params) : Obj := kFn (inS 14 1) "LangSys.told" [] .none .none .none (.str "joinedhand.layout" 425) none (.ref 211) .none
noncomputable def k214 (P : Params) : Obj := .mk (.type "dict") none (.dict #[.mk (PyData.keyHash P "__module__") (.str "__module__" 439) (.str "joinedhand.layout" 425), .mk (PyData.keyHash P "__firstlineno__") (.str "__firstlineno__" 443) (.int 83 442), .mk (PyData.keyHash P "__init__") (.str "__init__" 452) (.ref 205), .mk (PyData.keyHash P "told") (.str "told" 459) (.ref 212), .mk (PyData.keyHash P "__static_attributes__") (.str "__static_attributes__" 462) (.ref 213), .mk (PyData.keyHash P "__dict__") (.str "__dict__" 464) (.ref 216), .mk (PyData.keyHash P "__weakref__") (.str "__weakref__" 466) (.ref 217), .mk (PyData.keyHash P "__doc__") (.str "__doc__" 467) .none] 4) #[]
noncomputable def k215 (_ : Params) : Obj := .mk (.type "type") none (.cls (.mk "LangSys" [.type "object"] [.ref 215, .type "object"] 214 "LangSys" true [] [] false none false)) #[none, none, some (.str "LangSys" 432), some (.str "LangSys" 440), some (.builtin "object.__new__"), some (.bool true)]
noncomputable def k216 (_ : Params) : Obj := .mk (.type "getset_descriptor") none (.fields #[.str "__dict__" 463, .ref 215, .builtin "function.__dict__", .builtin "function.__dict__#set"]) #[]
noncomputable def k217 (_ : Params) : Obj := .mk (.type "getset_descriptor") none (.fields #[.str "__weakref__" 465, .ref 215, .builtin "ExceptionGroup.__weakref__", .none]) #[]
noncomputable def k232 (_ : Params) : Obj := .mk (.type "code") none (.fields #[.str "__init__" 482, .str "Script.__init__" 483, .str "/claim/cut.py" 484, .int 93 0, .int 4 0, .int 0 0, .int 0 0, .int 3 0, .ref 227, .bool true, .int 181 0, .ref 228, .none, .ref 229, .ref 230, .ref 231, .int 489 0, .int 93 0, .str "/claim/cut.py" 490]) #[]
noncomputable def k233 (_ : Params) : Obj := kFn (inS 15 0) "Script.__init__" [] .none .none .none (.str "joinedhand.layout" 425) none (.ref 232) .none
noncomputable def k237 (_ : Params) : Obj := .mk (.type "code") none (.fields #[.str "told" 492, .str "Script.told" 493, .str "/claim/cut.py" 494, .int 98 0, .int 1 0, .int 0 0, .int 0 0, .int 3 0, .ref 234, .bool true, .int 181 0, .ref 235, .none, .none, .none, .ref 236, .int 495 0, .int 98 0, .str "/claim/cut.py" 496]) #[]
noncomputable def k238 (_ : Params) : Obj := kFn (inS 15 1) "Script.told" [] .none .none .none (.str "joinedhand.layout" 425) none (.ref 237) .none
noncomputable def k240 (P : Params) : Obj := .mk (.type "dict") none (.dict #[.mk (PyData.keyHash P "__module__") (.str "__module__" 477) (.str "joinedhand.layout" 425), .mk (PyData.keyHash P "__firstlineno__") (.str "__firstlineno__" 481) (.int 91 480), .mk (PyData.keyHash P "__init__") (.str "__init__" 491) (.ref 233), .mk (PyData.keyHash P "told") (.str "told" 497) (.ref 238), .mk (PyData.keyHash P "__static_attributes__") (.str "__static_attributes__" 501) (.ref 239), .mk (PyData.keyHash P "__dict__") (.str "__dict__" 503) (.ref 242), .mk (PyData.keyHash P "__weakref__") (.str "__weakref__" 505) (.ref 243), .mk (PyData.keyHash P "__doc__") (.str "__doc__" 506) .none] 4) #[]
noncomputable def k241 (_ : Params) : Obj := .mk (.type "type") none (.cls (.mk "Script" [.type "object"] [.ref 241, .type "object"] 240 "Script" true [] [] false none false)) #[none, none, some (.str "Script" 470), some (.str "Script" 478), some (.builtin "object.__new__"), some (.bool true)]
noncomputable def k242 (_ : Params) : Obj := .mk (.type "getset_descriptor") none (.fields #[.str "__dict__" 502, .ref 241, .builtin "function.__dict__", .builtin "function.__dict__#set"]) #[]
noncomputable def k243 (_ : Params) : Obj := .mk (.type "getset_descriptor") none (.fields #[.str "__weakref__" 504, .ref 241, .builtin "ExceptionGroup.__weakref__", .none]) #[]
noncomputable def k258 (_ : Params) : Obj := .mk (.type "code") none (.fields #[.str "__init__" 521, .str "Feature.__init__" 522, .str "/claim/cut.py" 523, .int 103 0, .int 3 0, .int 0 0, .int 0 0, .int 3 0, .ref 253, .bool true, .int 181 0, .ref 254, .none, .ref 255, .ref 256, .ref 257, .int 527 0, .int 103 0, .str "/claim/cut.py" 528]) #[]
noncomputable def k259 (_ : Params) : Obj := kFn (inS 16 0) "Feature.__init__" [] .none .none .none (.str "joinedhand.layout" 425) none (.ref 258) .none
noncomputable def k265 (_ : Params) : Obj := .mk (.type "code") none (.fields #[.str "told" 530, .str "Feature.told" 531, .str "/claim/cut.py" 532, .int 107 0, .int 1 0, .int 0 0, .int 0 0, .int 3 0, .ref 260, .bool true, .int 181 0, .ref 261, .none, .ref 262, .ref 263, .ref 264, .int 534 0, .int 107 0, .str "/claim/cut.py" 535]) #[]
noncomputable def k266 (_ : Params) : Obj := kFn (inS 16 1) "Feature.told" [] .none .none .none (.str "joinedhand.layout" 425) none (.ref 265) .none
noncomputable def k268 (P : Params) : Obj := .mk (.type "dict") none (.dict #[.mk (PyData.keyHash P "__module__") (.str "__module__" 516) (.str "joinedhand.layout" 425), .mk (PyData.keyHash P "__firstlineno__") (.str "__firstlineno__" 520) (.int 101 519), .mk (PyData.keyHash P "__init__") (.str "__init__" 529) (.ref 259), .mk (PyData.keyHash P "told") (.str "told" 536) (.ref 266), .mk (PyData.keyHash P "__static_attributes__") (.str "__static_attributes__" 539) (.ref 267), .mk (PyData.keyHash P "__dict__") (.str "__dict__" 541) (.ref 270), .mk (PyData.keyHash P "__weakref__") (.str "__weakref__" 543) (.ref 271), .mk (PyData.keyHash P "__doc__") (.str "__doc__" 544) .none] 4) #[]
noncomputable def k269 (_ : Params) : Obj := .mk (.type "type") none (.cls (.mk "Feature" [.type "object"] [.ref 269, .type "object"] 268 "Feature" true [] [] false none false)) #[none, none, some (.str "Feature" 509), some (.str "Feature" 517), some (.builtin "object.__new__"), some (.bool true)]
noncomputable def k270 (_ : Params) : Obj := .mk (.type "getset_descriptor") none (.fields #[.str "__dict__" 540, .ref 269, .builtin "function.__dict__", .builtin "function.__dict__#set"]) #[]
noncomputable def k271 (_ : Params) : Obj := .mk (.type "getset_descriptor") none (.fields #[.str "__weakref__" 542, .ref 269, .builtin "ExceptionGroup.__weakref__", .none]) #[]
noncomputable def k279 (_ : Params) : Obj := .mk (.type "code") none (.fields #[.str "offset_behind" 547, .str "offset_behind" 548, .str "/claim/cut.py" 549, .int 109 0, .int 2 0, .int 0 0, .int 0 0, .int 3 0, .ref 274, .bool true, .int 181 0, .ref 275, .none, .ref 276, .ref 277, .ref 278, .int 554 0, .int 109 0, .str "/claim/cut.py" 555]) #[]
noncomputable def k280 (_ : Params) : Obj := kFn (topS 17) "offset_behind" [] .none .none .none (.str "joinedhand.layout" 425) none (.ref 279) .none
noncomputable def k286 (_ : Params) : Obj := .mk (.type "code") none (.fields #[.str "read_records" 557, .str "read_records" 558, .str "/claim/cut.py" 559, .int 115 0, .int 4 0, .int 0 0, .int 0 0, .int 3 0, .ref 281, .bool true, .int 181 0, .ref 282, .none, .ref 283, .ref 284, .ref 285, .int 569 0, .int 115 0, .str "/claim/cut.py" 570]) #[]
noncomputable def k287 (_ : Params) : Obj := kFn (topS 18) "read_records" [] .none .none .none (.str "joinedhand.layout" 425) none (.ref 286) .none
noncomputable def k293 (_ : Params) : Obj := .mk (.type "code") none (.fields #[.str "read_langsys" 572, .str "read_langsys" 573, .str "/claim/cut.py" 574, .int 125 0, .int 2 0, .int 0 0, .int 0 0, .int 3 0, .ref 288, .bool true, .int 181 0, .ref 289, .none, .ref 290, .ref 291, .ref 292, .int 580 0, .int 125 0, .str "/claim/cut.py" 581]) #[]
noncomputable def k294 (_ : Params) : Obj := kFn (topS 19) "read_langsys" [] .none .none .none (.str "joinedhand.layout" 425) none (.ref 293) .none
noncomputable def k300 (_ : Params) : Obj := .mk (.type "code") none (.fields #[.str "read_script" 583, .str "read_script" 584, .str "/claim/cut.py" 585, .int 131 0, .int 3 0, .int 0 0, .int 0 0, .int 3 0, .ref 295, .bool true, .int 181 0, .ref 296, .none, .ref 297, .ref 298, .ref 299, .int 594 0, .int 131 0, .str "/claim/cut.py" 595]) #[]
noncomputable def k301 (_ : Params) : Obj := kFn (topS 20) "read_script" [] .none .none .none (.str "joinedhand.layout" 425) none (.ref 300) .none
noncomputable def k307 (_ : Params) : Obj := .mk (.type "code") none (.fields #[.str "read_feature" 597, .str "read_feature" 598, .str "/claim/cut.py" 599, .int 138 0, .int 3 0, .int 0 0, .int 0 0, .int 3 0, .ref 302, .bool true, .int 181 0, .ref 303, .none, .ref 304, .ref 305, .ref 306, .int 604 0, .int 138 0, .str "/claim/cut.py" 605]) #[]
noncomputable def k308 (_ : Params) : Obj := kFn (topS 21) "read_feature" [] .none .none .none (.str "joinedhand.layout" 425) none (.ref 307) .none
noncomputable def k312 (_ : Params) : Obj := .mk (.type "code") none (.fields #[.str "read_lookup" 607, .str "read_lookup" 608, .str "/claim/cut.py" 609, .int 142 0, .int 3 0, .int 0 0, .int 0 0, .int 3 0, .ref 309, .bool true, .int 181 0, .ref 310, .none, .none, .none, .ref 311, .int 610 0, .int 142 0, .str "/claim/cut.py" 611]) #[]
noncomputable def k313 (_ : Params) : Obj := kFn (topS 22) "read_lookup" [] .none .none .none (.str "joinedhand.layout" 425) none (.ref 312) .none
noncomputable def k317 (_ : Params) : Obj := .mk (.type "code") none (.fields #[.str "_law_pen" 615, .str "_law_pen" 616, .str "/claim/cut.py" 617, .int 161 0, .int 1 0, .int 0 0, .int 0 0, .int 3 0, .ref 314, .bool true, .int 181 0, .ref 315, .none, .none, .none, .ref 316, .int 618 0, .int 161 0, .str "/claim/cut.py" 619]) #[]
noncomputable def k318 (_ : Params) : Obj := kFn (topS 24) "_law_pen" [] .none .none .none (.str "law_pb0183_01" 613) none (.ref 317) .none
noncomputable def k324 (_ : Params) : Obj := .mk (.type "code") none (.fields #[.str "_law_draw" 621, .str "_law_draw" 622, .str "/claim/cut.py" 623, .int 163 0, .int 2 0, .int 0 0, .int 0 0, .int 3 0, .ref 319, .bool true, .int 181 0, .ref 320, .none, .ref 321, .ref 322, .ref 323, .int 627 0, .int 163 0, .str "/claim/cut.py" 628]) #[]
noncomputable def k325 (_ : Params) : Obj := kFn (topS 25) "_law_draw" [] .none .none .none (.str "law_pb0183_01" 613) none (.ref 324) .none
noncomputable def k331 (_ : Params) : Obj := .mk (.type "code") none (.fields #[.str "_law_pick" 630, .str "_law_pick" 631, .str "/claim/cut.py" 632, .int 170 0, .int 2 0, .int 0 0, .int 0 0, .int 3 0, .ref 326, .bool true, .int 181 0, .ref 327, .none, .ref 328, .ref 329, .ref 330, .int 635 0, .int 170 0, .str "/claim/cut.py" 636]) #[]
noncomputable def k332 (_ : Params) : Obj := kFn (topS 26) "_law_pick" [] .none .none .none (.str "law_pb0183_01" 613) none (.ref 331) .none
noncomputable def k336 (_ : Params) : Obj := .mk (.type "code") none (.fields #[.str "_law_row" 638, .str "_law_row" 639, .str "/claim/cut.py" 640, .int 172 0, .int 1 0, .int 0 0, .int 0 0, .int 3 0, .ref 333, .bool true, .int 181 0, .ref 334, .none, .none, .none, .ref 335, .int 641 0, .int 172 0, .str "/claim/cut.py" 642]) #[]
noncomputable def k337 (_ : Params) : Obj := kFn (topS 27) "_law_row" [] .none .none .none (.str "law_pb0183_01" 613) none (.ref 336) .none
noncomputable def k341 (_ : Params) : Obj := .mk (.type "code") none (.fields #[.str "_law_script_octets" 644, .str "_law_script_octets" 645, .str "/claim/cut.py" 646, .int 174 0, .int 1 0, .int 0 0, .int 0 0, .int 3 0, .ref 338, .bool true, .int 181 0, .ref 339, .none, .none, .none, .ref 340, .int 647 0, .int 174 0, .str "/claim/cut.py" 648]) #[]
noncomputable def k342 (_ : Params) : Obj := kFn (topS 28) "_law_script_octets" [] .none .none .none (.str "law_pb0183_01" 613) none (.ref 341) .none
noncomputable def k346 (_ : Params) : Obj := .mk (.type "code") none (.fields #[.str "_law_lookup_octets" 650, .str "_law_lookup_octets" 651, .str "/claim/cut.py" 652, .int 182 0, .int 1 0, .int 0 0, .int 0 0, .int 3 0, .ref 343, .bool true, .int 181 0, .ref 344, .none, .none, .none, .ref 345, .int 653 0, .int 182 0, .str "/claim/cut.py" 654]) #[]
noncomputable def k347 (_ : Params) : Obj := kFn (topS 29) "_law_lookup_octets" [] .none .none .none (.str "law_pb0183_01" 613) none (.ref 346) .none
noncomputable def k353 (_ : Params) : Obj := .mk (.type "code") none (.fields #[.str "_law_bent" 656, .str "_law_bent" 657, .str "/claim/cut.py" 658, .int 187 0, .int 2 0, .int 0 0, .int 0 0, .int 3 0, .ref 348, .bool true, .int 181 0, .ref 349, .none, .ref 350, .ref 351, .ref 352, .int 664 0, .int 187 0, .str "/claim/cut.py" 665]) #[]
noncomputable def k354 (_ : Params) : Obj := kFn (topS 30) "_law_bent" [] .none .none .none (.str "law_pb0183_01" 613) none (.ref 353) .none
noncomputable def k360 (_ : Params) : Obj := .mk (.type "code") none (.fields #[.str "_law_table" 667, .str "_law_table" 668, .str "/claim/cut.py" 669, .int 191 0, .int 3 0, .int 0 0, .int 0 0, .int 3 0, .ref 355, .bool true, .int 181 0, .ref 356, .none, .ref 357, .ref 358, .ref 359, .int 674 0, .int 191 0, .str "/claim/cut.py" 675]) #[]
noncomputable def k361 (_ : Params) : Obj := kFn (topS 31) "_law_table" [] .none .none .none (.str "law_pb0183_01" 613) none (.ref 360) .none
noncomputable def k367 (_ : Params) : Obj := .mk (.type "code") none (.fields #[.str "_law_heard" 677, .str "_law_heard" 678, .str "/claim/cut.py" 679, .int 194 0, .int 1 0, .int 0 0, .int 0 0, .int 3 0, .ref 362, .bool true, .int 181 0, .ref 363, .none, .ref 364, .ref 365, .ref 366, .int 682 0, .int 194 0, .str "/claim/cut.py" 683]) #[]
noncomputable def k368 (_ : Params) : Obj := kFn (topS 32) "_law_heard" [] .none .none .none (.str "law_pb0183_01" 613) none (.ref 367) .none
noncomputable def k374 (_ : Params) : Obj := .mk (.type "code") none (.fields #[.str "_law_readers" 685, .str "_law_readers" 686, .str "/claim/cut.py" 687, .int 199 0, .int 2 0, .int 0 0, .int 0 0, .int 3 0, .ref 369, .bool true, .int 181 0, .ref 370, .none, .ref 371, .ref 372, .ref 373, .int 692 0, .int 199 0, .str "/claim/cut.py" 693]) #[]
noncomputable def k375 (_ : Params) : Obj := kFn (topS 33) "_law_readers" [] .none .none .none (.str "law_pb0183_01" 613) none (.ref 374) .none
noncomputable def k379 (_ : Params) : Obj := .mk (.type "code") none (.fields #[.str "_law_lookup" 695, .str "_law_lookup" 696, .str "/claim/cut.py" 697, .int 206 0, .int 2 0, .int 0 0, .int 0 0, .int 3 0, .ref 376, .bool true, .int 181 0, .ref 377, .none, .none, .none, .ref 378, .int 698 0, .int 206 0, .str "/claim/cut.py" 699]) #[]
noncomputable def k380 (_ : Params) : Obj := kFn (topS 34) "_law_lookup" [] .none .none .none (.str "law_pb0183_01" 613) none (.ref 379) .none
noncomputable def k386 (_ : Params) : Obj := .mk (.type "code") none (.fields #[.str "_law_moved" 701, .str "_law_moved" 702, .str "/claim/cut.py" 703, .int 209 0, .int 2 0, .int 0 0, .int 0 0, .int 3 0, .ref 381, .bool true, .int 181 0, .ref 382, .none, .ref 383, .ref 384, .ref 385, .int 706 0, .int 209 0, .str "/claim/cut.py" 707]) #[]
noncomputable def k387 (_ : Params) : Obj := kFn (topS 35) "_law_moved" [] .none .none .none (.str "law_pb0183_01" 613) none (.ref 386) .none
noncomputable def KK (P : PySem.Params) : Frag := (nat_lit 2, k2 P) :: (nat_lit 3, k3 P) :: (nat_lit 25, k25 P) :: (nat_lit 30, k30 P) :: (nat_lit 37, k37 P) :: (nat_lit 38, k38 P) :: (nat_lit 47, k47 P) :: (nat_lit 48, k48 P) :: (nat_lit 49, k49 P) :: (nat_lit 60, k60 P) :: (nat_lit 61, k61 P) :: (nat_lit 76, k76 P) :: (nat_lit 77, k77 P) :: (nat_lit 81, k81 P) :: (nat_lit 82, k82 P) :: (nat_lit 84, k84 P) :: (nat_lit 85, k85 P) :: (nat_lit 86, k86 P) :: (nat_lit 87, k87 P) :: (nat_lit 95, k95 P) :: (nat_lit 96, k96 P) :: (nat_lit 102, k102 P) :: (nat_lit 103, k103 P) :: (nat_lit 111, k111 P) :: (nat_lit 117, k117 P) :: (nat_lit 118, k118 P) :: (nat_lit 124, k124 P) :: (nat_lit 125, k125 P) :: (nat_lit 131, k131 P) :: (nat_lit 132, k132 P) :: (nat_lit 145, k145 P) :: (nat_lit 146, k146 P) :: (nat_lit 171, k171 P) :: (nat_lit 172, k172 P) :: (nat_lit 176, k176 P) :: (nat_lit 177, k177 P) :: (nat_lit 186, k186 P) :: (nat_lit 187, k187 P) :: (nat_lit 188, k188 P) :: (nat_lit 189, k189 P) :: (nat_lit 204, k204 P) :: (nat_lit 205, k205 P) :: (nat_lit 211, k211 P) :: (nat_lit 212, k212 P) :: (nat_lit 214, k214 P) :: (nat_lit 215, k215 P) :: (nat_lit 216, k216 P) :: (nat_lit 217, k217 P) :: (nat_lit 232, k232 P) :: (nat_lit 233, k233 P) :: (nat_lit 237, k237 P) :: (nat_lit 238, k238 P) :: (nat_lit 240, k240 P) :: (nat_lit 241, k241 P) :: (nat_lit 242, k242 P) :: (nat_lit 243, k243 P) :: (nat_lit 258, k258 P) :: (nat_lit 259, k259 P) :: (nat_lit 265, k265 P) :: (nat_lit 266, k266 P) :: (nat_lit 268, k268 P) :: (nat_lit 269, k269 P) :: (nat_lit 270, k270 P) :: (nat_lit 271, k271 P) :: (nat_lit 279, k279 P) :: (nat_lit 280, k280 P) :: (nat_lit 286, k286 P) :: (nat_lit 287, k287 P) :: (nat_lit 293, k293 P) :: (nat_lit 294, k294 P) :: (nat_lit 300, k300 P) :: (nat_lit 301, k301 P) :: (nat_lit 307, k307 P) :: (nat_lit 308, k308 P) :: (nat_lit 312, k312 P) :: (nat_lit 313, k313 P) :: (nat_lit 317, k317 P) :: (nat_lit 318, k318 P) :: (nat_lit 324, k324 P) :: (nat_lit 325, k325 P) :: (nat_lit 331, k331 P) :: (nat_lit 332, k332 P) :: (nat_lit 336, k336 P) :: (nat_lit 337, k337 P) :: (nat_lit 341, k341 P) :: (nat_lit 342, k342 P) :: (nat_lit 346, k346 P) :: (nat_lit 347, k347 P) :: (nat_lit 353, k353 P) :: (nat_lit 354, k354 P) :: (nat_lit 360, k360 P) :: (nat_lit 361, k361 P) :: (nat_lit 367, k367 P) :: (nat_lit 368, k368 P) :: (nat_lit 374, k374 P) :: (nat_lit 375, k375 P) :: (nat_lit 379, k379 P) :: (nat_lit 380, k380 P) :: (nat_lit 386, k386 P) :: (nat_lit 387, k387 P) :: []
end
section
open PySem.Calls
section om
variable {p0 p1 p2 p3 p4 p5 p6 p7 p8 p9 p10 p11 p12 q r : Prop}
theorem ot0 (h : r ∧ q) : r := h.1
theorem ot1 (h : p0 ∧ r ∧ q) : r := h.2.1
theorem of1 (h : p0 ∧ r) : r := h.2
theorem ot2 (h : p0 ∧ p1 ∧ r ∧ q) : r := h.2.2.1
theorem of2 (h : p0 ∧ p1 ∧ r) : r := h.2.2
theorem ot3 (h : p0 ∧ p1 ∧ p2 ∧ r ∧ q) : r := h.2.2.2.1
theorem of3 (h : p0 ∧ p1 ∧ p2 ∧ r) : r := h.2.2.2
theorem ot4 (h : p0 ∧ p1 ∧ p2 ∧ p3 ∧ r ∧ q) : r := h.2.2.2.2.1
theorem of4 (h : p0 ∧ p1 ∧ p2 ∧ p3 ∧ r) : r := h.2.2.2.2
theorem ot5 (h : p0 ∧ p1 ∧ p2 ∧ p3 ∧ p4 ∧ r ∧ q) : r := h.2.2.2.2.2.1
theorem of5 (h : p0 ∧ p1 ∧ p2 ∧ p3 ∧ p4 ∧ r) : r := h.2.2.2.2.2
theorem ot6 (h : p0 ∧ p1 ∧ p2 ∧ p3 ∧ p4 ∧ p5 ∧ r ∧ q) : r := h.2.2.2.2.2.2.1
theorem of6 (h : p0 ∧ p1 ∧ p2 ∧ p3 ∧ p4 ∧ p5 ∧ r) : r := h.2.2.2.2.2.2
theorem ot7 (h : p0 ∧ p1 ∧ p2 ∧ p3 ∧ p4 ∧ p5 ∧ p6 ∧ r ∧ q) : r := h.2.2.2.2.2.2.2.1
theorem of7 (h : p0 ∧ p1 ∧ p2 ∧ p3 ∧ p4 ∧ p5 ∧ p6 ∧ r) : r := h.2.2.2.2.2.2.2
theorem ot8 (h : p0 ∧ p1 ∧ p2 ∧ p3 ∧ p4 ∧ p5 ∧ p6 ∧ p7 ∧ r ∧ q) : r := h.2.2.2.2.2.2.2.2.1
theorem of8 (h : p0 ∧ p1 ∧ p2 ∧ p3 ∧ p4 ∧ p5 ∧ p6 ∧ p7 ∧ r) : r := h.2.2.2.2.2.2.2.2
theorem ot9 (h : p0 ∧ p1 ∧ p2 ∧ p3 ∧ p4 ∧ p5 ∧ p6 ∧ p7 ∧ p8 ∧ r ∧ q) : r := h.2.2.2.2.2.2.2.2.2.1
theorem of9 (h : p0 ∧ p1 ∧ p2 ∧ p3 ∧ p4 ∧ p5 ∧ p6 ∧ p7 ∧ p8 ∧ r) : r := h.2.2.2.2.2.2.2.2.2
theorem ot10 (h : p0 ∧ p1 ∧ p2 ∧ p3 ∧ p4 ∧ p5 ∧ p6 ∧ p7 ∧ p8 ∧ p9 ∧ r ∧ q) : r := h.2.2.2.2.2.2.2.2.2.2.1
theorem of10 (h : p0 ∧ p1 ∧ p2 ∧ p3 ∧ p4 ∧ p5 ∧ p6 ∧ p7 ∧ p8 ∧ p9 ∧ r) : r := h.2.2.2.2.2.2.2.2.2.2
theorem ot11 (h : p0 ∧ p1 ∧ p2 ∧ p3 ∧ p4 ∧ p5 ∧ p6 ∧ p7 ∧ p8 ∧ p9 ∧ p10 ∧ r ∧ q) : r := h.2.2.2.2.2.2.2.2.2.2.2.1
theorem of11 (h : p0 ∧ p1 ∧ p2 ∧ p3 ∧ p4 ∧ p5 ∧ p6 ∧ p7 ∧ p8 ∧ p9 ∧ p10 ∧ r) : r := h.2.2.2.2.2.2.2.2.2.2.2
theorem ot12 (h : p0 ∧ p1 ∧ p2 ∧ p3 ∧ p4 ∧ p5 ∧ p6 ∧ p7 ∧ p8 ∧ p9 ∧ p10 ∧ p11 ∧ r ∧ q) : r := h.2.2.2.2.2.2.2.2.2.2.2.2.1
theorem of12 (h : p0 ∧ p1 ∧ p2 ∧ p3 ∧ p4 ∧ p5 ∧ p6 ∧ p7 ∧ p8 ∧ p9 ∧ p10 ∧ p11 ∧ r) : r := h.2.2.2.2.2.2.2.2.2.2.2.2
variable {a b c d : Nat}
theorem os1 (h : a < b) : b + 1 ≠ a := Nat.ne_of_gt (Nat.lt_succ_of_lt h)
theorem os2 (h : a < b) : a ≠ b + 1 := Nat.ne_of_lt (Nat.lt_succ_of_lt h)
theorem os3 (h : a < b) : b + 1 + 1 ≠ a := Nat.ne_of_gt (Nat.lt_succ_of_lt (Nat.lt_succ_of_lt h))
theorem os4 (h : a < b) : a ≠ b + 1 + 1 := Nat.ne_of_lt (Nat.lt_succ_of_lt (Nat.lt_succ_of_lt h))
theorem os5 : a + 1 ≠ a + 1 + 1 := Nat.ne_of_lt (Nat.lt_succ_self _)
theorem os6 : a + 1 + 1 ≠ a + 1 := Nat.ne_of_gt (Nat.lt_succ_self _)
theorem os7 (h : a + 1 < b) : a ≤ b := Nat.le_of_lt (Nat.lt_of_succ_lt h)
theorem os8 : a ≤ a + 1 + 1 := Nat.le_succ_of_le (Nat.le_succ _)
theorem os9 (h2 : b < c) (h : a < b) : c ≠ a := Nat.ne_of_gt (Nat.lt_trans h h2)
theorem oq1 (h2 : b < c) (h : a + 1 < b) : a ≤ c := Nat.le_of_lt (Nat.lt_trans (Nat.lt_of_succ_lt h) h2)
end om
theorem tn_lt {a c : Int} {n j : Nat} (h0 : 0 ≤ a) (h : a + c ≤ n) (hj : (j : Int) < c) : a.toNat + j < n :=
  Int.ofNat_lt.mp (by rw [Int.natCast_add, Int.toNat_of_nonneg h0]; exact Int.lt_of_lt_of_le (Int.add_lt_add_left hj a) h)
theorem le_of {a c n : Int} (h : a + c ≤ n) (hc : 0 ≤ c) : a ≤ n := Int.le_trans (Int.le_add_of_nonneg_right hc) h
theorem le_bh {a : Int} {n m : Nat} (h : a ≤ n) : a ≤ ((n + m : Nat) : Int) := Int.le_trans h (Int.ofNat_le.mpr (Nat.le_add_right _ _))
theorem mv_iff {a c : Int} {n m : Nat} (h : 0 ≤ a) : (0 ≤ a + m ∧ a + m + c ≤ ((m + n : Nat) : Int)) ↔ (0 ≤ a ∧ a + c ≤ n) :=
  and_congr (iff_of_true (Int.add_nonneg h (Int.natCast_nonneg m)) h) (by rw [Int.natCast_add, Int.add_right_comm, Int.add_comm (m : Int)]; exact Int.add_le_add_iff_right _)
theorem two_le {a : Int} {i c n : Nat} (h : a + 2 * (c : Int) ≤ n) (hi : i < c) : a + 2 * (i : Int) + 2 ≤ n := Int.le_trans (by rw [Int.add_assoc]; exact Int.add_le_add_left (Int.ofNat_le.mpr (Nat.mul_le_mul_left 2 hi)) a) h
theorem sub_next {c i : Nat} (h : i < c) : c - i = c - (i + 1) + 1 := (Nat.sub_add_cancel (Nat.sub_pos_of_lt h)).symm
theorem mul_next {p k : Int} {i : Nat} : p + k * ((i + 1 : Nat) : Int) = p + k * (i : Int) + k := by rw [Int.natCast_succ, Int.mul_add, Int.mul_one, Int.add_assoc]
theorem mul_0 {p k : Int} : p + k * ((0 : Nat) : Int) = p := by rw [Int.natCast_zero, Int.mul_zero, Int.add_zero]
def NextQ (M : Model) (A : Around) (rest : List Stmt) (env : Env) (Q : Flow → Shared → Prop) (E : Value → Shared → Prop) (f : Flow) (s : Shared) : Prop := match f with
  | .next => wpAny M A (execs rest env) Q E s
  | f => Q f s
section
variable {M : Model} {A : Around} {st : Stmt} {rest : List Stmt} {env : Env} {Q : Flow → Shared → Prop} {E : Value → Shared → Prop} {s : Shared} {v : Value}
theorem execsN (h : wpAny M A (exec st env) (NextQ M A rest env Q E) E s) : wpAny M A (execs (st :: rest) env) Q E s := wpAny_execs_cons h
theorem nextN (h : wpAny M A (execs rest env) Q E s) : NextQ M A rest env Q E .next s := h
theorem nextR (h : Q (.ret v) s) : NextQ M A rest env Q E (.ret v) s := h
end
section
variable {tl : List (Addr × Obj)} {v : Value} {vs : List Value} {d a b c : Dat} {ds : List Dat}
theorem datTup (h : DatIn tl v (.tuple ds)) : ∃ (T : Addr) (vs : List Value) (n : Nat), v = .ref T ∧ (T, ({ cls := .type "tuple", data := .seq vs.toArray n } : Obj)) ∈ tl ∧ DatAll tl vs ds := by
  cases h with
  | tuple h1 h2 => exact ⟨_, _, _, rfl, h1, h2⟩
theorem datCons (h : DatAll tl vs (d :: ds)) : ∃ x r, vs = x :: r ∧ DatIn tl x d ∧ DatAll tl r ds := by
  cases h with
  | cons h1 h2 => exact ⟨_, _, rfl, h1, h2⟩
theorem datNil (h : DatAll tl vs []) : vs = [] := by
  cases h; rfl
theorem datInt {i : Int} (h : DatIn tl v (.int i)) : ∃ t, v = .int i t := by
  cases h; exact ⟨_, rfl⟩
theorem datStr {i : Str} (h : DatIn tl v (.str i)) : ∃ t, v = .str i t := by
  cases h; exact ⟨_, rfl⟩
theorem dat1 (h : DatAll tl vs [a]) : ∃ x, vs = [x] ∧ DatIn tl x a :=
  (datCons h).elim fun x h => h.elim fun _ h => ⟨x, h.1.trans (congrArg _ (datNil h.2.2)), h.2.1⟩
theorem dat2 (h : DatAll tl vs [a, b]) : ∃ x y, vs = [x, y] ∧ DatIn tl x a ∧ DatIn tl y b :=
  (datCons h).elim fun x h => h.elim fun _ h => (dat1 h.2.2).elim fun y k => ⟨x, y, h.1.trans (congrArg _ k.1), h.2.1, k.2⟩
theorem dat3 (h : DatAll tl vs [a, b, c]) : ∃ x y z, vs = [x, y, z] ∧ DatIn tl x a ∧ DatIn tl y b ∧ DatIn tl z c :=
  (datCons h).elim fun x h => h.elim fun _ h => (dat2 h.2.2).elim fun y k => k.elim fun z k => ⟨x, y, z, h.1.trans (congrArg _ k.1), h.2.1, k.2⟩
theorem dat4 (h : DatAll tl vs [a, b, c, d]) : ∃ x y z u, vs = [x, y, z, u] ∧ DatIn tl x a ∧ DatIn tl y b ∧ DatIn tl z c ∧ DatIn tl u d :=
  (datCons h).elim fun x h => h.elim fun _ h => (dat3 h.2.2).elim fun y k => k.elim fun z k => k.elim fun u k => ⟨x, y, z, u, h.1.trans (congrArg _ k.1), h.2.1, k.2⟩
theorem datT2 (h : DatIn tl v (.tuple [a, b])) : ∃ T n x y, v = .ref T ∧ (T, ({ cls := .type "tuple", data := .seq #[x, y] n } : Obj)) ∈ tl ∧ DatIn tl x a ∧ DatIn tl y b :=
  (datTup h).elim fun T h => h.elim fun _ h => h.elim fun n h => (dat2 h.2.2).elim fun x k => k.elim fun y k => ⟨T, n, x, y, h.1, k.1 ▸ h.2.1, k.2⟩
theorem datT3 (h : DatIn tl v (.tuple [a, b, c])) : ∃ T n x y z, v = .ref T ∧ (T, ({ cls := .type "tuple", data := .seq #[x, y, z] n } : Obj)) ∈ tl ∧ DatIn tl x a ∧ DatIn tl y b ∧ DatIn tl z c :=
  (datTup h).elim fun T h => h.elim fun _ h => h.elim fun n h => (dat3 h.2.2).elim fun x k => k.elim fun y k => k.elim fun z k => ⟨T, n, x, y, z, h.1, k.1 ▸ h.2.1, k.2⟩
theorem datT4 (h : DatIn tl v (.tuple [a, b, c, d])) : ∃ T n x y z u, v = .ref T ∧ (T, ({ cls := .type "tuple", data := .seq #[x, y, z, u] n } : Obj)) ∈ tl ∧ DatIn tl x a ∧ DatIn tl y b ∧ DatIn tl z c ∧ DatIn tl u d :=
  (datTup h).elim fun T h => h.elim fun _ h => h.elim fun n h => (dat4 h.2.2).elim fun x k => k.elim fun y k => k.elim fun z k => k.elim fun u k => ⟨T, n, x, y, z, u, h.1, k.1 ▸ h.2.1, k.2⟩
theorem dat_at (h : DatAll tl vs ds) {i : Nat} {v : Value} (hv : (List.toArray vs)[i]? = some v) : ∃ d, ds[i]? = some d ∧ DatIn tl v d := by
  rw [List.getElem?_toArray] at hv
  have hi := h.length ▸ (List.getElem?_eq_some_iff.mp hv).1
  exact (h.get hi).elim fun v' e => ⟨_, List.getElem?_eq_getElem hi, Option.some.inj (e.1.symm.trans hv) ▸ e.2⟩
end
theorem xE0_2 {t u : Prop} {G : Prop} (h : t ∧ u) (k : t → u → G) : G := k h.1 h.2
theorem xE0_3 {t u v : Prop} {G : Prop} (h : t ∧ u ∧ v) (k : t → u → v → G) : G := k h.1 h.2.1 h.2.2
theorem xE0_4 {t u v w : Prop} {G : Prop} (h : t ∧ u ∧ v ∧ w) (k : t → u → v → w → G) : G := k h.1 h.2.1 h.2.2.1 h.2.2.2
theorem xE0_5 {t u v w x : Prop} {G : Prop} (h : t ∧ u ∧ v ∧ w ∧ x) (k : t → u → v → w → x → G) : G := k h.1 h.2.1 h.2.2.1 h.2.2.2.1 h.2.2.2.2
theorem xE0_6 {t u v w x y : Prop} {G : Prop} (h : t ∧ u ∧ v ∧ w ∧ x ∧ y) (k : t → u → v → w → x → y → G) : G := k h.1 h.2.1 h.2.2.1 h.2.2.2.1 h.2.2.2.2.1 h.2.2.2.2.2
theorem xE0_7 {t u v w x y z : Prop} {G : Prop} (h : t ∧ u ∧ v ∧ w ∧ x ∧ y ∧ z) (k : t → u → v → w → x → y → z → G) : G := k h.1 h.2.1 h.2.2.1 h.2.2.2.1 h.2.2.2.2.1 h.2.2.2.2.2.1 h.2.2.2.2.2.2
theorem xE1_1 {A : Type} {t : A → Prop} {G : Prop} (h : ∃ a, t a) (k : ∀ a, t a → G) : G := h.elim fun a h => k a h
theorem xE1_2 {A : Type} {t u : A → Prop} {G : Prop} (h : ∃ a, t a ∧ u a) (k : ∀ a, t a → u a → G) : G := h.elim fun a h => k a h.1 h.2
theorem xE1_3 {A : Type} {t u v : A → Prop} {G : Prop} (h : ∃ a, t a ∧ u a ∧ v a) (k : ∀ a, t a → u a → v a → G) : G := h.elim fun a h => k a h.1 h.2.1 h.2.2
theorem xE1_4 {A : Type} {t u v w : A → Prop} {G : Prop} (h : ∃ a, t a ∧ u a ∧ v a ∧ w a) (k : ∀ a, t a → u a → v a → w a → G) : G := h.elim fun a h => k a h.1 h.2.1 h.2.2.1 h.2.2.2
theorem xE1_9 {A : Type} {t u v w x y z α β : A → Prop} {G : Prop} (h : ∃ a, t a ∧ u a ∧ v a ∧ w a ∧ x a ∧ y a ∧ z a ∧ α a ∧ β a) (k : ∀ a, t a → u a → v a → w a → x a → y a → z a → α a → β a → G) : G := h.elim fun a h => k a h.1 h.2.1 h.2.2.1 h.2.2.2.1 h.2.2.2.2.1 h.2.2.2.2.2.1 h.2.2.2.2.2.2.1 h.2.2.2.2.2.2.2.1 h.2.2.2.2.2.2.2.2
theorem xE2_1 {A B : Type} {t : A → B → Prop} {G : Prop} (h : ∃ a b, t a b) (k : ∀ a b, t a b → G) : G := h.elim fun a h => h.elim fun b h => k a b h
theorem xE2_2 {A B : Type} {t u : A → B → Prop} {G : Prop} (h : ∃ a b, t a b ∧ u a b) (k : ∀ a b, t a b → u a b → G) : G := h.elim fun a h => h.elim fun b h => k a b h.1 h.2
theorem xE2_3 {A B : Type} {t u v : A → B → Prop} {G : Prop} (h : ∃ a b, t a b ∧ u a b ∧ v a b) (k : ∀ a b, t a b → u a b → v a b → G) : G := h.elim fun a h => h.elim fun b h => k a b h.1 h.2.1 h.2.2
theorem xE2_4 {A B : Type} {t u v w : A → B → Prop} {G : Prop} (h : ∃ a b, t a b ∧ u a b ∧ v a b ∧ w a b) (k : ∀ a b, t a b → u a b → v a b → w a b → G) : G := h.elim fun a h => h.elim fun b h => k a b h.1 h.2.1 h.2.2.1 h.2.2.2
theorem xE2_5 {A B : Type} {t u v w x : A → B → Prop} {G : Prop} (h : ∃ a b, t a b ∧ u a b ∧ v a b ∧ w a b ∧ x a b) (k : ∀ a b, t a b → u a b → v a b → w a b → x a b → G) : G := h.elim fun a h => h.elim fun b h => k a b h.1 h.2.1 h.2.2.1 h.2.2.2.1 h.2.2.2.2
theorem xE3_2 {A B C : Type} {t u : A → B → C → Prop} {G : Prop} (h : ∃ a b c, t a b c ∧ u a b c) (k : ∀ a b c, t a b c → u a b c → G) : G := h.elim fun a h => h.elim fun b h => h.elim fun c h => k a b c h.1 h.2
theorem xE3_3 {A B C : Type} {t u v : A → B → C → Prop} {G : Prop} (h : ∃ a b c, t a b c ∧ u a b c ∧ v a b c) (k : ∀ a b c, t a b c → u a b c → v a b c → G) : G := h.elim fun a h => h.elim fun b h => h.elim fun c h => k a b c h.1 h.2.1 h.2.2
theorem xE3_4 {A B C : Type} {t u v w : A → B → C → Prop} {G : Prop} (h : ∃ a b c, t a b c ∧ u a b c ∧ v a b c ∧ w a b c) (k : ∀ a b c, t a b c → u a b c → v a b c → w a b c → G) : G := h.elim fun a h => h.elim fun b h => h.elim fun c h => k a b c h.1 h.2.1 h.2.2.1 h.2.2.2
theorem xE3_5 {A B C : Type} {t u v w x : A → B → C → Prop} {G : Prop} (h : ∃ a b c, t a b c ∧ u a b c ∧ v a b c ∧ w a b c ∧ x a b c) (k : ∀ a b c, t a b c → u a b c → v a b c → w a b c → x a b c → G) : G := h.elim fun a h => h.elim fun b h => h.elim fun c h => k a b c h.1 h.2.1 h.2.2.1 h.2.2.2.1 h.2.2.2.2
theorem xE3_6 {A B C : Type} {t u v w x y : A → B → C → Prop} {G : Prop} (h : ∃ a b c, t a b c ∧ u a b c ∧ v a b c ∧ w a b c ∧ x a b c ∧ y a b c) (k : ∀ a b c, t a b c → u a b c → v a b c → w a b c → x a b c → y a b c → G) : G := h.elim fun a h => h.elim fun b h => h.elim fun c h => k a b c h.1 h.2.1 h.2.2.1 h.2.2.2.1 h.2.2.2.2.1 h.2.2.2.2.2
theorem xE4_2 {A B C D : Type} {t u : A → B → C → D → Prop} {G : Prop} (h : ∃ a b c d, t a b c d ∧ u a b c d) (k : ∀ a b c d, t a b c d → u a b c d → G) : G := h.elim fun a h => h.elim fun b h => h.elim fun c h => h.elim fun d h => k a b c d h.1 h.2
theorem xE4_4 {A B C D : Type} {t u v w : A → B → C → D → Prop} {G : Prop} (h : ∃ a b c d, t a b c d ∧ u a b c d ∧ v a b c d ∧ w a b c d) (k : ∀ a b c d, t a b c d → u a b c d → v a b c d → w a b c d → G) : G := h.elim fun a h => h.elim fun b h => h.elim fun c h => h.elim fun d h => k a b c d h.1 h.2.1 h.2.2.1 h.2.2.2
theorem xE4_5 {A B C D : Type} {t u v w x : A → B → C → D → Prop} {G : Prop} (h : ∃ a b c d, t a b c d ∧ u a b c d ∧ v a b c d ∧ w a b c d ∧ x a b c d) (k : ∀ a b c d, t a b c d → u a b c d → v a b c d → w a b c d → x a b c d → G) : G := h.elim fun a h => h.elim fun b h => h.elim fun c h => h.elim fun d h => k a b c d h.1 h.2.1 h.2.2.1 h.2.2.2.1 h.2.2.2.2
theorem xE4_6 {A B C D : Type} {t u v w x y : A → B → C → D → Prop} {G : Prop} (h : ∃ a b c d, t a b c d ∧ u a b c d ∧ v a b c d ∧ w a b c d ∧ x a b c d ∧ y a b c d) (k : ∀ a b c d, t a b c d → u a b c d → v a b c d → w a b c d → x a b c d → y a b c d → G) : G := h.elim fun a h => h.elim fun b h => h.elim fun c h => h.elim fun d h => k a b c d h.1 h.2.1 h.2.2.1 h.2.2.2.1 h.2.2.2.2.1 h.2.2.2.2.2
theorem xE4_7 {A B C D : Type} {t u v w x y z : A → B → C → D → Prop} {G : Prop} (h : ∃ a b c d, t a b c d ∧ u a b c d ∧ v a b c d ∧ w a b c d ∧ x a b c d ∧ y a b c d ∧ z a b c d) (k : ∀ a b c d, t a b c d → u a b c d → v a b c d → w a b c d → x a b c d → y a b c d → z a b c d → G) : G := h.elim fun a h => h.elim fun b h => h.elim fun c h => h.elim fun d h => k a b c d h.1 h.2.1 h.2.2.1 h.2.2.2.1 h.2.2.2.2.1 h.2.2.2.2.2.1 h.2.2.2.2.2.2
theorem xE4_9 {A B C D : Type} {t u v w x y z α β : A → B → C → D → Prop} {G : Prop} (h : ∃ a b c d, t a b c d ∧ u a b c d ∧ v a b c d ∧ w a b c d ∧ x a b c d ∧ y a b c d ∧ z a b c d ∧ α a b c d ∧ β a b c d) (k : ∀ a b c d, t a b c d → u a b c d → v a b c d → w a b c d → x a b c d → y a b c d → z a b c d → α a b c d → β a b c d → G) : G := h.elim fun a h => h.elim fun b h => h.elim fun c h => h.elim fun d h => k a b c d h.1 h.2.1 h.2.2.1 h.2.2.2.1 h.2.2.2.2.1 h.2.2.2.2.2.1 h.2.2.2.2.2.2.1 h.2.2.2.2.2.2.2.1 h.2.2.2.2.2.2.2.2
theorem xE5_2 {A B C D E : Type} {t u : A → B → C → D → E → Prop} {G : Prop} (h : ∃ a b c d e, t a b c d e ∧ u a b c d e) (k : ∀ a b c d e, t a b c d e → u a b c d e → G) : G := h.elim fun a h => h.elim fun b h => h.elim fun c h => h.elim fun d h => h.elim fun e h => k a b c d e h.1 h.2
theorem xE5_3 {A B C D E : Type} {t u v : A → B → C → D → E → Prop} {G : Prop} (h : ∃ a b c d e, t a b c d e ∧ u a b c d e ∧ v a b c d e) (k : ∀ a b c d e, t a b c d e → u a b c d e → v a b c d e → G) : G := h.elim fun a h => h.elim fun b h => h.elim fun c h => h.elim fun d h => h.elim fun e h => k a b c d e h.1 h.2.1 h.2.2
theorem xE5_4 {A B C D E : Type} {t u v w : A → B → C → D → E → Prop} {G : Prop} (h : ∃ a b c d e, t a b c d e ∧ u a b c d e ∧ v a b c d e ∧ w a b c d e) (k : ∀ a b c d e, t a b c d e → u a b c d e → v a b c d e → w a b c d e → G) : G := h.elim fun a h => h.elim fun b h => h.elim fun c h => h.elim fun d h => h.elim fun e h => k a b c d e h.1 h.2.1 h.2.2.1 h.2.2.2
theorem xE5_5 {A B C D E : Type} {t u v w x : A → B → C → D → E → Prop} {G : Prop} (h : ∃ a b c d e, t a b c d e ∧ u a b c d e ∧ v a b c d e ∧ w a b c d e ∧ x a b c d e) (k : ∀ a b c d e, t a b c d e → u a b c d e → v a b c d e → w a b c d e → x a b c d e → G) : G := h.elim fun a h => h.elim fun b h => h.elim fun c h => h.elim fun d h => h.elim fun e h => k a b c d e h.1 h.2.1 h.2.2.1 h.2.2.2.1 h.2.2.2.2
theorem xE5_6 {A B C D E : Type} {t u v w x y : A → B → C → D → E → Prop} {G : Prop} (h : ∃ a b c d e, t a b c d e ∧ u a b c d e ∧ v a b c d e ∧ w a b c d e ∧ x a b c d e ∧ y a b c d e) (k : ∀ a b c d e, t a b c d e → u a b c d e → v a b c d e → w a b c d e → x a b c d e → y a b c d e → G) : G := h.elim fun a h => h.elim fun b h => h.elim fun c h => h.elim fun d h => h.elim fun e h => k a b c d e h.1 h.2.1 h.2.2.1 h.2.2.2.1 h.2.2.2.2.1 h.2.2.2.2.2
theorem xE6_4 {A B C D E F : Type} {t u v w : A → B → C → D → E → F → Prop} {G : Prop} (h : ∃ a b c d e f, t a b c d e f ∧ u a b c d e f ∧ v a b c d e f ∧ w a b c d e f) (k : ∀ a b c d e f, t a b c d e f → u a b c d e f → v a b c d e f → w a b c d e f → G) : G := h.elim fun a h => h.elim fun b h => h.elim fun c h => h.elim fun d h => h.elim fun e h => h.elim fun f h => k a b c d e f h.1 h.2.1 h.2.2.1 h.2.2.2
theorem xE6_5 {A B C D E F : Type} {t u v w x : A → B → C → D → E → F → Prop} {G : Prop} (h : ∃ a b c d e f, t a b c d e f ∧ u a b c d e f ∧ v a b c d e f ∧ w a b c d e f ∧ x a b c d e f) (k : ∀ a b c d e f, t a b c d e f → u a b c d e f → v a b c d e f → w a b c d e f → x a b c d e f → G) : G := h.elim fun a h => h.elim fun b h => h.elim fun c h => h.elim fun d h => h.elim fun e h => h.elim fun f h => k a b c d e f h.1 h.2.1 h.2.2.1 h.2.2.2.1 h.2.2.2.2
theorem xE6_6 {A B C D E F : Type} {t u v w x y : A → B → C → D → E → F → Prop} {G : Prop} (h : ∃ a b c d e f, t a b c d e f ∧ u a b c d e f ∧ v a b c d e f ∧ w a b c d e f ∧ x a b c d e f ∧ y a b c d e f) (k : ∀ a b c d e f, t a b c d e f → u a b c d e f → v a b c d e f → w a b c d e f → x a b c d e f → y a b c d e f → G) : G := h.elim fun a h => h.elim fun b h => h.elim fun c h => h.elim fun d h => h.elim fun e h => h.elim fun f h => k a b c d e f h.1 h.2.1 h.2.2.1 h.2.2.2.1 h.2.2.2.2.1 h.2.2.2.2.2
theorem xE6_7 {A B C D E F : Type} {t u v w x y z : A → B → C → D → E → F → Prop} {G : Prop} (h : ∃ a b c d e f, t a b c d e f ∧ u a b c d e f ∧ v a b c d e f ∧ w a b c d e f ∧ x a b c d e f ∧ y a b c d e f ∧ z a b c d e f) (k : ∀ a b c d e f, t a b c d e f → u a b c d e f → v a b c d e f → w a b c d e f → x a b c d e f → y a b c d e f → z a b c d e f → G) : G := h.elim fun a h => h.elim fun b h => h.elim fun c h => h.elim fun d h => h.elim fun e h => h.elim fun f h => k a b c d e f h.1 h.2.1 h.2.2.1 h.2.2.2.1 h.2.2.2.2.1 h.2.2.2.2.2.1 h.2.2.2.2.2.2
theorem xE7_3 {A B C D E F I : Type} {t u v : A → B → C → D → E → F → I → Prop} {G : Prop} (h : ∃ a b c d e f g, t a b c d e f g ∧ u a b c d e f g ∧ v a b c d e f g) (k : ∀ a b c d e f g, t a b c d e f g → u a b c d e f g → v a b c d e f g → G) : G := h.elim fun a h => h.elim fun b h => h.elim fun c h => h.elim fun d h => h.elim fun e h => h.elim fun f h => h.elim fun g h => k a b c d e f g h.1 h.2.1 h.2.2
theorem xE7_4 {A B C D E F I : Type} {t u v w : A → B → C → D → E → F → I → Prop} {G : Prop} (h : ∃ a b c d e f g, t a b c d e f g ∧ u a b c d e f g ∧ v a b c d e f g ∧ w a b c d e f g) (k : ∀ a b c d e f g, t a b c d e f g → u a b c d e f g → v a b c d e f g → w a b c d e f g → G) : G := h.elim fun a h => h.elim fun b h => h.elim fun c h => h.elim fun d h => h.elim fun e h => h.elim fun f h => h.elim fun g h => k a b c d e f g h.1 h.2.1 h.2.2.1 h.2.2.2
theorem xE8_4 {A B C D E F I J : Type} {t u v w : A → B → C → D → E → F → I → J → Prop} {G : Prop} (h : ∃ a b c d e f g i, t a b c d e f g i ∧ u a b c d e f g i ∧ v a b c d e f g i ∧ w a b c d e f g i) (k : ∀ a b c d e f g i, t a b c d e f g i → u a b c d e f g i → v a b c d e f g i → w a b c d e f g i → G) : G := h.elim fun a h => h.elim fun b h => h.elim fun c h => h.elim fun d h => h.elim fun e h => h.elim fun f h => h.elim fun g h => h.elim fun i h => k a b c d e f g i h.1 h.2.1 h.2.2.1 h.2.2.2
theorem xE8_9 {A B C D E F I J : Type} {t u v w x y z α β : A → B → C → D → E → F → I → J → Prop} {G : Prop} (h : ∃ a b c d e f g i, t a b c d e f g i ∧ u a b c d e f g i ∧ v a b c d e f g i ∧ w a b c d e f g i ∧ x a b c d e f g i ∧ y a b c d e f g i ∧ z a b c d e f g i ∧ α a b c d e f g i ∧ β a b c d e f g i) (k : ∀ a b c d e f g i, t a b c d e f g i → u a b c d e f g i → v a b c d e f g i → w a b c d e f g i → x a b c d e f g i → y a b c d e f g i → z a b c d e f g i → α a b c d e f g i → β a b c d e f g i → G) : G := h.elim fun a h => h.elim fun b h => h.elim fun c h => h.elim fun d h => h.elim fun e h => h.elim fun f h => h.elim fun g h => h.elim fun i h => k a b c d e f g i h.1 h.2.1 h.2.2.1 h.2.2.2.1 h.2.2.2.2.1 h.2.2.2.2.2.1 h.2.2.2.2.2.2.1 h.2.2.2.2.2.2.2.1 h.2.2.2.2.2.2.2.2
theorem xE9_6 {A B C D E F I J L : Type} {t u v w x y : A → B → C → D → E → F → I → J → L → Prop} {G : Prop} (h : ∃ a b c d e f g i j, t a b c d e f g i j ∧ u a b c d e f g i j ∧ v a b c d e f g i j ∧ w a b c d e f g i j ∧ x a b c d e f g i j ∧ y a b c d e f g i j) (k : ∀ a b c d e f g i j, t a b c d e f g i j → u a b c d e f g i j → v a b c d e f g i j → w a b c d e f g i j → x a b c d e f g i j → y a b c d e f g i j → G) : G := h.elim fun a h => h.elim fun b h => h.elim fun c h => h.elim fun d h => h.elim fun e h => h.elim fun f h => h.elim fun g h => h.elim fun i h => h.elim fun j h => k a b c d e f g i j h.1 h.2.1 h.2.2.1 h.2.2.2.1 h.2.2.2.2.1 h.2.2.2.2.2
theorem xE9_7 {A B C D E F I J L : Type} {t u v w x y z : A → B → C → D → E → F → I → J → L → Prop} {G : Prop} (h : ∃ a b c d e f g i j, t a b c d e f g i j ∧ u a b c d e f g i j ∧ v a b c d e f g i j ∧ w a b c d e f g i j ∧ x a b c d e f g i j ∧ y a b c d e f g i j ∧ z a b c d e f g i j) (k : ∀ a b c d e f g i j, t a b c d e f g i j → u a b c d e f g i j → v a b c d e f g i j → w a b c d e f g i j → x a b c d e f g i j → y a b c d e f g i j → z a b c d e f g i j → G) : G := h.elim fun a h => h.elim fun b h => h.elim fun c h => h.elim fun d h => h.elim fun e h => h.elim fun f h => h.elim fun g h => h.elim fun i h => h.elim fun j h => k a b c d e f g i j h.1 h.2.1 h.2.2.1 h.2.2.2.1 h.2.2.2.2.1 h.2.2.2.2.2.1 h.2.2.2.2.2.2
theorem xE10_2 {A B C D E F I J L M : Type} {t u : A → B → C → D → E → F → I → J → L → M → Prop} {G : Prop} (h : ∃ a b c d e f g i j l, t a b c d e f g i j l ∧ u a b c d e f g i j l) (k : ∀ a b c d e f g i j l, t a b c d e f g i j l → u a b c d e f g i j l → G) : G := h.elim fun a h => h.elim fun b h => h.elim fun c h => h.elim fun d h => h.elim fun e h => h.elim fun f h => h.elim fun g h => h.elim fun i h => h.elim fun j h => h.elim fun l h => k a b c d e f g i j l h.1 h.2
theorem xE10_4 {A B C D E F I J L M : Type} {t u v w : A → B → C → D → E → F → I → J → L → M → Prop} {G : Prop} (h : ∃ a b c d e f g i j l, t a b c d e f g i j l ∧ u a b c d e f g i j l ∧ v a b c d e f g i j l ∧ w a b c d e f g i j l) (k : ∀ a b c d e f g i j l, t a b c d e f g i j l → u a b c d e f g i j l → v a b c d e f g i j l → w a b c d e f g i j l → G) : G := h.elim fun a h => h.elim fun b h => h.elim fun c h => h.elim fun d h => h.elim fun e h => h.elim fun f h => h.elim fun g h => h.elim fun i h => h.elim fun j h => h.elim fun l h => k a b c d e f g i j l h.1 h.2.1 h.2.2.1 h.2.2.2
theorem xE10_5 {A B C D E F I J L M : Type} {t u v w x : A → B → C → D → E → F → I → J → L → M → Prop} {G : Prop} (h : ∃ a b c d e f g i j l, t a b c d e f g i j l ∧ u a b c d e f g i j l ∧ v a b c d e f g i j l ∧ w a b c d e f g i j l ∧ x a b c d e f g i j l) (k : ∀ a b c d e f g i j l, t a b c d e f g i j l → u a b c d e f g i j l → v a b c d e f g i j l → w a b c d e f g i j l → x a b c d e f g i j l → G) : G := h.elim fun a h => h.elim fun b h => h.elim fun c h => h.elim fun d h => h.elim fun e h => h.elim fun f h => h.elim fun g h => h.elim fun i h => h.elim fun j h => h.elim fun l h => k a b c d e f g i j l h.1 h.2.1 h.2.2.1 h.2.2.2.1 h.2.2.2.2
theorem xE10_6 {A B C D E F I J L M : Type} {t u v w x y : A → B → C → D → E → F → I → J → L → M → Prop} {G : Prop} (h : ∃ a b c d e f g i j l, t a b c d e f g i j l ∧ u a b c d e f g i j l ∧ v a b c d e f g i j l ∧ w a b c d e f g i j l ∧ x a b c d e f g i j l ∧ y a b c d e f g i j l) (k : ∀ a b c d e f g i j l, t a b c d e f g i j l → u a b c d e f g i j l → v a b c d e f g i j l → w a b c d e f g i j l → x a b c d e f g i j l → y a b c d e f g i j l → G) : G := h.elim fun a h => h.elim fun b h => h.elim fun c h => h.elim fun d h => h.elim fun e h => h.elim fun f h => h.elim fun g h => h.elim fun i h => h.elim fun j h => h.elim fun l h => k a b c d e f g i j l h.1 h.2.1 h.2.2.1 h.2.2.2.1 h.2.2.2.2.1 h.2.2.2.2.2
theorem xE13_8 {A B C D E F I J L M N O P : Type} {t u v w x y z α : A → B → C → D → E → F → I → J → L → M → N → O → P → Prop} {G : Prop} (h : ∃ a b c d e f g i j l m n o, t a b c d e f g i j l m n o ∧ u a b c d e f g i j l m n o ∧ v a b c d e f g i j l m n o ∧ w a b c d e f g i j l m n o ∧ x a b c d e f g i j l m n o ∧ y a b c d e f g i j l m n o ∧ z a b c d e f g i j l m n o ∧ α a b c d e f g i j l m n o) (k : ∀ a b c d e f g i j l m n o, t a b c d e f g i j l m n o → u a b c d e f g i j l m n o → v a b c d e f g i j l m n o → w a b c d e f g i j l m n o → x a b c d e f g i j l m n o → y a b c d e f g i j l m n o → z a b c d e f g i j l m n o → α a b c d e f g i j l m n o → G) : G := h.elim fun a h => h.elim fun b h => h.elim fun c h => h.elim fun d h => h.elim fun e h => h.elim fun f h => h.elim fun g h => h.elim fun i h => h.elim fun j h => h.elim fun l h => h.elim fun m h => h.elim fun n h => h.elim fun o h => k a b c d e f g i j l m n o h.1 h.2.1 h.2.2.1 h.2.2.2.1 h.2.2.2.2.1 h.2.2.2.2.2.1 h.2.2.2.2.2.2.1 h.2.2.2.2.2.2.2
theorem xE16_5 {A B C D E F I J L M N O P Q R S : Type} {t u v w x : A → B → C → D → E → F → I → J → L → M → N → O → P → Q → R → S → Prop} {G : Prop} (h : ∃ a b c d e f g i j l m n o p q r, t a b c d e f g i j l m n o p q r ∧ u a b c d e f g i j l m n o p q r ∧ v a b c d e f g i j l m n o p q r ∧ w a b c d e f g i j l m n o p q r ∧ x a b c d e f g i j l m n o p q r) (k : ∀ a b c d e f g i j l m n o p q r, t a b c d e f g i j l m n o p q r → u a b c d e f g i j l m n o p q r → v a b c d e f g i j l m n o p q r → w a b c d e f g i j l m n o p q r → x a b c d e f g i j l m n o p q r → G) : G := h.elim fun a h => h.elim fun b h => h.elim fun c h => h.elim fun d h => h.elim fun e h => h.elim fun f h => h.elim fun g h => h.elim fun i h => h.elim fun j h => h.elim fun l h => h.elim fun m h => h.elim fun n h => h.elim fun o h => h.elim fun p h => h.elim fun q h => h.elim fun r h => k a b c d e f g i j l m n o p q r h.1 h.2.1 h.2.2.1 h.2.2.2.1 h.2.2.2.2
theorem xI0_3 {t u v : Prop} (h0 : t) (h1 : u) (h2 : v) : t ∧ u ∧ v := ⟨h0, h1, h2⟩
theorem xI0_4 {t u v w : Prop} (h0 : t) (h1 : u) (h2 : v) (h3 : w) : t ∧ u ∧ v ∧ w := ⟨h0, h1, h2, h3⟩
theorem xI1_2 {A : Type} {t u : A → Prop} (a) (h0 : t a) (h1 : u a) : ∃ a, t a ∧ u a := ⟨a, h0, h1⟩
theorem xI1_3 {A : Type} {t u v : A → Prop} (a) (h0 : t a) (h1 : u a) (h2 : v a) : ∃ a, t a ∧ u a ∧ v a := ⟨a, h0, h1, h2⟩
theorem xI1_4 {A : Type} {t u v w : A → Prop} (a) (h0 : t a) (h1 : u a) (h2 : v a) (h3 : w a) : ∃ a, t a ∧ u a ∧ v a ∧ w a := ⟨a, h0, h1, h2, h3⟩
theorem xI1_9 {A : Type} {t u v w x y z α β : A → Prop} (a) (h0 : t a) (h1 : u a) (h2 : v a) (h3 : w a) (h4 : x a) (h5 : y a) (h6 : z a) (h7 : α a) (h8 : β a) : ∃ a, t a ∧ u a ∧ v a ∧ w a ∧ x a ∧ y a ∧ z a ∧ α a ∧ β a := ⟨a, h0, h1, h2, h3, h4, h5, h6, h7, h8⟩
theorem xI2_2 {A B : Type} {t u : A → B → Prop} (a b) (h0 : t a b) (h1 : u a b) : ∃ a b, t a b ∧ u a b := ⟨a, b, h0, h1⟩
theorem xI2_3 {A B : Type} {t u v : A → B → Prop} (a b) (h0 : t a b) (h1 : u a b) (h2 : v a b) : ∃ a b, t a b ∧ u a b ∧ v a b := ⟨a, b, h0, h1, h2⟩
theorem xI2_4 {A B : Type} {t u v w : A → B → Prop} (a b) (h0 : t a b) (h1 : u a b) (h2 : v a b) (h3 : w a b) : ∃ a b, t a b ∧ u a b ∧ v a b ∧ w a b := ⟨a, b, h0, h1, h2, h3⟩
theorem xI3_2 {A B C : Type} {t u : A → B → C → Prop} (a b c) (h0 : t a b c) (h1 : u a b c) : ∃ a b c, t a b c ∧ u a b c := ⟨a, b, c, h0, h1⟩
theorem xI3_3 {A B C : Type} {t u v : A → B → C → Prop} (a b c) (h0 : t a b c) (h1 : u a b c) (h2 : v a b c) : ∃ a b c, t a b c ∧ u a b c ∧ v a b c := ⟨a, b, c, h0, h1, h2⟩
theorem xI3_4 {A B C : Type} {t u v w : A → B → C → Prop} (a b c) (h0 : t a b c) (h1 : u a b c) (h2 : v a b c) (h3 : w a b c) : ∃ a b c, t a b c ∧ u a b c ∧ v a b c ∧ w a b c := ⟨a, b, c, h0, h1, h2, h3⟩
theorem xI3_6 {A B C : Type} {t u v w x y : A → B → C → Prop} (a b c) (h0 : t a b c) (h1 : u a b c) (h2 : v a b c) (h3 : w a b c) (h4 : x a b c) (h5 : y a b c) : ∃ a b c, t a b c ∧ u a b c ∧ v a b c ∧ w a b c ∧ x a b c ∧ y a b c := ⟨a, b, c, h0, h1, h2, h3, h4, h5⟩
theorem xI4_2 {A B C D : Type} {t u : A → B → C → D → Prop} (a b c d) (h0 : t a b c d) (h1 : u a b c d) : ∃ a b c d, t a b c d ∧ u a b c d := ⟨a, b, c, d, h0, h1⟩
theorem xI4_4 {A B C D : Type} {t u v w : A → B → C → D → Prop} (a b c d) (h0 : t a b c d) (h1 : u a b c d) (h2 : v a b c d) (h3 : w a b c d) : ∃ a b c d, t a b c d ∧ u a b c d ∧ v a b c d ∧ w a b c d := ⟨a, b, c, d, h0, h1, h2, h3⟩
theorem xI4_6 {A B C D : Type} {t u v w x y : A → B → C → D → Prop} (a b c d) (h0 : t a b c d) (h1 : u a b c d) (h2 : v a b c d) (h3 : w a b c d) (h4 : x a b c d) (h5 : y a b c d) : ∃ a b c d, t a b c d ∧ u a b c d ∧ v a b c d ∧ w a b c d ∧ x a b c d ∧ y a b c d := ⟨a, b, c, d, h0, h1, h2, h3, h4, h5⟩
theorem xI4_7 {A B C D : Type} {t u v w x y z : A → B → C → D → Prop} (a b c d) (h0 : t a b c d) (h1 : u a b c d) (h2 : v a b c d) (h3 : w a b c d) (h4 : x a b c d) (h5 : y a b c d) (h6 : z a b c d) : ∃ a b c d, t a b c d ∧ u a b c d ∧ v a b c d ∧ w a b c d ∧ x a b c d ∧ y a b c d ∧ z a b c d := ⟨a, b, c, d, h0, h1, h2, h3, h4, h5, h6⟩
theorem xI5_2 {A B C D E : Type} {t u : A → B → C → D → E → Prop} (a b c d e) (h0 : t a b c d e) (h1 : u a b c d e) : ∃ a b c d e, t a b c d e ∧ u a b c d e := ⟨a, b, c, d, e, h0, h1⟩
theorem xI5_3 {A B C D E : Type} {t u v : A → B → C → D → E → Prop} (a b c d e) (h0 : t a b c d e) (h1 : u a b c d e) (h2 : v a b c d e) : ∃ a b c d e, t a b c d e ∧ u a b c d e ∧ v a b c d e := ⟨a, b, c, d, e, h0, h1, h2⟩
theorem xI5_4 {A B C D E : Type} {t u v w : A → B → C → D → E → Prop} (a b c d e) (h0 : t a b c d e) (h1 : u a b c d e) (h2 : v a b c d e) (h3 : w a b c d e) : ∃ a b c d e, t a b c d e ∧ u a b c d e ∧ v a b c d e ∧ w a b c d e := ⟨a, b, c, d, e, h0, h1, h2, h3⟩
theorem xI5_5 {A B C D E : Type} {t u v w x : A → B → C → D → E → Prop} (a b c d e) (h0 : t a b c d e) (h1 : u a b c d e) (h2 : v a b c d e) (h3 : w a b c d e) (h4 : x a b c d e) : ∃ a b c d e, t a b c d e ∧ u a b c d e ∧ v a b c d e ∧ w a b c d e ∧ x a b c d e := ⟨a, b, c, d, e, h0, h1, h2, h3, h4⟩
theorem xI5_6 {A B C D E : Type} {t u v w x y : A → B → C → D → E → Prop} (a b c d e) (h0 : t a b c d e) (h1 : u a b c d e) (h2 : v a b c d e) (h3 : w a b c d e) (h4 : x a b c d e) (h5 : y a b c d e) : ∃ a b c d e, t a b c d e ∧ u a b c d e ∧ v a b c d e ∧ w a b c d e ∧ x a b c d e ∧ y a b c d e := ⟨a, b, c, d, e, h0, h1, h2, h3, h4, h5⟩
theorem xI6_6 {A B C D E F : Type} {t u v w x y : A → B → C → D → E → F → Prop} (a b c d e f) (h0 : t a b c d e f) (h1 : u a b c d e f) (h2 : v a b c d e f) (h3 : w a b c d e f) (h4 : x a b c d e f) (h5 : y a b c d e f) : ∃ a b c d e f, t a b c d e f ∧ u a b c d e f ∧ v a b c d e f ∧ w a b c d e f ∧ x a b c d e f ∧ y a b c d e f := ⟨a, b, c, d, e, f, h0, h1, h2, h3, h4, h5⟩
theorem xI6_7 {A B C D E F : Type} {t u v w x y z : A → B → C → D → E → F → Prop} (a b c d e f) (h0 : t a b c d e f) (h1 : u a b c d e f) (h2 : v a b c d e f) (h3 : w a b c d e f) (h4 : x a b c d e f) (h5 : y a b c d e f) (h6 : z a b c d e f) : ∃ a b c d e f, t a b c d e f ∧ u a b c d e f ∧ v a b c d e f ∧ w a b c d e f ∧ x a b c d e f ∧ y a b c d e f ∧ z a b c d e f := ⟨a, b, c, d, e, f, h0, h1, h2, h3, h4, h5, h6⟩
theorem xI8_4 {A B C D E F I J : Type} {t u v w : A → B → C → D → E → F → I → J → Prop} (a b c d e f g i) (h0 : t a b c d e f g i) (h1 : u a b c d e f g i) (h2 : v a b c d e f g i) (h3 : w a b c d e f g i) : ∃ a b c d e f g i, t a b c d e f g i ∧ u a b c d e f g i ∧ v a b c d e f g i ∧ w a b c d e f g i := ⟨a, b, c, d, e, f, g, i, h0, h1, h2, h3⟩
theorem xI9_6 {A B C D E F I J L : Type} {t u v w x y : A → B → C → D → E → F → I → J → L → Prop} (a b c d e f g i j) (h0 : t a b c d e f g i j) (h1 : u a b c d e f g i j) (h2 : v a b c d e f g i j) (h3 : w a b c d e f g i j) (h4 : x a b c d e f g i j) (h5 : y a b c d e f g i j) : ∃ a b c d e f g i j, t a b c d e f g i j ∧ u a b c d e f g i j ∧ v a b c d e f g i j ∧ w a b c d e f g i j ∧ x a b c d e f g i j ∧ y a b c d e f g i j := ⟨a, b, c, d, e, f, g, i, j, h0, h1, h2, h3, h4, h5⟩
theorem xI9_10 {A B C D E F I J L : Type} {t u v w x y z α β γ : A → B → C → D → E → F → I → J → L → Prop} (a b c d e f g i j) (h0 : t a b c d e f g i j) (h1 : u a b c d e f g i j) (h2 : v a b c d e f g i j) (h3 : w a b c d e f g i j) (h4 : x a b c d e f g i j) (h5 : y a b c d e f g i j) (h6 : z a b c d e f g i j) (h7 : α a b c d e f g i j) (h8 : β a b c d e f g i j) (h9 : γ a b c d e f g i j) : ∃ a b c d e f g i j, t a b c d e f g i j ∧ u a b c d e f g i j ∧ v a b c d e f g i j ∧ w a b c d e f g i j ∧ x a b c d e f g i j ∧ y a b c d e f g i j ∧ z a b c d e f g i j ∧ α a b c d e f g i j ∧ β a b c d e f g i j ∧ γ a b c d e f g i j := ⟨a, b, c, d, e, f, g, i, j, h0, h1, h2, h3, h4, h5, h6, h7, h8, h9⟩
theorem xI9_11 {A B C D E F I J L : Type} {t u v w x y z α β γ δ : A → B → C → D → E → F → I → J → L → Prop} (a b c d e f g i j) (h0 : t a b c d e f g i j) (h1 : u a b c d e f g i j) (h2 : v a b c d e f g i j) (h3 : w a b c d e f g i j) (h4 : x a b c d e f g i j) (h5 : y a b c d e f g i j) (h6 : z a b c d e f g i j) (h7 : α a b c d e f g i j) (h8 : β a b c d e f g i j) (h9 : γ a b c d e f g i j) (h10 : δ a b c d e f g i j) : ∃ a b c d e f g i j, t a b c d e f g i j ∧ u a b c d e f g i j ∧ v a b c d e f g i j ∧ w a b c d e f g i j ∧ x a b c d e f g i j ∧ y a b c d e f g i j ∧ z a b c d e f g i j ∧ α a b c d e f g i j ∧ β a b c d e f g i j ∧ γ a b c d e f g i j ∧ δ a b c d e f g i j := ⟨a, b, c, d, e, f, g, i, j, h0, h1, h2, h3, h4, h5, h6, h7, h8, h9, h10⟩
theorem xI10_5 {A B C D E F I J L M : Type} {t u v w x : A → B → C → D → E → F → I → J → L → M → Prop} (a b c d e f g i j l) (h0 : t a b c d e f g i j l) (h1 : u a b c d e f g i j l) (h2 : v a b c d e f g i j l) (h3 : w a b c d e f g i j l) (h4 : x a b c d e f g i j l) : ∃ a b c d e f g i j l, t a b c d e f g i j l ∧ u a b c d e f g i j l ∧ v a b c d e f g i j l ∧ w a b c d e f g i j l ∧ x a b c d e f g i j l := ⟨a, b, c, d, e, f, g, i, j, l, h0, h1, h2, h3, h4⟩
end
local macro_rules | `(tactic| walk_at "LT") => `(tactic| with_reducible first | assumption | exact ot0 (by assumption) | exact ot1 (by assumption) | exact ot2 (by assumption) | exact ot3 (by assumption) | exact ot4 (by assumption) | exact ot5 (by assumption) | exact ot6 (by assumption) | exact ot7 (by assumption) | exact ot8 (by assumption) | exact ot9 (by assumption) | exact ot10 (by assumption) | exact ot11 (by assumption) | exact of1 (by assumption) | exact of2 (by assumption) | exact of3 (by assumption) | exact of4 (by assumption) | exact of5 (by assumption) | exact of6 (by assumption))
local macro_rules | `(tactic| omega) => `(tactic| first | (k_whole; first | (with_reducible assumption) | decide | ((with_reducible refine Nat.le_of_ble_eq_true ?_); exact rfl) | ((with_reducible refine neN ?_); (with_reducible first | exact os5 | exact os6 | exact Nat.ne_of_lt (by walk_at "LT") | exact Nat.ne_of_gt (by walk_at "LT") | exact os1 (by walk_at "LT") | exact os2 (by walk_at "LT") | exact os3 (by walk_at "LT") | exact os4 (by walk_at "LT") | exact os9 (by walk_at "LT") (by walk_at "LT") | exact (by walk_at "LT") | exact (And.left (by walk_at "LT")) | exact (And.left (And.right (by walk_at "LT"))) | exact (And.right (And.right (by walk_at "LT"))) | exact Ne.symm (by walk_at "LT") | exact Ne.symm (And.left (by walk_at "LT")) | exact Ne.symm (And.left (And.right (by walk_at "LT"))) | exact Ne.symm (And.right (And.right (by walk_at "LT"))))) | (with_reducible first | exact Int.add_right_comm _ _ _ | exact Nat.add_right_comm _ _ _ | (refine Int.add_nonneg ?_ ?_; rotate_left; decide; omega) | exact Nat.le_succ _ | exact os8 | exact os7 (by walk_at "LT") | walk_at "LT" | exact Nat.le_of_lt (by walk_at "LT") | exact oq1 (by walk_at "LT") (by walk_at "LT"))) | omega (config := {}))
section
open PySem.Calls
noncomputable abbrev noHeap : Heap := {}
noncomputable def frs (l : List Env) : List Addr := l.filterMap (·.frame)
def FDict (h : Heap) (dx : Addr) (what : Str) (pl : Int) : Prop :=
  ∃ od es n t1 t2, h.get? dx = some od ∧ od.data = .dict (List.toArray es) n ∧ getL "what" es = some (some (.str what t1)) ∧ getL "at" es = some (some (.int pl t2))
def Fault (h : Heap) (e T dx : Addr) (what : Str) (pl : Int) : Prop :=
  ∃ oe vs tb, (h.get? e = some oe ∧ oe.cls = .ref 61 ∧ oe.dict = some dx ∧ oe.data = .fields vs ∧ vs[1]? = some tb) ∧
    (tb = .none ∨ (tb = .ref T ∧ T ≠ e ∧ ∃ oT ts, h.get? T = some oT ∧ oT.data = .fields ts ∧ ts[3]? = some .none)) ∧ FDict h dx what pl
def Thrown (l : List Env) (fp : List Addr) (h h' : Heap) (e : Addr) (what : Str) (pl : Int) : Prop :=
  (∀ b o, h.get? b = some o → b ∉ fp → b ∉ frs l → h'.get? b = some o) ∧
  (∀ b o, h.get? b = some o → b ∉ fp → ∃ sl, h'.get? b = some { o with slots := sl }) ∧
  h.objs.size ≤ h'.objs.size ∧
  ∃ T dx, Fault h' e T dx what pl ∧ h.objs.size ≤ e ∧ h.objs.size ≤ T
structure Back (fp : List Addr) (h h' : Heap) : Prop where
  keep : ∀ b o, h.get? b = some o → b ∉ fp → h'.get? b = some o
  size : h.objs.size ≤ h'.objs.size
section leave
variable {M : Model} {A : Around} {E : Value → Shared → Prop} {s : Shared}
theorem frs_mem {h : Heap} {l : List Env} (hl : h.FunFrames noHeap l) {b : Addr} (hb : b ∈ frs l) : ∃ o, h.get? b = some o ∧ ∀ vs, o.data ≠ .fields vs := (hl.mem hb).2
theorem FDict.move {h h' : Heap} {dx : Addr} {what : Str} {pl : Int} (x : FDict h dx what pl) (k : ∀ o, h.get? dx = some o → ∃ sl, h'.get? dx = some { o with slots := sl }) : FDict h' dx what pl := by
  refine xE5_4 x ?_; (try clear x); intro od es n t1 t2 a b c d
  refine xE1_1 (k _ a) ?_; intro sl q
  exact xI5_4 _ es n t1 t2 q b c d
theorem FDict.ne {h : Heap} {dx e : Addr} {what : Str} {pl : Int} {oe : Obj} {vs : Array Value} (x : FDict h dx what pl) (he : h.get? e = some oe) (hd : oe.data = .fields vs) : dx ≠ e := by
  refine xE5_3 x ?_; (try clear x); intro od es n t1 t2 a b _
  rintro rfl
  rw [he] at a; cases a
  rw [hd] at b; cases b
theorem newEntry_D {env : Env} {outer : List Env} {L e dx : Addr} {oe : Obj} {vs : Array Value} {head : Value} {hadNext : Bool} {what : Str} {pl : Int} {Q : Unit → Shared → Prop}
    (hfr : A.frames = some (env :: outer)) (hl : s.heap.FunFrames noHeap (env :: outer)) (hf : env.frame = some L)
    (he : s.heap.get? e = some oe) (hcl : oe.cls = .ref 61) (hdi : oe.dict = some dx) (hd : oe.data = .fields vs) (hsz : 1 < vs.size) (hD : FDict s.heap dx what pl)
    (h : ∀ h' T, Fault h' e T dx what pl → s.heap.objs.size ≤ T → s.heap.objs.size ≤ h'.objs.size → (∀ b o, s.heap.get? b = some o → b ≠ e → b ∉ frs (env :: outer) → h'.get? b = some o) →
      (∀ b o, s.heap.get? b = some o → b ≠ e → ∃ sl, h'.get? b = some { o with slots := sl }) → Q () { s with heap := h' }) :
    wpAny M A (do let a ← frameOf env; let pl ← entryPlaceOf L hadNext; let b ← EntryCells.newEntry head a .none (rawInt L) .none pl; setField (.ref e) 1 b) (fun _ s' => wpAny M A (setFlight (.ref e) none) Q E s') E s := by
  have hene : e ∉ frs (env :: outer) := fun hm => by
    refine xE1_2 (frs_mem hl hm) ?_; intro o ho hnf
    rw [he] at ho; injection ho with ho; subst ho; exact hnf vs hd
  refine wpAny_bind (wpAny_frameOf_fun hfr hl hf fun h₁ hs₁ => ?_)
  refine wpAny_bind (wpAny_entryPlaceOf fun pl hpl => ?_)
  unfold EntryCells.newEntry newFields
  refine wpAny_bind (wpAny_newObj_type ?_ (hpl.sizeOk5 _ _ _ _ _))
  have he₁ : h₁.get? e = some oe := (hs₁.2.1 e hene).trans he
  have he₂ := Heap.get?_push_of_some (h := h₁) { cls := .type "traceback", dict := none, data := .fields ([head, .ref L, .none, rawInt L, .none] ++ (if pl.isEmpty then List.replicate 6 Value.none else pl)).toArray } he₁
  refine wpAny_setField he₂ hd hsz ?_
  have hTe : h₁.objs.size ≠ e := Nat.ne_of_gt (Heap.lt_size he₁)
  have hd₃ := Obj.data_mapFields hd (·.setIfInBounds 1 (Value.ref h₁.objs.size))
  have he₃ := Heap.get?_update_self (Obj.mapFields (·.setIfInBounds 1 (Value.ref h₁.objs.size))) he₂ (Obj.isFreed_of_fields hd₃)
  have hT₃ := (Heap.get?_update_other (h₁.push { cls := .type "traceback", dict := none, data := .fields ([head, .ref L, .none, rawInt L, .none] ++ (if pl.isEmpty then List.replicate 6 Value.none else pl)).toArray })
    (Obj.mapFields (·.setIfInBounds 1 (Value.ref h₁.objs.size))) (Ne.symm hTe)).trans (Heap.get?_push_size h₁ rfl)
  unfold setFlight
  refine wpAny_bind (wpAny_field he₃ hd₃ (x := .ref h₁.objs.size) (by simp [hsz]) ?_)
  rw [if_pos (show (Value.ref h₁.objs.size != Value.none) = true from by simp)]
  refine wpAny_setField hT₃ rfl (by simp only [List.size_toArray, List.length_append, List.length_cons, List.length_nil] <;> omega) ?_
  have keep : ∀ b o, b ≠ e → h₁.get? b = some o →
      (((h₁.push { cls := .type "traceback", dict := none, data := .fields ([head, .ref L, .none, rawInt L, .none] ++ (if pl.isEmpty then List.replicate 6 Value.none else pl)).toArray }).update e (Obj.mapFields (·.setIfInBounds 1 (Value.ref h₁.objs.size)))).update h₁.objs.size
        (Obj.mapFields (·.setIfInBounds 3 ((none : Option Addr).elim Value.none fun f => rawInt f)))).get? b = some o := fun b o hbe hb => by
    have hbT : h₁.objs.size ≠ b := Nat.ne_of_gt (Heap.lt_size hb)
    rw [Heap.get?_update_other _ _ hbT, Heap.get?_update_other _ _ (Ne.symm hbe)]
    exact Heap.get?_push_of_some _ hb
  have hdxe : dx ≠ e := hD.ne he hd
  refine h _ h₁.objs.size ⟨_, _, .ref h₁.objs.size, ⟨?_, ?_, ?_, hd₃, by simp [hsz]⟩, .inr ⟨rfl, hTe, _, _, Heap.get?_update_self _ hT₃ (Obj.isFreed_of_fields (Obj.data_mapFields rfl _)), Obj.data_mapFields rfl _, ?_⟩,
    hD.move fun o ho => ?_⟩ (Nat.le_of_eq hs₁.1.symm) ?_ (fun b o hb hbe hbf => keep b o hbe ((hs₁.2.1 b hbf).trans hb)) (fun b o hb hbe => ?_)
  · rw [Heap.get?_update_other _ _ hTe]; exact he₃
  · rw [Obj.cls_mapFields]; exact hcl
  · obtain ⟨a1, a2, a3, a4⟩ := oe
    dsimp only at hd hdi
    subst hd hdi
    rfl
  · first | (simp; done) | (rcases hpl with rfl | ⟨_, _, _, _, _, _, _, rfl⟩ <;> simp)
  · refine xE1_1 (hs₁.2.2 dx o ho) ?_; intro sl hs
    exact ⟨sl, keep dx _ hdxe hs⟩
  · rw [Heap.size_after_update, Heap.size_after_update, Heap.size_push, hs₁.1]; exact Nat.le_succ _
  · refine xE1_1 (hs₁.2.2 b o hb) ?_; intro sl hs
    exact ⟨sl, keep b _ hbe hs⟩
theorem leaving_D {env : Env} {outer : List Env} {L e T dx : Addr} {what : Str} {pl : Int} {Q : Unit → Shared → Prop}
    (hfr : A.frames = some (env :: outer)) (hl : s.heap.FunFrames noHeap (env :: outer)) (hf : env.frame = some L) (hF : Fault s.heap e T dx what pl)
    (h : ∀ h' T', Fault h' e T' dx what pl → s.heap.objs.size ≤ T' → s.heap.objs.size ≤ h'.objs.size → (∀ b o, s.heap.get? b = some o → b ≠ e → b ≠ T → b ∉ frs (env :: outer) → h'.get? b = some o) →
      (∀ b o, s.heap.get? b = some o → b ≠ e → b ≠ T → ∃ sl, h'.get? b = some { o with slots := sl }) → Q () { s with heap := h' }) :
    wpAny M A (leaving env (.ref e)) Q E s := by
  refine xE3_3 hF ?_; (try clear hF); intro oe vs tb zq1' ht hD; refine xE0_5 zq1' ?_; clear zq1'; intro he hcl hdi hd h1
  have hsz : 1 < vs.size := (Array.getElem?_eq_some_iff.mp h1).1
  unfold leaving noteFrame
  simp only [hf]
  refine wpAny_bind (wpAny_bind (wpAny_field he hd h1 ?_))
  rcases ht with rfl | ⟨rfl, hTe, oT, ts, hT, hdT, h3⟩
  · rw [if_neg (by decide)]
    exact newEntry_D hfr hl hf he hcl hdi hd hsz hD fun h' T' a b b' c d => h h' T' a b b' (fun x o q1 q2 _ => c x o q1 q2) fun x o q1 q2 _ => d x o q1 q2
  · rw [if_pos (show (Value.ref T != Value.none) = true from by simp)]
    refine wpAny_bind (wpAny_field hT hdT h3 ?_)
    rw [if_neg (show ¬ ((Value.none == rawInt L) = true) from by simp [rawInt])]
    refine wpAny_bind (wpAny_setField hT hdT (Array.getElem?_eq_some_iff.mp h3).1 ?_)
    have other : ∀ b, b ≠ T → (s.heap.update T (Obj.mapFields (·.setIfInBounds 3 Value.none))).get? b = s.heap.get? b := fun b hb => Heap.get?_update_other _ _ (Ne.symm hb)
    have noRecord : ∀ b o, s.heap.get? b = some o → (∀ vs, o.data ≠ .fields vs) → b ≠ T := fun b o hb hnf q => by
      rw [q, hT] at hb; injection hb with hb; subst hb; exact hnf ts hdT
    refine newEntry_D hfr (hl.of_keeps fun b o hb hnf => ⟨o, (other b (noRecord b o hb hnf)).trans hb, rfl⟩) hf ((other e (Ne.symm hTe)).trans he) hcl hdi hd hsz
      (hD.move fun o ho => ⟨o.slots, (other dx (hD.ne hT hdT)).trans ho⟩) fun h' T' a b b' c d => ?_
    have sz : (s.heap.update T (Obj.mapFields (·.setIfInBounds 3 Value.none))).objs.size = s.heap.objs.size := Heap.size_after_update _ _ _
    exact h h' T' a (sz ▸ b) (sz ▸ b') (fun x o q1 q2 q3 q4 => c x o ((other x q3).trans q1) q2 q4) fun x o q1 q2 q3 => d x o ((other x q3).trans q1) q2
end leave
noncomputable abbrev Aat (D U : Nat) (gd : Option (List Code)) (l : List Env) : Around := { handled := none, depth := D, frames := some l, guards := gd, units := U }
theorem Thrown.leave {M : Model} {A : Around} {E : Value → Shared → Prop} {s : Shared} {l : List Env} {env : Env} {hc g h₁ : Heap} {fp fp' : List Addr} {L e : Addr} {m : Str → Option Value} {what : Str} {pl : Int} {Q : Unit → Shared → Prop}
    (hA : A.frames = some (env :: l)) (hf : env.frame = some L) (hke : env.scope.kind = .function) (hgf : g.FunFrames noHeap l) (hg : ∀ b o, hc.get? b = some o → b ∉ fp → g.get? b = some o) (hL : hc.objs.size ≤ L)
    (F : Fr g L h₁ m) (hfp : ∀ b ∈ fp', g.get? b = none ∧ b ≠ L) (Th : Thrown (env :: l) fp' h₁ s.heap e what pl)
    (h : ∀ h', Thrown l fp hc h' e what pl → Q () { s with heap := h' }) : wpAny M A (leaving env (.ref e)) Q E s := by
  refine xE0_4 Th ?_; (try clear Th); intro k1 k2 k3 zq2'; refine xE2_3 zq2' ?_; clear zq2'; intro T dx hF n1 n2
  have hLs : @LT.lt Nat _ L h₁.objs.size := F.ns.lt
  have hL : @LE.le Nat _ hc.objs.size L := hL
  have n1 : @LE.le Nat _ h₁.objs.size e := n1
  have n2 : @LE.le Nat _ h₁.objs.size T := n2
  have hgk : ∀ b o, g.get? b = some o → b ∉ fp' := fun b o q hb => by rw [(hfp b hb).1] at q; cases q
  have hb₁ : ∀ b o, hc.get? b = some o → b ∉ fp → h₁.get? b = some o := fun b o q hb => F.keep b o (hg b o q hb)
  have fr1 : h₁.FunFrames noHeap (env :: l) := by
    refine xE3_3 (F.ns) ?_; intro oL es ep hoL hd _
    exact xI0_3 (by rw [hke]; decide) ⟨L, oL, hf, rfl, hoL, fun vs q => by rw [hd] at q; cases q⟩ (hgf.of_keeps fun b o q _ => ⟨o, F.keep b o q, rfl⟩)
  have fr2 : s.heap.FunFrames noHeap (env :: l) := by
    refine xE3_3 (F.ns) ?_; intro oL es ep hoL hd _
    refine xE1_1 (k2 L oL hoL fun hb => (hfp L hb).2 rfl) ?_; intro sl hs
    refine xI0_3 (by rw [hke]; decide) ⟨L, _, hf, rfl, hs, fun vs q => by dsimp only at q; rw [hd] at q; cases q⟩ (hgf.of_keeps fun b o q _ => ?_)
    refine xE1_1 (k2 b o (F.keep b o q) (hgk b o q)) ?_; intro sl hs
    exact xI1_2 _ hs rfl
  refine leaving_D hA fr2 hf hF fun h' T' hF' nT hsz c d => ?_
  have nT : @LE.le Nat _ s.heap.objs.size T' := nT
  refine h h' ⟨fun b o q hb hbl => ?_, fun b o q hb => ?_, by omega, T', dx, hF', (by omega : @LE.le Nat _ hc.objs.size e), (by omega : @LE.le Nat _ hc.objs.size T')⟩
  · have hlt : @LT.lt Nat _ b hc.objs.size := Heap.lt_size q
    have q1 := hb₁ b o q hb
    have hbL : b ∉ frs (env :: l) := by
      intro hm
      unfold frs at hm hbl
      rw [List.filterMap_cons, hf] at hm
      rcases List.mem_cons.mp hm with rfl | hm
      · omega
      · exact hbl hm
    exact c b o (k1 b o q1 (hgk b o (hg b o q hb)) hbL) (neN (by omega)) (neN (by omega)) hbL
  · have hlt : @LT.lt Nat _ b hc.objs.size := Heap.lt_size q
    refine xE1_1 (k2 b o (hb₁ b o q hb) (hgk b o (hg b o q hb))) ?_; intro sl hs
    refine xE1_1 (d b _ hs (neN (by omega)) (neN (by omega))) ?_; intro sl2 hs2
    exact ⟨sl2, hs2⟩
structure Sits (w : World) (p : Program) (loose : List Str) (mean : ExcName → Option Value) (mg mb : Str → Option Value) (H : Heap) (A : Around) (l : List Env) (h : Heap) (D U : Nat) : Prop where
  X : (KK w.params).In H
  T : Top p loose mean mg mb H
  st : H.StaysIn h
  fr : A.frames = some l
  hn : A.handled = none
  dep : A.depth ≤ D
  un : A.units ≤ U
  fs : h.FunFrames noHeap l
def Spec (w : World) (f : Addr) (D U : Nat) (vs : List Value) (fp : List (Addr × Obj)) (P : Heap → Heap → Value → Prop) (R : Str → Int → Prop) : Prop :=
  ∀ (p : Program) (loose : List Str) (mean : ExcName → Option Value) (mg mb : Str → Option Value) (H : Heap) (A : Around) (l : List Env) (s : Shared) (Q E : Value → Shared → Prop),
    Sits w p loose mean mg mb H A l s.heap D U → (∀ q ∈ fp, s.heap.get? q.1 = some q.2 ∧ H.get? q.1 = none ∧ q.1 ∉ frs l) →
    (∀ v h' tk', Back (fp.map (·.1)) s.heap h' → P s.heap h' v → Q v { s with heap := h', toks := tk' }) →
    (∀ e h' tk' what pl, Thrown l (fp.map (·.1)) s.heap h' e what pl → R what pl → E (.ref e) { s with heap := h', toks := tk' }) →
    wpAny (model rw_pb0183_01.row.prog w) A (call (.ref f) vs) Q E s
theorem wpAny_up {α : Type} {M : Model} {A B : Around} {t : Sem α} {Q : α → Shared → Prop} {E : Value → Shared → Prop} {s : Shared} (h : wpAny M B t Q E s) (h1 : A.handled = B.handled) (h2 : A.depth ≤ B.depth) (h3 : A.frames = B.frames) (h4 : A.guards = B.guards) (h5 : A.units ≤ B.units) : wpAny M A t Q E s :=
  fun Γ p hΓ => h Γ p ⟨hΓ.1.trans h1, Nat.le_trans hΓ.2.1 h2, fun l hl => hΓ.2.2.1 l (h3.trans hl), fun g hg => hΓ.2.2.2.1 g (h4.trans hg), Nat.le_trans hΓ.2.2.2.2 h5⟩
section
variable {w : World} {p : Program} {loose : List Str} {mean : ExcName → Option Value} {mg mb : Str → Option Value} {A A₀ : Around} {l : List Env} {s : Shared} {Q E : Value → Shared → Prop} {D U : Nat}
  {g : Heap} {L : Addr} {m : Str → Option Value} {env : Env} {f : Addr} {vs : List Value} {fp : List (Addr × Obj)} {P : Heap → Heap → Value → Prop} {R : Str → Int → Prop}
theorem sits_of (B : Below A₀ noHeap l g) (F : Fr g L s.heap m) (X : (KK w.params).In g) (T : Top p loose mean mg mb g) (hA : A.frames = some (env :: l)) (hf : env.frame = some L) (hke : env.scope.kind = .function)
    (hh : A.handled = none) (hd : A.depth ≤ D) (hu : A.units ≤ U) : Sits w p loose mean mg mb g A (env :: l) s.heap D U := by
  refine xE3_3 (F.ns) ?_; intro oL es ep hoL hdd _
  exact ⟨X, T, F.keep, hA, hh, hd, hu, ⟨by rw [hke]; decide, ⟨L, oL, hf, rfl, hoL, fun vs q => by rw [hdd] at q; cases q⟩, B.frames.of_keeps fun b o q _ => ⟨o, F.keep b o q, rfl⟩⟩⟩
theorem Fr.back {h h' : Heap} (F : Fr g L h m) (K : Back (fp.map (·.1)) h h') (N : News g L h fp) : Fr g L h' m := by
  refine xE3_2 (F.ns) ?_; intro oL es ep hoL r
  refine ⟨⟨oL, es, ep, K.keep _ _ hoL fun hm => ?_, r⟩, fun b o q => K.keep b o (F.keep b o q) fun hm => ?_, F.above⟩
  · refine xE1_2 (List.mem_map.mp hm) ?_; intro x hx e
    exact (N x hx).2.1 e
  · refine xE1_2 (List.mem_map.mp hm) ?_; intro x hx zq3'; subst zq3'
    rw [(N x hx).2.2] at q; cases q
theorem Spec.use (C : Spec w f D U vs fp P R) (B : Below A₀ noHeap l g) (F : Fr g L s.heap m) (X : (KK w.params).In g) (T : Top p loose mean mg mb g) (hA : A.frames = some (env :: l)) (hf : env.frame = some L) (hke : env.scope.kind = .function)
    (hh : A.handled = none) (hd : A.depth ≤ D) (hu : A.units ≤ U) (N : News g L s.heap fp)
    (hret : ∀ v h' tk', Fr g L h' m → Back (fp.map (·.1)) s.heap h' → P s.heap h' v → Q v { s with heap := h', toks := tk' })
    (hexc : ∀ e h' tk' what pl, (∀ b ∈ fp.map (·.1), g.get? b = none ∧ b ≠ L) → Thrown (env :: l) (fp.map (·.1)) s.heap h' e what pl → R what pl → E (.ref e) { s with heap := h', toks := tk' }) :
    wpAny (model rw_pb0183_01.row.prog w) A (call (.ref f) vs) Q E s := by
  refine C _ _ _ _ _ _ _ _ _ _ _ (sits_of B F X T hA hf hke hh hd hu) (fun q hq => ⟨(N q hq).1, (N q hq).2.2, fun hm => ?_⟩) (fun v h' tk' hb hp => hret v h' tk' (Fr.back F hb N) hb hp) fun e h' tk' what pl ht hr => hexc e h' tk' what pl (fun b hb => ?_) ht hr
  · unfold frs at hm
    rw [List.filterMap_cons, hf] at hm
    rcases List.mem_cons.mp hm with e | hm
    · exact (N q hq).2.1 e
    · refine xE1_2 (frs_mem B.frames hm) ?_; intro o ho _
      rw [(N q hq).2.2] at ho; cases ho
  · refine xE1_2 (List.mem_map.mp hb) ?_; intro x hx zq4'; subst zq4'
    exact ⟨(N x hx).2.2, (N x hx).2.1⟩
def Ends (l : List Env) (env : Env) (g : Heap) (L : Addr) (s : Shared) (P : Heap → Heap → Value → Prop) (R : Str → Int → Prop) (Q : Value → Shared → Prop) (EB : Value → Shared → Prop) : Prop :=
  (∀ v h' tk' m, Fr g L h' m → P s.heap h' v → Q v { s with heap := h', toks := tk' }) ∧
  (∀ e h₁ h' tk' m fp' what pl, Fr g L h₁ m → (∀ b ∈ fp', g.get? b = none ∧ b ≠ L) → Thrown (env :: l) fp' h₁ h' e what pl → R what pl → EB (.ref e) { s with heap := h', toks := tk' })
theorem enter {name qual : Str} {params : Arguments} {body : List Stmt} {scope : Scope} {dV kV doc pm cdv ct oc : Value} {an od : Option Addr} {osl : Array (Option Value)} {binds : List (Str × Value)}
    (ho : (KK w.params).lookup f = some ⟨oc, od, .func (fnOf name qual params body scope dV kV doc pm an cdv ct), osl⟩) (hcd : codeIn (KK w.params) cdv qual = true) (hD : D < recursionLimit)
    (hbind : ∀ s : Shared, (KK w.params).In s.heap → BindsTo s (fnOf name qual params body scope dV kV doc pm an cdv ct) ⟨vs, []⟩ binds) (hloc : ∀ y ∈ binds, scope.names.lookup y.1 = some .local)
    (h : ∀ {p : Program} {loose : List Str} {mean : ExcName → Option Value} {mg mb : Str → Option Value} {gd : Option (List Code)} {l : List Env} {s : Shared} {Q E : Value → Shared → Prop} (g : Heap) (L : Addr) (h₁ : Heap),
      Fr g L h₁ (fun y => binds.reverse.lookup y) → News g L h₁ fp → Below (Aat D U gd l) noHeap l g → (KK w.params).In g → Top p loose mean mg mb g → s.heap.objs.size ≤ L → (∀ b o, s.heap.get? b = some o → b ∉ fp.map (·.1) → g.get? b = some o) →
      (∀ b o, g.get? b = some o → s.heap.get? b = some o) → (∀ q ∈ fp, s.heap.get? q.1 = some q.2) →
      Ends l (envOf qual scope L f cdv) g L s P R Q (fun e s' => wpAny (model rw_pb0183_01.row.prog w) ((Aat D U gd l).deeper (envOf qual scope L f cdv)) (leaving (envOf qual scope L f cdv) e) (fun _ s'' => E e s'') (fun e' s'' => E e' s'') s') →
      wpAny (model rw_pb0183_01.row.prog w) ((Aat D U gd l).deeper (envOf qual scope L f cdv)) (execs body (envOf qual scope L f cdv))
        (fun fl s' => Q (match fl with | .ret v => v | _ => .none) s')
        (fun e s' => wpAny (model rw_pb0183_01.row.prog w) ((Aat D U gd l).deeper (envOf qual scope L f cdv)) (leaving (envOf qual scope L f cdv) e) (fun _ s'' => E e s'') (fun e' s'' => E e' s'') s')
        { s with heap := h₁, toks := s.toks + binds.length })
    (hcell : ∀ x ∈ scope.names, x.2 ≠ .cell) (hco : scope.isCoroutine = false := by rfl) (hgen : scope.isGenerator = false := by rfl) (hk : scope.kind = .function := by rfl) : Spec w f D U vs fp P R := by
  intro p loose mean mg mb H A l s Q E S hfp hret hexc
  obtain ⟨hd, dp, fr, gd, un⟩ := A
  obtain ⟨X, T, st, zq5', zq6', dep, unn, fs⟩ := S; subst zq5'; subst zq6'
  dsimp only at dep unn
  refine wpAny_up (B := Aat D U gd l) ?_ rfl dep rfl rfl unn
  have Xs : (KK w.params).In s.heap := X.keeps st
  have stg : H.StaysIn (hideAll s.heap (fp.map (·.1))) := fun b o q => hideAll_get _ (st b o q) fun hm => by
    refine xE1_2 (List.mem_map.mp hm) ?_; intro x hx zq7'; subst zq7'
    rw [(hfp x hx).2.1] at q; cases q
  refine wpAny_call (codeAny_call_def (fd := fnOf name qual params body scope dV kV doc pm an cdv ct) (body := body) (binds := binds) hD (Xs _ _ ho) rfl (T.nolimit.keeps st) (codeRec_of Xs hcd) rfl (hbind s Xs) hcell hloc (fun h₁ hns hk₁ => ?_) hco hgen hk)
  have hgk : ∀ b o, s.heap.get? b = some o → b ∉ fp.map (·.1) → (hideAll s.heap (fp.map (·.1))).get? b = some o := fun b o q hb => hideAll_get _ q hb
  have F : Fr (hideAll s.heap (fp.map (·.1))) s.heap.objs.size h₁ (fun y => binds.reverse.lookup y) := ⟨hns, fun b o q => hk₁ b o (of_hideAll _ q), Nat.le_of_eq (hideAll_size _ _)⟩
  have N : News (hideAll s.heap (fp.map (·.1))) s.heap.objs.size h₁ fp := fun q hq => ⟨hk₁ _ _ (hfp q hq).1, Nat.ne_of_lt (Heap.lt_size (hfp q hq).1), hideAll_none _ (List.mem_map_of_mem hq)⟩
  have BF : (hideAll s.heap (fp.map (·.1))).FunFrames noHeap l := funFrames_hideAll fs fun env he b hb hf => by
    refine xE1_2 (List.mem_map.mp hb) ?_; intro x hx zq8'; subst zq8'
    exact (hfp x hx).2.2 (List.mem_filterMap.mpr ⟨env, he, hf⟩)
  refine h (gd := gd) (l := l) (s := s) (Q := Q) (E := E) _ s.heap.objs.size h₁ F N ⟨rfl, fun b o q => (by cases q), BF⟩ (X.keeps stg) (T.keeps stg) (Nat.le_refl _) hgk (fun b o q => of_hideAll _ q) (fun q hq => (hfp q hq).1) ⟨fun v h' tk' m F' hP => ?_, fun e h₂ h' tk' m fp' what pl F' hf' hT hR => ?_⟩
  · exact hret v h' tk' ⟨fun b o q hb => F'.keep b o (hgk b o q hb), Nat.le_of_lt F'.ns.lt⟩ hP
  · exact Thrown.leave (s := { s with heap := h', toks := tk' }) (A := (Aat D U gd l).deeper (envOf qual scope s.heap.objs.size f cdv)) rfl rfl hk BF hgk (Nat.le_refl _) F' hf' hT fun h₃ hT' => hexc e h₃ tk' what pl hT' hR
end
end
section
open PySem.Calls
section
variable {w : World} {h : Heap}
local macro_rules | `(tactic| walk_at "pk") => `(tactic| exact Looks.of_peek (by assumption) (by kernel_rfl))
theorem f_madeHere (X : (KK w.params).In h) : Looks (model rw_pb0183_01.row.prog w) h (Bind.madeHere "BaseException.__new__" (.ref 61)) () := Looks.of_peek X (by kernel_rfl)
theorem f_madeHere2 (X : (KK w.params).In h) : Looks (model rw_pb0183_01.row.prog w) h (Bind.madeBy (.ref 61)) (some "Exception.__new__") := Looks.of_peek X (by kernel_rfl)
theorem f_isType (X : (KK w.params).In h) : Looks (model rw_pb0183_01.row.prog w) h (isType (.ref 61)) true := Looks.of_peek X (by kernel_rfl)
theorem f_subExc (X : (KK w.params).In h) : Looks (model rw_pb0183_01.row.prog w) h (isSubtype (.ref 61) (.type "Exception")) true := Looks.of_peek X (by kernel_rfl)
theorem f_subBase (X : (KK w.params).In h) : Looks (model rw_pb0183_01.row.prog w) h (isSubtype (.ref 61) (.type "BaseException")) true := Looks.of_peek X (by kernel_rfl)
theorem f_subSelf (X : (KK w.params).In h) : Looks (model rw_pb0183_01.row.prog w) h (isSubtype (.ref 61) (.ref 61)) true := Looks.of_peek X (by kernel_rfl)
theorem f_subAttr (X : (KK w.params).In h) : Looks (model rw_pb0183_01.row.prog w) h (isSubtype (.ref 61) (.type "AttributeError")) false := Looks.of_peek X (by kernel_rfl)
theorem f_subName (X : (KK w.params).In h) : Looks (model rw_pb0183_01.row.prog w) h (isSubtype (.ref 61) (.type "NameError")) false := Looks.of_peek X (by kernel_rfl)
theorem f_init (X : (KK w.params).In h) : Looks (model rw_pb0183_01.row.prog w) h (typeLookup (.ref 61) "__init__") (some (.ref 38)) := Looks.of_peek X (by kernel_rfl)
theorem f_call (X : (KK w.params).In h) : Looks (model rw_pb0183_01.row.prog w) h (specialOf (.ref 61) "__call__") (some (.builtin "type.__call__")) := Looks.of_peek X (by kernel_rfl)
theorem f_typ (X : (KK w.params).In h) : Looks (model rw_pb0183_01.row.prog w) h (isInstance (.ref 61) (.type "type")) true := Looks.of_peek X (by kernel_rfl)
theorem f_bind (X : (KK w.params).In h) (v : Value) : Looks (model rw_pb0183_01.row.prog w) h (bindSpecial (.ref 38) v) (.ref 38, [v]) := Looks.of_peek X (by kernel_rfl)
theorem f_new (X : (KK w.params).In h) (rest : List Value) : Looks (model rw_pb0183_01.row.prog w) h (checkBuiltinCall "Exception.__new__" ⟨.ref 61 :: rest, []⟩) () := Looks.of_peek X (by kernel_rfl)
noncomputable abbrev faultObj (t : Addr) : Obj := { cls := .ref 61, data := .fields #[.ref t, .none, .none, .none, .bool false, .none] }
theorem fault_new {A : Around} {R : Result → Shared → Prop} {s : Shared} (X : (KK w.params).In s.heap) {rest : List Value}
    (hq : R (.ok (.ret (.ref (s.heap.objs.size + 1)))) { s with heap := (s.heap.push { cls := .type "tuple", data := .seq rest.toArray }).push (faultObj s.heap.objs.size) }) (hrest : rest.length ≤ sizeLine := by size_fits) :
    codeAny (model rw_pb0183_01.row.prog w) A (.builtin "Exception.__new__" ⟨.ref 61 :: rest, []⟩) R s := by
  obtain ⟨hh, g, d, t, os⟩ := s
  have Fn := PySem.F.excBase_Exception
  have hends := Fn.ends
  refine codeAny_builtinAt Fn.entry ?_
  unfold Builtin.«BaseException.__new__»
  refine _root_.PySem.wpAt_bind ?_
  show _root_.PySem.wpAt _ _ _ (stack >>= _) _ _ _
  refine _root_.PySem.wpAt_bind (_root_.PySem.wpAt_stack fun p below => _root_.PySem.wpAt_of_wpAny ?_)
  wp_walk
  refine _root_.PySem.wpAt_of_wpAny ?_
  rw [Fn.owner]
  have L1 := f_isType X
  have L2 := f_subExc X
  have L3 := f_madeHere X
  have L4 := f_subAttr X
  have L5 := f_subName X
  repeat (first | with_reducible refine Looks.at (by assumption) ?_ | wp_step)
  refine wpAny_load (Heap.get?_push_of_some _ (Heap.get?_push_of_some _ (X 61 _ rfl))) ?_
  dsimp only
  refine wpAny_pure ?_
  refine wpAny_pure (wpAny_pure ?_)
  show R _ _
  rw [Heap.size_push]
  exact hq
theorem fault_call {A : Around} {s : Shared} {Q : Value → Shared → Prop} {E : Value → Shared → Prop} (X : (KK w.params).In s.heap) {rest : List Value}
    (hq : codeAny (model rw_pb0183_01.row.prog w) (A.under (.builtin "type.__call__" ⟨.ref 61 :: rest, []⟩)) (.call (.ref 38) ⟨.ref (s.heap.objs.size + 1) :: rest, []⟩) (InitBack (s.heap.objs.size + 1) fun r s' => match r with | .ok (.ret v) => Q v s' | .ok _ => False | .error e => E e s')
      { s with heap := (s.heap.push { cls := .type "tuple", data := .seq rest.toArray }).push (faultObj s.heap.objs.size) }) (hrest : rest.length ≤ sizeLine := by size_fits) :
    wpAny (model rw_pb0183_01.row.prog w) A (call (.ref 61) rest) Q E s := by
  obtain ⟨hh, g, d, t, os⟩ := s
  have hC : hh.get? 61 = _ := X 61 _ rfl
  have call := f_call X
  have typ := f_typ X
  have made := f_madeHere2 X
  refine wpAny_call (codeAny_of_tree ?_)
  show wpAny _ _ (callAny (.ref 61) _) _ _ _
  refine nd_load hC ?_
  show wpAny _ _ (callAny.viaDunder (.ref 61) _) _ _ _
  unfold callAny.viaDunder
  refine wpAny_bind (call.at ?_)
  dsimp only
  rw [tc_bind]
  refine wpAny_bind (wpAny_pure (wpAny_bind (wpAny_pure ?_)))
  refine wpAny_pure (a := Fin.again (.call (.builtin "type.__call__") ⟨.ref 61 :: rest, []⟩)) (And.intro rfl ?_)
  refine codeAny_call_builtin_at (Code.quiet_builtin _ (by decide +kernel)) entry_typeCall (check_slot tc_kind tc_split typ (tc_args _ _ _) ?_)
  unfold Builtin.«type.__call__»
  have hm : Looks (model rw_pb0183_01.row.prog w) hh (mroOf (.ref 61)) [.ref 61, .ref 48, .type "Exception", .type "BaseException", .type "object"] := Looks.of_peek X (by kernel_rfl)
  repeat (first | with_reducible refine wpAny_call ?_ | lk)
  refine codeAny_call_builtin_code (Code.quiet_builtin _ PySem.F.excBase_Exception.quiet) ((f_new X rest).here (fault_new X ?_ hrest))
  have k : ∀ b o, hh.get? b = some o → ((hh.push { cls := .type "tuple", data := .seq rest.toArray }).push (faultObj hh.objs.size)).get? b = some o := fun b o e => Heap.get?_push_of_some _ (Heap.get?_push_of_some _ e)
  have X' : (KK w.params).In ((hh.push { cls := .type "tuple", data := .seq rest.toArray }).push (faultObj hh.objs.size)) := X.keeps k
  have hx : ((hh.push { cls := .type "tuple", data := .seq rest.toArray }).push (faultObj hh.objs.size)).get? (hh.objs.size + 1) = some (faultObj hh.objs.size) := by heap_get
  have t1 : Looks (model rw_pb0183_01.row.prog w) ((hh.push { cls := .type "tuple", data := .seq rest.toArray }).push (faultObj hh.objs.size)) (typeOf (.ref (hh.objs.size + 1))) (.ref 61) := (Looks.ld hx).andThen .now
  have s1 := f_subSelf X'
  have i1 := f_init X'
  have b1 := f_bind X' (.ref (hh.objs.size + 1))
  show wpAny _ _ _ _ _ _
  unfold isInstance callSpecial? specialOf
  repeat (first | with_reducible refine wpAny_call ?_ | lk)
  refine codeAny_mono hq fun r s' z => ?_
  rcases r with e | (v | _ | _ | _) <;> first | exact z | exact z.elim | skip
  refine xE0_2 z ?_; (try clear z); intro zq1' z; subst zq1'
  exact wpAny_pure (wpAny_pure z)
end
end
section
open PySem.Calls
section
variable {w : World} {A : Around} {E : Value → Shared → Prop}
theorem ms_entry_get : entryFor table "wrapper_descriptor.__get__" = some Builtin.«wrapper_descriptor.__get__» := entryFor_of_tree (by kernel_rfl)
theorem ms_get {x t : Addr} {s : Shared} {Q : Value → Shared → Prop} (X : (KK w.params).In s.heap) (hx : s.heap.get? x = some (faultObj t))
    (hq : Q (.ref s.heap.objs.size) { s with heap := s.heap.push { cls := .type "method-wrapper", data := .fields #[.builtin "Exception.__init__", .ref x] } }) :
    wpAny (model rw_pb0183_01.row.prog w) A (call (.builtin "wrapper_descriptor.__get__") [.builtin "Exception.__init__", .ref x, .ref 61]) Q E s := by
  obtain ⟨hh, g, d, t, os⟩ := s
  have hC : hh.get? 61 = _ := X 61 _ rfl
  have e1 : (".".intercalate ("Exception.__init__".cutAt '.').dropLast) = "Exception" := by decide +kernel
  have L2 : Looks (model rw_pb0183_01.row.prog w) hh (checkBuiltinCall "wrapper_descriptor.__get__" ⟨[.builtin "Exception.__init__", .ref x, .ref 61], []⟩) () := Looks.of_peek X (by kernel_rfl)
  have L3 : Looks (model rw_pb0183_01.row.prog w) hh (typeOf (.ref x)) (.ref 61) := (Looks.ld hx).andThen .now
  refine wpAny_call (codeAny_call_builtin (by decide +kernel) ms_entry_get (L2.here ?_))
  unfold Builtin.«wrapper_descriptor.__get__»
  unfold isInstance at *
  repeat (first | rw [e1] | lk)
  exact hq
noncomputable abbrev mwObj (x : Addr) : Obj := { cls := .type "method-wrapper", data := .fields #[.builtin "Exception.__init__", .ref x] }
theorem ms_ga {so x t₀ : Addr} {tk : Tok} {s : Shared} {Q : PySem.Fin → Shared → Prop} (X : (KK w.params).In s.heap) (hx : s.heap.get? x = some (faultObj t₀)) (hso : s.heap.get? so = some (ks_superObj 48 x 61))
    (hq : Q (.done (.ret (.ref s.heap.objs.size))) { s with heap := s.heap.push (mwObj x) }) :
    wpAny (model rw_pb0183_01.row.prog w) A (Builtin.«super.__getattribute__» ⟨[.ref so, .str "__init__" tk], []⟩) Q E s := by
  have hxC : x ≠ 61 := by
    rintro rfl
    have hC := X 61 _ rfl
    rw [hx] at hC
    cases hC
  obtain ⟨hh, g, d, t, os⟩ := s
  have hC : hh.get? 61 = _ := X 61 _ rfl
  have L1 : Looks (model rw_pb0183_01.row.prog w) hh (opaqueClassAbove (.ref 61)) none := Looks.of_peek X (by kernel_rfl)
  have hm : Looks (model rw_pb0183_01.row.prog w) hh (mroOf (.ref 61)) [.ref 61, .ref 48, .type "Exception", .type "BaseException", .type "object"] := Looks.of_peek X (by kernel_rfl)
  have hl : (([.ref 61, .ref 48, .type "Exception", .type "BaseException", .type "object"] : List Value).dropWhile (· != .ref 48)).drop 1 = [.type "Exception", .type "BaseException", .type "object"] := by decide +kernel
  have L3 : Looks (model rw_pb0183_01.row.prog w) hh (classOwn (.type "Exception") "__init__") (some (.builtin "Exception.__init__")) := Looks.of_peek X (by kernel_rfl)
  have L4 : Looks (model rw_pb0183_01.row.prog w) hh (typeOf (.builtin "Exception.__init__")) (.type "wrapper_descriptor") := Looks.of_peek X (by kernel_rfl)
  have L5 : Looks (model rw_pb0183_01.row.prog w) hh (typeLookup (.type "wrapper_descriptor") "__get__") (some (.builtin "wrapper_descriptor.__get__")) := Looks.of_peek X (by kernel_rfl)
  have hne : (Value.ref x == Value.ref 61) = false := by simp [hxC]
  have hdt : (ks_superObj 48 x 61 : Obj).data = .fields #[.ref 48, .ref x, .ref 61] := rfl
  have f0 : (#[.ref 48, .ref x, .ref 61] : Array Value)[0]? = some (.ref 48) := rfl
  have f1 : (#[.ref 48, .ref x, .ref 61] : Array Value)[1]? = some (.ref x) := rfl
  have f2 : (#[.ref 48, .ref x, .ref 61] : Array Value)[2]? = some (.ref 61) := rfl
  unfold Builtin.«super.__getattribute__»
  repeat (first
    | (with_reducible refine wpAny_field hso hdt f0 ?_) | (with_reducible refine wpAny_field hso hdt f1 ?_) | (with_reducible refine wpAny_field hso hdt f2 ?_)
    | (with_reducible refine ks_wpAny_notOpaque L1 ?_)
    | (with_reducible refine Looks.at hm ?_; rw [hl])
    | (refine ms_get (s := ⟨hh, g, d, t, os⟩) X hx ?_)
    | (simp only [hne, Bool.or_false, Bool.false_eq_true, if_false])
    | rw [List.forIn_cons]
    | lk)
  all_goals exact hq
theorem ms_getMethod {so x t₀ : Addr} {s : Shared} {pl : Sem Bool} {Q : Value × List Value → Shared → Prop} (X : (KK w.params).In s.heap) (hx : s.heap.get? x = some (faultObj t₀)) (hso : s.heap.get? so = some (ks_superObj 48 x 61))
    (hq : Q (.ref s.heap.objs.size, []) { s with heap := s.heap.push (mwObj x), toks := s.toks + 1 }) :
    wpAny (model rw_pb0183_01.row.prog w) A (getMethod (.ref so) "__init__" pl) Q E s := by
  have hlk := F.ks_slot_super_ga.lookup
  have hcan := F.ks_canon_super_ga
  have hT : ∀ t', Shared.TypeIs { s with toks := t' } (.ref so) "super" := fun _ => ⟨_, hso, rfl⟩
  have hT0 : s.TypeIs (.ref so) "super" := hT s.toks
  unfold getMethod
  refine wpAny_bind (wpAny_specialOf hT0 hlk ?_)
  show wpAny _ _ (if (Manifest.canonical "super.__getattribute__" != "object.__getattribute__") = true then _ else _) _ _ _
  rw [if_pos hcan]
  unfold getAttr getAttrBy
  refine wpAny_bind (wpAny_bind (wpAny_mkText (wpAny_holding (wpAny_bind (wpAny_typeOf (hT _) (wpAny_bind (wpAny_of_eq hlk ?_)))))))
  show wpAny _ _ (getAttrByItsOwn (.ref so) (.str "__init__" s.toks) (.type "super") (.builtin "super.__getattribute__") true false) _ _ _
  unfold getAttrByItsOwn hookBefore callGetattribute boundAndCalled
  refine wpAny_bind (wpAny_of_eq (show (if onTheHeap (.type "super") then typeLookup (.type "super") "__getattr__" else pure none) = pure none from rfl) ?_)
  refine wpAny_bind (wpAny_attempt (wpAny_holding ?_))
  show wpAny _ _ (bindSpecial (.builtin "super.__getattribute__") (.ref so) >>= _) _ _ _
  refine wpAny_bind (wpAny_of_eq (F.ks_slot_super_ga.bind _) ?_)
  refine wpAny_mono (Q := fun v s' => v = .ref s.heap.objs.size ∧ s' = { s with heap := s.heap.push (mwObj x), toks := s.toks + 1 }) (E := fun _ _ => False)
    (wpAny_call_entry F.ks_slot_super_ga (hT _) F.ks_entry_super_ga (ms_ga (s := { s with toks := s.toks + 1 }) X hx hso ⟨_, rfl, rfl, rfl⟩) (F.ks_gaArgs_super _ _)) (fun v s' hv => ?_) fun _ _ z => z.elim
  refine xE0_2 hv ?_; (try clear hv); intro zq1' zq2'; subst zq1'; subst zq2'
  exact wpAny_pure (wpAny_pure hq)
theorem mw_run {x t₀ : Addr} {v : Value} {s : Shared} {Q : PySem.Fin → Shared → Prop} (hx : s.heap.get? x = some (faultObj t₀))
    (hq : Q (.done (.ret .none)) { s with heap := (s.heap.push { cls := .type "tuple", data := .seq #[v] }).update x (Obj.mapFields (·.setIfInBounds 0 (.ref s.heap.objs.size))) }) :
    wpAny (model rw_pb0183_01.row.prog w) A (Builtin.«BaseException.__init__» ⟨[.ref x, v], []⟩) Q E s := by
  have hx₁ := Heap.get?_push_of_some { cls := .type "tuple", data := .seq #[v] } hx
  have f0 : (#[.ref t₀, .none, .none, .none, .bool false, .none] : Array Value)[0]? = some (.ref t₀) := rfl
  unfold Builtin.«BaseException.__init__»
  refine wpAny_bind ?_
  unfold newTuple Builtin.BaseException.bexcPut
  repeat (first | (with_reducible refine wpAny_field hx₁ rfl f0 ?_) | (with_reducible refine wpAny_setField hx₁ rfl (by decide) ?_) | wp_step | lk)
  exact hq
end
end
section
open PySem.Calls
section
variable {w : World} {A : Around} {E : Value → Shared → Prop}
theorem es_slot {h : Heap} (X : (KK w.params).In h) : Looks (model rw_pb0183_01.row.prog w) h (typeLookup (.ref 61) "__setattr__") (some (.builtin "object.__setattr__")) := Looks.of_peek X (by kernel_rfl)
theorem es_entry : entryFor table "object.__setattr__" = some Builtin.«object.__setattr__» := entryFor_of_tree (by kernel_rfl)
theorem es_what {h : Heap} (X : (KK w.params).In h) : Looks (model rw_pb0183_01.row.prog w) h (typeLookup (.ref 61) "what") none := Looks.of_peek X (by kernel_rfl)
theorem es_at {h : Heap} (X : (KK w.params).In h) : Looks (model rw_pb0183_01.row.prog w) h (typeLookup (.ref 61) "at") none := Looks.of_peek X (by kernel_rfl)
theorem f_subObj {h : Heap} (X : (KK w.params).In h) : Looks (model rw_pb0183_01.row.prog w) h (isSubtype (.ref 61) (.type "object")) true := Looks.of_peek X (by kernel_rfl)
set_option maxHeartbeats 2000000 in
theorem es_set {x : Addr} {ox : Obj} {vs : Array Value} {s : Shared} {name : Str} {v : Value} {Q : Unit → Shared → Prop} (X : (KK w.params).In s.heap) (hx : s.heap.get? x = some ox) (hc : ox.cls = .ref 61) (hd : ox.data = .fields vs)
    (hn : Looks (model rw_pb0183_01.row.prog w) s.heap (typeLookup (.ref 61) name) none)
    (hq : wpAny (model rw_pb0183_01.row.prog w) A.in1 (Builtin.«object.__setattr__» ⟨[.ref x, .str name s.toks, v], []⟩) (fun f s' => f = .done (.ret .none) ∧ Q () s') E { s with toks := s.toks + 1 }) :
    wpAny (model rw_pb0183_01.row.prog w) A (setAttr (.ref x) name v) Q E s := by
  obtain ⟨hh, g, d, t, os⟩ := s
  have L1 := es_slot X
  have L2 : Looks (model rw_pb0183_01.row.prog w) hh (typeOf (.ref x)) (.ref 61) := hc ▸ (Looks.ld hx).andThen .now
  have L3 : Looks (model rw_pb0183_01.row.prog w) hh (bindSpecial (.builtin "object.__setattr__") (.ref x)) (.builtin "object.__setattr__", [.ref x]) := Looks.of_peek X (by kernel_rfl)
  unfold setAttr callSpecial? specialOf
  repeat (first | with_reducible refine wpAny_call ?_ | lk)
  refine codeAny_call_builtin (by decide +kernel) es_entry (check_slot (i := "object.__setattr__") (owner := "object") (n := "__setattr__") (by decide +kernel) (by decide +kernel) (L2.andThen (f_subObj X)) (PySem.F.args_object_setattr_3 _ _ _) ?_)
  refine wpAny_mono hq (fun f s' z => ?_) fun _ _ z => z
  refine xE0_2 z ?_; (try clear z); intro zq1' z; subst zq1'
  exact wpAny_pure (wpAny_pure z)
set_option maxHeartbeats 2000000 in
theorem es_new {x : Addr} {vs : Array Value} {s : Shared} {name : Str} {v : Value} {tk : Tok} {Q : PySem.Fin → Shared → Prop} (X : (KK w.params).In s.heap) (hx : s.heap.get? x = some { cls := .ref 61, data := .fields vs })
    (hn : Looks (model rw_pb0183_01.row.prog w) s.heap (typeLookup (.ref 61) name) none)
    (hq : ∀ h' dx, s.heap.objs.size = dx → (∀ b o, b ≠ x → s.heap.get? b = some o → h'.get? b = some o) → h'.get? x = some { cls := .ref 61, dict := some dx, data := .fields vs } →
      h'.get? dx = some (dictOf [⟨PyData.keyHash w.params name, .str name s.toks, v⟩] 1) → h'.objs.size = s.heap.objs.size + 1 → Q (.done (.ret .none)) { s with heap := h', toks := s.toks + 1 }) :
    wpAny (model rw_pb0183_01.row.prog w) A (Builtin.«object.__setattr__» ⟨[.ref x, .str name tk, v], []⟩) Q E s := by
  obtain ⟨hh, g, d, t, os⟩ := s
  have L2 : Looks (model rw_pb0183_01.row.prog w) hh (typeOf (.ref x)) (.ref 61) := (Looks.ld hx).andThen .now
  have L5 : Looks (model rw_pb0183_01.row.prog w) hh (typeOf (.ref x) >>= fun tp => mroOf tp >>= fun l => refuseLoop (.ref x) "__setattr__" l) () := L2.andThen (Looks.of_peek X (by kernel_rfl))
  have hC : hh.get? 61 = _ := X 61 _ rfl
  have L6 : Looks (model rw_pb0183_01.row.prog w) hh (Builtin.ObjectAttr.refuseIfOverridden (.ref x) "__setattr__") () := by rw [refuse_eq]; exact L5
  clear L5
  unfold Builtin.«object.__setattr__»
  repeat lk
  have hx₁ := Heap.get?_push_of_some { cls := .type "dict", data := .dict #[] } hx
  have hxs : x ≠ hh.objs.size := Nat.ne_of_lt (Heap.lt_size hx)
  refine wpAny_update' hx₁ ?_
  refine wpAny_pure (a := some hh.objs.size) ?_
  show wpAny _ _ (Builtin.ObjectAttr.storeInDict hh.objs.size (.str name tk) name v) _ _ _
  have hgd : ((hh.push { cls := .type "dict", data := .dict #[] }).update x fun o => { cls := o.cls, dict := some hh.objs.size, data := o.data, slots := o.slots }).get? hh.objs.size
      = some { cls := .type "dict", data := .dict #[] } := (Heap.get?_update_ne _ _ _ _ hxs.symm).trans (Heap.get?_push_at rfl rfl)
  have hgx : ((hh.push { cls := .type "dict", data := .dict #[] }).update x fun o => { cls := o.cls, dict := some hh.objs.size, data := o.data, slots := o.slots }).get? x
      = some { cls := .ref 61, dict := some hh.objs.size, data := .fields vs } := Heap.get?_update_self _ hx₁ rfl
  unfold Builtin.ObjectAttr.storeInDict Builtin.ObjectAttr.newKeyGuard nsSet
  refine wpAny_bind (wpAny_pure (wpAny_bind ?_))
  refine wpAny_bind (wpAny_bind (wpAny_askSetting (wpAny_pure (wpAny_bind (wpAny_mkText (wpAny_bind (wpAny_loadPart hgd ?_)))))))
  dsimp only
  rw [if_neg (by rw [aRefKeyMayBeTheName_eq]; simp [aRefKeyMayBeTheNameByArray])]
  have e1 : Obj.putName name (PyData.keyHash w.params name) (.str name t) v { cls := .type "dict", data := .dict #[] } = dictOf [⟨PyData.keyHash w.params name, .str name t, v⟩] 1 := putName_dict name _ _ v [] 0
  refine wpAny_updatePart hgd ?_
  have hgd2 := Heap.get?_update_self (h := (hh.push { cls := .type "dict", data := .dict #[] }).update x fun o => { cls := o.cls, dict := some hh.objs.size, data := o.data, slots := o.slots }) (Obj.putName name (PyData.keyHash w.params name) (.str name t) v) hgd (by rw [e1]; rfl)
  rw [e1] at hgd2
  refine wpAny_bind (wpAny_lookBehind hgd2 rfl ?_)
  refine wpAny_pure (hq _ _ rfl (fun b o hb ho => ?_) ?_ hgd2 ?_)
  · have hlt : b ≠ hh.objs.size := Nat.ne_of_lt (Heap.lt_size ho)
    rw [Heap.get?_update_ne _ _ _ _ hlt, Heap.get?_update_ne _ _ _ _ hb]
    exact Heap.get?_push_of_some _ ho
  · rw [Heap.get?_update_ne _ _ _ _ hxs]; exact hgx
  · rw [Heap.size_after_update, Heap.size_after_update, Heap.size_push]
set_option maxHeartbeats 2000000 in
theorem es_more {x dx : Addr} {vs : Array Value} {s : Shared} {name : Str} {v : Value} {tk : Tok} {es : List DictEntry} {n : Nat} {Q : PySem.Fin → Shared → Prop} (X : (KK w.params).In s.heap) (hx : s.heap.get? x = some { cls := .ref 61, dict := some dx, data := .fields vs })
    (hdx : s.heap.get? dx = some (dictOf es n)) (hl : (getL name es).isSome = true) (hz : (putL name (PyData.keyHash w.params name) (.str name s.toks) v es).length ≤ 1000)
    (hn : Looks (model rw_pb0183_01.row.prog w) s.heap (typeLookup (.ref 61) name) none)
    (hq : ∀ h', (∀ b o, b ≠ dx → s.heap.get? b = some o → h'.get? b = some o) →
      h'.get? dx = some (dictOf (putL name (PyData.keyHash w.params name) (.str name s.toks) v es) (putN name es n)) → h'.objs.size = s.heap.objs.size → Q (.done (.ret .none)) { s with heap := h', toks := s.toks + 1 }) :
    wpAny (model rw_pb0183_01.row.prog w) A (Builtin.«object.__setattr__» ⟨[.ref x, .str name tk, v], []⟩) Q E s := by
  obtain ⟨hh, g, d, t, os⟩ := s
  have L2 : Looks (model rw_pb0183_01.row.prog w) hh (typeOf (.ref x)) (.ref 61) := (Looks.ld hx).andThen .now
  have L5 : Looks (model rw_pb0183_01.row.prog w) hh (typeOf (.ref x) >>= fun tp => mroOf tp >>= fun l => refuseLoop (.ref x) "__setattr__" l) () := L2.andThen (Looks.of_peek X (by kernel_rfl))
  have hC : hh.get? 61 = _ := X 61 _ rfl
  have L6 : Looks (model rw_pb0183_01.row.prog w) hh (Builtin.ObjectAttr.refuseIfOverridden (.ref x) "__setattr__") () := by rw [refuse_eq]; exact L5
  clear L5
  unfold Builtin.«object.__setattr__»
  have fin : wpAny (model rw_pb0183_01.row.prog w) A (Builtin.ObjectAttr.storeInDict dx (.str name tk) name v) Q E ⟨hh, g, d, t, os⟩ := by
    unfold Builtin.ObjectAttr.storeInDict Builtin.ObjectAttr.newKeyGuard nsSet
    refine wpAny_bind (wpAny_pure (wpAny_bind ?_))
    refine wpAny_bind (wpAny_bind (wpAny_askSetting (wpAny_pure (wpAny_bind (wpAny_mkText (wpAny_bind (wpAny_loadPart hdx ?_)))))))
    dsimp only
    have c : (!(es.toArray).any (·.key.isStr name) && (es.toArray).any (·.refKey)) = false := by
      unfold getL at hl
      rw [← Array.any_toList, ← Array.any_toList]
      split at hl
      · rename_i en he
        have : es.any (·.key.isStr name) = true := List.any_eq_true.mpr ⟨en, List.mem_of_find?_eq_some he, List.find?_some (p := fun e : DictEntry => e.key.isStr name) he⟩
        simp [this]
      · split at hl
        · cases hl
        · rename_i hr
          simp only [Bool.not_eq_true] at hr
          simp [hr]
    rw [if_neg (by rw [aRefKeyMayBeTheName_eq]; unfold aRefKeyMayBeTheNameByArray; rw [c]; decide)]
    refine wpAny_updatePart hdx ?_
    have hgd2 := Heap.get?_update_self (h := hh) (Obj.putName name (PyData.keyHash w.params name) (.str name t) v) hdx (by rw [putName_dict]; rfl)
    rw [putName_dict] at hgd2
    refine wpAny_bind (wpAny_lookBehind hgd2 (pastItsLine_dict (by
      rw [List.size_toArray]
      have : sizeLine = 16777216 := by decide
      dsimp only at hz
      omega)) ?_)
    exact wpAny_pure (hq _ (fun b o hb ho => (Heap.get?_update_ne _ _ _ _ hb).trans ho) hgd2 (Heap.size_after_update _ _ _))
  repeat (first | (with_reducible exact fin) | lk)
end
end
section
open PySem.Calls
section
variable {w : World} {A : Around} {E : Value → Shared → Prop}
theorem news_two {g h : Heap} {L x dx : Addr} {ox od : Obj} (hx : h.get? x = some ox) (hd : h.get? dx = some od) (h1 : x ≠ L) (h2 : g.get? x = none) (h3 : dx ≠ L) (h4 : g.get? dx = none) : News g L h [(x, ox), (dx, od)] := by
  intro q hq
  rcases List.mem_cons.mp hq with rfl | hq
  · exact xI0_3 hx h1 h2
  rcases List.mem_cons.mp hq with rfl | hq
  · exact xI0_3 hd h3 h4
  · cases hq
theorem callWith_mw {M : Model} {s : Shared} {Q : Value → Shared → Prop} {mw x : Addr} {pos : Pos} {env : Env} {first : List Value} {e : Expr} {rest : List Expr}
    (h : wpAny M A (spliced (backTo pos (starEach (e :: rest) env))) (fun vs s₁ => s₁.heap.get? mw = some (mwObj x) ∧ wpAny M A (call (.ref mw) (first ++ vs)) Q E s₁) E s)
    (he : starEach (e :: rest) env = (false, eval e env) :: starEach rest env := by rfl) (hplain : (backTo pos (starEach rest env)).any (·.1) = false := by rfl) :
    wpAny M A (callWith pos (.ref mw) first (backTo pos (starEach (e :: rest) env)) []) Q E s := by
  rw [he] at h ⊢
  refine callWith_of (P := fun h => h.get? mw = some (mwObj x)) (by show ((false || (backTo pos (starEach rest env)).any (·.1)) || false) = false; rw [hplain]; rfl) (fun h hm => ⟨.machine, .inr (.inl rfl), (Looks.ld (part := none) hm).andThen ?_⟩) (evalArgs_plain h)
  exact .now
theorem mw_call {mw x t₀ : Addr} {v : Value} {s : Shared} {Q : Value → Shared → Prop} (hm : s.heap.get? mw = some (mwObj x)) (hx : s.heap.get? x = some (faultObj t₀)) (X : (KK w.params).In s.heap)
    (hq : Q .none { s with heap := (s.heap.push { cls := .type "tuple", data := .seq #[v] }).update x (Obj.mapFields (·.setIfInBounds 0 (.ref s.heap.objs.size))) }) :
    wpAny (model rw_pb0183_01.row.prog w) A (call (.ref mw) [v]) Q E s := by
  have L2 : Looks (model rw_pb0183_01.row.prog w) s.heap (typeOf (.ref x)) (.ref 61) := (Looks.ld hx).andThen .now
  have L3 : Looks (model rw_pb0183_01.row.prog w) s.heap (isInstance (.ref x) (.type "Exception")) true := L2.andThen (f_subExc X)
  refine wpAny_call (codeAny_of_tree ?_)
  show wpAny _ _ (callAny (.ref mw) _) _ _ _
  refine wpAny_bind (wpAny_load hm ?_)
  show wpAny _ _ (checkBoundCall "Exception.__init__" ⟨[.ref x, v], []⟩ >>= fun _ => again (.builtin "Exception.__init__" ⟨[.ref x, v], []⟩)) _ _ _
  refine wpAny_bind ?_
  have FN := PySem.F.excBase_Exception
  have e1 := FN.initKind
  have e2 := FN.initRow
  simp only [checkBoundCall, e1, e2]
  obtain ⟨hh, g, d, t, os⟩ := s
  have hC : hh.get? 61 = _ := X 61 _ rfl
  repeat lk
  refine (⟨Code.quiet_builtin (id := "Exception.__init__") _ (by decide +kernel), codeAny_builtin PySem.F.excBase_Exception.initEntry (mw_run hx ?_)⟩ : _ ∧ _)
  exact hq
set_option maxHeartbeats 4000000 in
theorem fault_init {p : Program} {loose : List Str} {mean : ExcName → Option Value} {mg mb : Str → Option Value} {H : Heap} {x t₀ : Addr} {what : Str} {pl : Int} {t1 t2 : Tok} {s : Shared} {R : Result → Shared → Prop}
    (X₀ : (KK w.params).In H) (T₀ : Top p loose mean mg mb H) (st : H.StaysIn s.heap) (hxn : H.get? x = none) (hx : s.heap.get? x = some (faultObj t₀)) (hd : A.depth < recursionLimit)
    (h : ∀ h' dx tk', (∀ b o, b ≠ x → s.heap.get? b = some o → h'.get? b = some o) → s.heap.objs.size ≤ h'.objs.size → Fault h' x x dx what pl → R (.ok (.ret .none)) { s with heap := h', toks := tk' }) :
    codeAny (model rw_pb0183_01.row.prog w) A (.call (.ref 38) ⟨[.ref x, .str what t1, .int pl t2], []⟩) R s := by
  have Xs : (KK w.params).In s.heap := X₀.keeps st
  have h38 : (KK w.params).lookup 38 = some ⟨_, _, .func ⟨_, _, _, .stmts _, _, _, _, _, _, _, _, _, _, _, _⟩, _⟩ := rfl
  revert Xs h38
  k_fill
  intro Xs h38
  refine ks_codeAny_call_defAt (binds := [(Str.ofString "self", Value.ref x), (Str.ofString "what", Value.str what t1), (Str.ofString "at", Value.int pl t2)]) (hd) (Xs 38 _ h38) rfl (T₀.nolimit.keeps st) (codeRec_of (cd := .ref 37) (q := Str.ofString "ShapeError.__init__") Xs rfl) rfl (binds_K (T := 30) Xs rfl rfl rfl rfl rfl) (by decide) (locs rfl) (fun h₁ hns hk₁ => ?_)
  have stg : H.StaysIn (hideAll s.heap [x]) := fun b o q => hideAll_get _ (st b o q) fun hm => by
    rw [List.mem_singleton.mp hm, hxn] at q; cases q
  have X : (KK w.params).In (hideAll s.heap [x]) := X₀.keeps stg
  have T : Top p loose mean mg mb (hideAll s.heap [x]) := T₀.keeps stg
  have F : Fr (hideAll s.heap [x]) s.heap.objs.size h₁ _ := ⟨hns, fun b o q => hk₁ b o (of_hideAll _ q), Nat.le_of_eq (hideAll_size _ _)⟩
  have N : News (hideAll s.heap [x]) s.heap.objs.size h₁ [(x, faultObj t₀)] := fun q hq => by
    rw [List.mem_singleton.mp hq]
    exact xI0_3 (hk₁ _ _ hx) (Nat.ne_of_lt (Heap.lt_size hx)) (hideAll_none _ (.head _))
  refine ks_wpAt_execs_cons (ks_wpAt_Expr_any (ks_wpAt_MethodCall ?_))
  refine ks_node (f := 38) (cda := 37) (cc := 25) F X N T h38 (by rfl) (by rfl) (⟨hk₁ _ _ hx, rfl, rfl, trivial⟩ : InstAt h₁ x (faultObj t₀) 61 none) (by rfl) (by rfl) (by first | rfl | decide +kernel) (by rfl) (by rfl) (by rfl) (by rfl) (by decide) (by rfl) (by rfl) (by rfl) (by rfl) (by decide +kernel) (by first | boot_by_name | rfl | kernel_rfl) ?_
  intro so h' F' N' l1
  refine ms_getMethod (t₀ := t₀) (X.keeps F'.keep) (N'.get (.tail _ (.head _))) (N'.get (.head _)) ?_
  have F2 := F'.push (mwObj x)
  have N2 := N'.push F' (mwObj x)
  refine callWith_mw (x := x) ?_
  walk1
  refine nameX_L F2 rfl ?_
  walk1
  refine ⟨N2.get (.head _), ?_⟩
  refine mw_call (t₀ := t₀) (N2.get (.head _)) (N2.get (.tail _ (.tail _ (.head _)))) (X.keeps F2.keep) ?_
  have F3 := F2.push { cls := .type "tuple", data := .seq #[.str what t1] }
  have N3 := N2.push F2 { cls := .type "tuple", data := .seq #[.str what t1] }
  have b1 : @LT.lt Nat _ x so := l1 (x, faultObj t₀) (.head _)
  have b2 : @LT.lt Nat _ so h'.objs.size := Heap.lt_size (N'.get (.head _))
  have b3 : (h'.push (mwObj x)).objs.size = h'.objs.size + 1 := Heap.size_push _ _
  obtain ⟨F4, N4⟩ := news_upd (d := x) (f := Obj.mapFields (·.setIfInBounds 0 (.ref (h'.push (mwObj x)).objs.size))) (o' := faultObj (h'.push (mwObj x)).objs.size) (pre := [_, _, _]) (post := []) F3 N3 (by
    intro q hq
    rcases List.mem_cons.mp hq with rfl | hq
    · exact neN (by dsimp only; omega)
    rcases List.mem_cons.mp hq with rfl | hq
    · exact neN (by dsimp only; omega)
    rcases List.mem_cons.mp hq with rfl | hq
    · exact neN (by dsimp only; omega)
    · cases hq) (fun _ hq => nomatch hq) rfl rfl
  refine ks_wpAt_execs_cons (ks_wpAt_Assign_Attr (_root_.PySem.wpAt_of_wpAny ?_))
  refine nameX_L F4 rfl ?_
  refine nameX_L F4 rfl ?_
  have hx4 := N4.get (.tail _ (.tail _ (.tail _ (.head _))))
  refine es_set (X.keeps F4.keep) hx4 rfl rfl (es_what (X.keeps F4.keep)) (es_new (X.keeps F4.keep) hx4 (es_what (X.keeps F4.keep)) fun h5 dx edx k5 hx5 hd5 sz5 => ⟨rfl, ?_⟩)
  have nL : s.heap.objs.size ≠ x := neN (Nat.ne_of_gt (Heap.lt_size hx))
  have F5 : Fr (hideAll s.heap [x]) s.heap.objs.size h5 (fun y => List.lookup y [(Str.ofString "self", Value.ref x), (Str.ofString "what", Value.str what t1), (Str.ofString "at", Value.int pl t2)].reverse) := by
    refine xE3_2 (F4.ns) ?_; intro oL es ep hoL r
    exact ⟨⟨oL, es, ep, k5 _ _ nL hoL, r⟩, fun b o q => k5 b o (fun e => by rw [e, hideAll_none [x] (.head _)] at q; cases q) (F4.keep b o q), F4.above⟩
  have bx : @LT.lt Nat _ x dx := edx ▸ Heap.lt_size hx4
  have bL : @LT.lt Nat _ s.heap.objs.size dx := edx ▸ F4.ns.lt
  have N5 := news_two (g := hideAll s.heap [x]) (L := s.heap.objs.size) hx5 hd5 nL.symm (hideAll_none [x] (.head _)) (neN (Nat.ne_of_gt bL)) (by
    cases q : (hideAll s.heap [x]).get? dx with
    | none => rfl
    | some o => exact absurd (Nat.lt_of_lt_of_eq (Heap.lt_size (F4.keep _ _ q)) edx) (Nat.lt_irrefl _))
  clear N4 F4 N3 F3 N2 F2 N' F'
  refine ks_wpAt_execs_cons (ks_wpAt_Assign_Attr (_root_.PySem.wpAt_of_wpAny ?_))
  refine nameX_L F5 rfl ?_
  refine nameX_L F5 rfl ?_
  refine es_set (X.keeps F5.keep) hx5 rfl rfl (es_at (X.keeps F5.keep)) (es_more (X.keeps F5.keep) hx5 hd5 rfl (Nat.le_of_ble_eq_true rfl) (es_at (X.keeps F5.keep)) fun h6 k6 hd6 sz6 => ⟨rfl, ?_⟩)
  have F6 : Fr (hideAll s.heap [x]) s.heap.objs.size h6 (fun y => List.lookup y [(Str.ofString "self", Value.ref x), (Str.ofString "what", Value.str what t1), (Str.ofString "at", Value.int pl t2)].reverse) := by
    refine xE3_2 (F5.ns) ?_; intro oL es ep hoL r
    exact ⟨⟨oL, es, ep, k6 _ _ (neN (Nat.ne_of_lt bL)) hoL, r⟩, fun b o q => k6 b o (fun e => by
      have := (N5 _ (.tail _ (.head _))).2.2
      dsimp only at this
      rw [e, this] at q; cases q) (F5.keep b o q), F5.above⟩
  refine _root_.PySem.wpAt_of_wpAny (wpAny_pure ?_)
  refine h h6 dx _ (fun b o hb q => F6.keep b o (hideAll_get [x] q fun hm => hb (List.mem_singleton.mp hm))) (Nat.le_of_lt F6.ns.lt) ⟨_, _, _, ⟨k6 x _ (neN (Nat.ne_of_lt bx)) hx5, rfl, rfl, rfl, rfl⟩, .inl rfl, _, _, _, _, _, hd6, rfl, rfl, rfl⟩
end
end
section
open PySem.Calls
section
variable {w : World} {A : Around} {E : Value → Shared → Prop} {s : Shared} {env : Env}
def FaultMade (w : World) (E : Value → Shared → Prop) (v : Value) (s : Shared) : Prop := ∃ x dx what pl, v = .ref x ∧ Fault s.heap x x dx what pl ∧ (KK w.params).In s.heap ∧ E v s
theorem raise_of {e : PySem.Expr} {pos : Pos} {Q : Flow → Shared → Prop} (hh : A.handled = none) (h : wpAny (model rw_pb0183_01.row.prog w) A (eval e env) (FaultMade w E) E s) :
    wpAny (model rw_pb0183_01.row.prog w) A (exec (.Raise (some e) none pos) env) Q E s := by
  rw [arm_exec_Raise]
  refine wpAny_bind (wpAny_standAt ?_)
  show wpAny _ _ (raiseStmt env (some (eval e env >>= fun v => standAt pos >>= fun _ => pure v)) none) _ _ _
  unfold raiseStmt
  refine wpAny_bind (wpAny_bind (wpAny_mono h (fun v s₁ h₁ => wpAny_bind (wpAny_standAt (wpAny_pure ?_))) fun _ _ z => z))
  refine xE4_4 h₁ ?_; (try clear h₁); intro x dx what pl zq1' zq2' X hE; subst zq1'; refine xE3_3 zq2' ?_; clear zq2'; intro oe vs tb zq3' ht hD; refine xE0_5 zq3' ?_; clear zq3'; intro he hcl hdi hd h1
  obtain rfl : tb = .none := by
    rcases ht with ht | ⟨_, q, _⟩
    · exact ht
    · exact absurd rfl q
  obtain ⟨hh', g, d, t, os⟩ := s₁
  obtain ⟨c0, d0, dt0, sl0⟩ := oe
  dsimp only at hcl hdi hd
  subst hcl hdi hd
  have L2 : Looks (model rw_pb0183_01.row.prog w) hh' (typeOf (.ref x)) (.ref 61) := (Looks.ld he).andThen .now
  have L3 := f_subBase X
  have L4 : Looks (model rw_pb0183_01.row.prog w) hh' (typeOf (.ref 61)) (.type "type") := Looks.of_peek X (by kernel_rfl)
  have L5 : Looks (model rw_pb0183_01.row.prog w) hh' (isType (.ref x)) false := (Looks.ld (part := none) he).andThen .now
  have L6 : Looks (model rw_pb0183_01.row.prog w) hh' (isInstance (.ref x) (.type "BaseException")) true := L2.andThen L3
  have fin : wpAny (model rw_pb0183_01.row.prog w) A (setFlight (.ref x) none >>= fun _ => raiseNew (.ref x)) Q E ⟨hh', g, d, t, os⟩ := by
    unfold setFlight
    refine wpAny_bind (wpAny_bind (wpAny_field he rfl h1 ?_))
    exact wpAny_pure (wpAny_raiseNew_none hh hE)
  repeat (first | (with_reducible exact fin) | lk)
theorem fault_use {p : Program} {loose : List Str} {mean : ExcName → Option Value} {mg mb : Str → Option Value} {g : Heap} {L : Addr} {m : Str → Option Value} {l : List Env} {what : Str} {pl : Int} {t1 t2 : Tok} {E' : Value → Shared → Prop}
    (F : Fr g L s.heap m) (X : (KK w.params).In g) (T : Top p loose mean mg mb g) (hd : A.depth + 1 < recursionLimit)
    (h : ∀ e h' tk', Thrown l [] s.heap h' e what pl → E (.ref e) { s with heap := h', toks := tk' }) :
    wpAny (model rw_pb0183_01.row.prog w) A (call (.ref 61) [.str what t1, .int pl t2]) (FaultMade w E) E' s := by
  have Xs : (KK w.params).In s.heap := X.keeps F.keep
  have kp : ∀ b o, s.heap.get? b = some o → ((s.heap.push { cls := .type "tuple", data := .seq [Value.str what t1, Value.int pl t2].toArray }).push (faultObj s.heap.objs.size)).get? b = some o := fun b o q => Heap.get?_push_of_some _ (Heap.get?_push_of_some _ q)
  have sz : ((s.heap.push { cls := .type "tuple", data := .seq [Value.str what t1, Value.int pl t2].toArray }).push (faultObj s.heap.objs.size)).objs.size = s.heap.objs.size + 2 := by rw [Heap.size_push, Heap.size_push]
  refine fault_call Xs ?_
  refine fault_init (s := { s with heap := (s.heap.push { cls := .type "tuple", data := .seq [Value.str what t1, Value.int pl t2].toArray }).push (faultObj s.heap.objs.size) }) (t₀ := s.heap.objs.size) X T (fun b o q => kp b o (F.keep b o q)) ?_ (by heap_get) ?_ fun h' dx tk' k zz hF => ⟨rfl, ?_⟩
  · cases q : g.get? (s.heap.objs.size + 1) with
    | none => rfl
    | some o => exact absurd (Heap.lt_size (F.keep _ _ q)) (Nat.not_lt.mpr (Nat.le_succ _))
  · show A.depth + 1 < recursionLimit
    exact hd
  have k' : ∀ b o, s.heap.get? b = some o → h'.get? b = some o := fun b o q => k b o (neN (Nat.ne_of_lt (Nat.lt_succ_of_lt (Heap.lt_size q)))) (kp b o q)
  have zz' : s.heap.objs.size ≤ h'.objs.size := by
    dsimp only at zz
    rw [sz] at zz
    omega
  exact xI4_4 _ dx what pl rfl hF (Xs.keeps k') (h _ h' tk' ⟨fun b o q _ _ => k' b o q, fun b o q _ => ⟨o.slots, k' b o q⟩, zz', _, dx, hF, Nat.le_succ _, Nat.le_succ _⟩)
end
end
section
open PySem.Calls
structure Side (P : Prop) : Prop where
  out : P
theorem ends_exc {l : List Env} {env : Env} {g : Heap} {L : Addr} {s : Shared} {P : Heap → Heap → Value → Prop} {R : Str → Int → Prop} {Q EB : Value → Shared → Prop} {e : Addr} {h₁ h' : Heap} {tk' : Nat} {m : Str → Option Value} {fp' : List Addr} {what : Str} {pl : Int}
    (hX : Ends l env g L s P R Q EB) (F : Fr g L h₁ m) (hf : ∀ b ∈ fp', g.get? b = none ∧ b ≠ L) (Th : Thrown (env :: l) fp' h₁ h' e what pl) (hR : R what pl) : EB (.ref e) { s with heap := h', toks := tk' } := hX.2 e h₁ h' tk' m fp' what pl F hf Th hR
theorem ends_ret {l : List Env} {env : Env} {g : Heap} {L : Addr} {s : Shared} {P : Heap → Heap → Value → Prop} {R : Str → Int → Prop} {Q EB : Value → Shared → Prop} {v : Value} {h' : Heap} {tk' : Nat} {m : Str → Option Value}
    (hX : Ends l env g L s P R Q EB) (F : Fr g L h' m) (hP : P s.heap h' v) : Q v { s with heap := h', toks := tk' } := hX.1 v h' tk' m F hP
theorem news_back0 {g h h' : Heap} {L : Addr} {news : List (Addr × Obj)} (N : News g L h news) (hb : Back [] h h') : News g L h' news := fun p hp => ⟨hb.keep _ _ (N p hp).1 (fun h => nomatch h), (N p hp).2⟩
theorem fault_here {w : World} {A : Around} {p : Program} {loose : List Str} {mean : ExcName → Option Value} {mg mb : Str → Option Value} {l : List Env} {env : Env} {g h : Heap} {L : Addr} {s₀ : Shared} {P : Heap → Heap → Value → Prop} {R : Str → Int → Prop} {Q E E' : Value → Shared → Prop} {tk : Nat} {m : Str → Option Value} {what : Str} {pl : Int} {t1 t2 : Tok}
    (hX : Ends l env g L s₀ P R Q E) (F : Fr g L h m) (X : (KK w.params).In g) (T : Top p loose mean mg mb g) (hd : A.depth + 1 < recursionLimit) (hR : Side (R what pl)) :
    wpAny (model rw_pb0183_01.row.prog w) A (call (.ref 61) [.str what t1, .int pl t2]) (FaultMade w E) E' { s₀ with heap := h, toks := tk } :=
  fault_use (s := { s₀ with heap := h, toks := tk }) (l := env :: l) F X T hd fun _ _ _ Th => ends_exc (s := s₀) (fp' := []) hX F (fun _ h => nomatch h) Th hR.out
theorem Spec.here {w : World} {A A₀ : Around} {p : Program} {loose : List Str} {mean : ExcName → Option Value} {mg mb : Str → Option Value} {l : List Env} {env : Env} {g h : Heap} {L : Addr} {s₀ : Shared} {P : Heap → Heap → Value → Prop} {R : Str → Int → Prop} {Q Q₂ E : Value → Shared → Prop} {tk : Nat} {m : Str → Option Value}
    {f : Addr} {D U : Nat} {vs : List Value} {fp : List (Addr × Obj)} {P₂ : Heap → Heap → Value → Prop} {R₂ : Str → Int → Prop}
    (C : Spec w f D U vs fp P₂ R₂) (hX : Ends l env g L s₀ P R Q E) (B : Below A₀ noHeap l g) (F : Fr g L h m) (X : (KK w.params).In g) (T : Top p loose mean mg mb g) (hA : A.frames = some (env :: l)) (hf : env.frame = some L) (hke : env.scope.kind = .function)
    (hh : A.handled = none) (hd : A.depth ≤ D) (hu : A.units ≤ U) (N : News g L h fp) (hR : Side (∀ what pl, R₂ what pl → R what pl))
    (hret : ∀ v h' tk', Fr g L h' m → Back (fp.map (·.1)) h h' → P₂ h h' v → Q₂ v { s₀ with heap := h', toks := tk' }) :
    wpAny (model rw_pb0183_01.row.prog w) A (call (.ref f) vs) Q₂ E { s₀ with heap := h, toks := tk } :=
  Spec.use (s := { s₀ with heap := h, toks := tk }) C B F X T hA hf hke hh hd hu N hret fun _ _ _ _ _ hf' Th hr => ends_exc (s := s₀) hX F hf' Th (hR.out _ _ hr)
end
section
open PySem.Calls
section
variable {prog : Program} {w : World} {A : Around} {E : Value → Shared → Prop} {s : Shared} {h₀ : Heap} {L : Addr} {m : Str → Option Value} {env : Env} {elt iter : Expr} {x : Str} {px : Pos} {scope : Scope} {cl : List (Str × Addr)} {pos : Pos}
open LCg
def SrcB (prog : Program) (w : World) (A : Around) (h₀ : Heap) (L : Addr) (m : Str → Option Value) (env : Env) (elt : Expr) (x : Str) (scope : Scope) (cl : List (Str × Addr)) (Fin : Shared → List Value → List (Addr × Obj) → Prop) (xv : Value) (s₁ : Shared) : Prop :=
  ∃ b tb ks news, xv = .bytes b tb ∧ A.handled = none ∧ KBw.bInts b = ks ∧ Fr h₀ L s₁.heap m ∧ News h₀ L s₁.heap news ∧ ks.length ≤ sizeLine ∧
    ∀ g, CompRest prog w A h₀ L m env elt x scope cl { s₁ with heap := g } (fun _ => True) (fun i v => ∃ t, v = .int (ks.getD i 0) t) (Fin { s₁ with heap := g }) ks.length 0 [] news
theorem comp_bytes {Q : Value → Shared → Prop} (_F₀ : Fr h₀ L s.heap m)
    (hclos : closureFor scope env = pure cl) (hcell : ∀ y ∈ scope.names, y.2 ≠ .cell) (hkind : scope.kind = .function)
    (hnames : ∀ y ∈ scope.names, y.2 = .local → scope.names.lookup y.1 = some .local) (hx : scope.names.lookup x = some .local)
    (h : wpAny (model prog w) A (eval iter env) (SrcB prog w A h₀ L m env elt x scope cl (fun s₂ => FinE h₀ L m s₂ Q)) E s)
    (hs : ∀ x, foldedSetIterable iter env x = pure x := by intro _; rfl) :
    wpAny (model prog w) A (eval (.ListComp elt [⟨.Name x px, iter, [], 0⟩] scope pos) env) Q E s := by
  rw [eval_ListComp]
  refine wpAny_comprehension_free (use := none) rfl hs hclos hkind hnames (wpAny_mono h (fun xv s₁ h₁ => ?_) fun _ _ e => e)
  refine xE4_7 h₁ ?_; (try clear h₁); intro b tb ks news zq1' hh hk F N hsz R; subst zq1'
  refine KBw.pyIter_bytes ?_
  have up : ∀ a o, s₁.heap.get? a = some o → (s₁.heap.push { cls := .type "bytes_iterator", data := .fields #[.bytes b tb, .int 0 0] }).get? a = some o := fun a o e => Heap.get?_push_of_some _ e
  have hbl : ks.length = b.size := by rw [← hk]; exact KBw.ints_length b
  have W₀ := KBw.walks (prog := prog) (w := w) hh s₁.heap.objs.size b tb
  have W : Walks prog w A s₁.heap.objs.size [s₁.heap.objs.size] [s₁.heap.objs.size] ks.length (fun i v => ∃ t, v = .int (ks.getD i 0) t) (fun i h => KBw.IsBytesIter h s₁.heap.objs.size b tb i) :=
    { sub := W₀.sub, frame := W₀.frame, self := W₀.self
      done := fun s Q E st hQ => W₀.done s Q E (hbl ▸ st) hQ
      item := fun i s Q E hi st hQ => W₀.item i s Q E (hbl ▸ hi) st fun v h' tk hP => hQ v h' tk (by
        refine xE2_2 hP ?_; (try clear hP); intro c u hc zq2'; subst zq2'
        exact ⟨u, by rw [List.getD_eq_getElem?_getD, ← hk, KBw.ints_get hc]; rfl⟩) }
  refine block_U W hsz (fun i h st => by refine xE1_2 st ?_; (try clear st); intro o e _; exact ⟨o, e⟩) (fun i h h' o nw st e e' _ _ _ => by refine xE1_2 st ?_; (try clear st); intro o' q r; rw [e] at q; cases q; exact xI1_2 o e' r) hcell hkind hx ⟨_, Heap.get?_push_size _ rfl, rfl, rfl⟩ (fun a ha => ?_)
    (F.keeps up) (N.grown up) (Nat.ne_of_lt F.ns.lt) (next_is_new F) (fun p hp => Nat.ne_of_lt (Heap.lt_size (N p hp).1)) trivial (R _) ?_
  · rw [List.mem_singleton.mp ha]
    show s₁.heap.objs.size < (s₁.heap.push _).objs.size
    rw [Heap.size_push]; exact Nat.lt_succ_self _
  · intro D C h tk m' ys news' F' N' o1 hn hC₀ hD₀ hCL hDL hCD offC fin
    refine xI1_2 m' hn (fun h'' hs'' => fin D h'' tk (F'.change hs'' hCL hC₀) (fun p hp => ?_) o1)
    refine ⟨hs''.extBut _ _ ?_ (N' p hp).1, (N' p hp).2⟩
    rcases List.mem_cons.mp hp with rfl | hp
    · exact Ne.symm hCD
    · exact offC p hp
theorem comp_turns {S : List (Addr × Obj) → Prop} {P : Nat → Value → Prop} {Fin : List Value → List (Addr × Obj) → Prop} {n : Nat} (J : Nat → List Value → List (Addr × Obj) → Prop)
    (turn : ∀ i v ys news I oI C oC D m₂ h tk (E' : Value → Shared → Prop), i < n → P i v → J i ys news → NsObj oC m₂ → m₂ x = some v → Fr h₀ L h m → News h₀ L h ((I, oI) :: (C, oC) :: (D, lst ys) :: news) → Off3 I C D news → ((@Ne Nat I C) ∧ (@Ne Nat I D) ∧ (@Ne Nat C D)) →
      wpAny (model prog w) A (eval elt (compEnvC scope cl C env)) (CompEnd h₀ L m { s with heap := h, toks := tk } I oI C oC D (lst ys) S (fun y news' => J (i + 1) (ys ++ [y]) news')) E' { s with heap := h, toks := tk })
    (fin : ∀ ys news, J n ys news → Fin ys news) : ∀ (k i : Nat) (ys : List Value) (news : List (Addr × Obj)), i + k = n → J i ys news → CompRest prog w A h₀ L m env elt x scope cl s S P Fin k i ys news
  | 0, i, ys, news, e, hJ => CompRest.zero (fin ys news (by rw [Nat.add_zero] at e; subst e; exact hJ))
  | k + 1, i, ys, news, e, hJ => CompRest.succ fun v I oI C oC D m₂ h tk E' hP hC hx F N off ne =>
      wpAny_mono (turn i v ys news I oI C oC D m₂ h tk E' (by omega) hP hJ hC hx F N off ne) (fun y s₂ hq => by
        refine xE3_6 hq ?_; (try clear hq); intro h' tk' nw e' F' N' off' hS hJ'
        exact xI3_6 h' tk' nw e' F' N' off' hS (comp_turns J turn fin k (i + 1) _ _ (by omega) hJ')) fun _ _ e => e
theorem comp_held {Q : Value → Shared → Prop} (F₀ : Fr h₀ L s.heap m)
    (hclos : closureFor scope env = pure cl) (hcell : ∀ y ∈ scope.names, y.2 ≠ .cell) (hkind : scope.kind = .function)
    (hnames : ∀ y ∈ scope.names, y.2 = .local → scope.names.lookup y.1 = some .local) (hx : scope.names.lookup x = some .local)
    (h : wpAny (model prog w) A (eval iter env) (fun xv s₁ => Side (CompSrc prog w A h₀ L m env elt x scope cl (fun s₂ => FinE h₀ L m s₂ Q) xv s₁)) E s)
    (hs : ∀ x, foldedSetIterable iter env x = pure x := by intro _; rfl) :
    wpAny (model prog w) A (eval (.ListComp elt [⟨.Name x px, iter, [], 0⟩] scope pos) env) Q E s :=
  ListComp_U F₀ hclos hcell hkind hnames hx (wpAny_mono h (fun _ _ q => q.out) fun _ _ e => e) hs
end
end
section
open PySem.Calls
section
variable {w : World} {D U : Nat} {f : Addr} {vs : List Value} {fp : List (Addr × Obj)} {P : Heap → Heap → Value → Prop} {R : Str → Int → Prop}
theorem enterC {name qual : Str} {params : Arguments} {body : List Stmt} {scope : Scope} {dV kV doc pm cdv ct oc : Value} {an od : Option Addr} {osl : Array (Option Value)} {binds : List (Str × Value)}
    (ho : (KK w.params).lookup f = some ⟨oc, od, .func (fnOf name qual params body scope dV kV doc pm an cdv ct), osl⟩) (hcd : codeIn (KK w.params) cdv qual = true) (hD : D < recursionLimit)
    (hbind : ∀ s : Shared, (KK w.params).In s.heap → BindsTo s (fnOf name qual params body scope dV kV doc pm an cdv ct) ⟨vs, []⟩ binds)
    (hkind : (binds.all fun y => scope.names.lookup y.1 == some .local || scope.names.lookup y.1 == some .cell) = true) (hnd : ((cellsFrom 0 scope.names []).map (·.1)).Nodup)
    (h : ∀ {p : Program} {loose : List Str} {mean : ExcName → Option Value} {mg mb : Str → Option Value} {gd : Option (List Code)} {l : List Env} {s : Shared} {Q E : Value → Shared → Prop} (g : Heap) (L : Addr) (h₁ : Heap) (tk : Nat) (cells : List (Addr × Obj)),
      Fr g L h₁ (bindL (envOfC qual scope L f cdv).kindOf binds fun _ => none) → News g L h₁ (cells ++ fp) → CellsAre (bindC (envOfC qual scope L f cdv).kindOf binds fun _ => none) (cellsFrom (L + 1) scope.names []) cells →
      Below (Aat D U gd l) noHeap l g → (KK w.params).In g → Top p loose mean mg mb g → s.heap.objs.size ≤ L → (∀ b o, s.heap.get? b = some o → b ∉ fp.map (·.1) → g.get? b = some o) →
      (∀ b o, g.get? b = some o → s.heap.get? b = some o) → (∀ q ∈ fp, s.heap.get? q.1 = some q.2) → (∀ q ∈ fp, q.1 < L) →
      Ends l (envOfC qual scope L f cdv) g L s P R Q (fun e s' => wpAny (model rw_pb0183_01.row.prog w) ((Aat D U gd l).deeper (envOfC qual scope L f cdv)) (leaving (envOfC qual scope L f cdv) e) (fun _ s'' => E e s'') (fun e' s'' => E e' s'') s') →
      wpAny (model rw_pb0183_01.row.prog w) ((Aat D U gd l).deeper (envOfC qual scope L f cdv)) (execs body (envOfC qual scope L f cdv))
        (fun fl s' => Q (match fl with | .ret v => v | _ => .none) s')
        (fun e s' => wpAny (model rw_pb0183_01.row.prog w) ((Aat D U gd l).deeper (envOfC qual scope L f cdv)) (leaving (envOfC qual scope L f cdv) e) (fun _ s'' => E e s'') (fun e' s'' => E e' s'') s')
        { s with heap := h₁, toks := tk })
    (hco : scope.isCoroutine = false := by rfl) (hgen : scope.isGenerator = false := by rfl) (hk : scope.kind = .function := by rfl) : Spec w f D U vs fp P R := by
  intro p loose mean mg mb H A l s Q E S hfp hret hexc
  obtain ⟨hd, dp, fr, gd, un⟩ := A
  obtain ⟨X, T, st, zq1', zq2', dep, unn, fs⟩ := S; subst zq1'; subst zq2'
  dsimp only at dep unn
  refine wpAny_up (B := Aat D U gd l) ?_ rfl dep rfl rfl unn
  have Xs : (KK w.params).In s.heap := X.keeps st
  have stg : H.StaysIn (hideAll s.heap (fp.map (·.1))) := fun b o q => hideAll_get _ (st b o q) fun hm => by
    refine xE1_2 (List.mem_map.mp hm) ?_; intro x hx zq3'; subst zq3'
    rw [(hfp x hx).2.1] at q; cases q
  have hgk : ∀ b o, s.heap.get? b = some o → b ∉ fp.map (·.1) → (hideAll s.heap (fp.map (·.1))).get? b = some o := fun b o q hb => hideAll_get _ q hb
  have BF : (hideAll s.heap (fp.map (·.1))).FunFrames noHeap l := funFrames_hideAll fs fun env he b hb hf => by
    refine xE1_2 (List.mem_map.mp hb) ?_; intro x hx zq4'; subst zq4'
    exact (hfp x hx).2.2 (List.mem_filterMap.mpr ⟨env, he, hf⟩)
  refine wpAny_call (codeAny_call_function hD (Xs _ _ ho) rfl hco hgen rfl (codeRec_of Xs hcd) (hbind s Xs _ _ _ _ ?_))
  refine wpAny_newFunctionEnv_cells hk (kindsX hkind _) fun env' he s' x => ?_
  subst he
  refine ⟨(T.nolimit.keeps st).keeps x.toInCall.keep, codeAny_func ?_⟩
  refine xE2_2 (x.done) ?_; intro h₁ tk zq5' _; subst zq5'
  have hk₁ := x.toInCall.keep
  refine xE1_2 (Cl.news (h₀ := s.heap) (Nat.le_refl _) fun n c hm => ⟨x.cell n c (lookup_of_mem_nodup (cellsFrom_names scope.names 0 (s.heap.objs.size + 1) [] [] rfl ▸ hnd) hm), x.above n c hm⟩) ?_; intro cells NC Y
  have F : Fr (hideAll s.heap (fp.map (·.1))) s.heap.objs.size h₁ _ := ⟨x.toInCall.ns, fun b o e => hk₁ b o (of_hideAll _ e), Nat.le_of_eq (hideAll_size _ _)⟩
  refine h (gd := gd) (l := l) (s := s) (Q := Q) (E := E) _ s.heap.objs.size h₁ tk cells F (fun q hq => ?_) Y ⟨rfl, fun b o q => (by cases q), BF⟩ (X.keeps stg) (T.keeps stg) (Nat.le_refl _) hgk (fun b o q => of_hideAll _ q) (fun q hq => (hfp q hq).1) (fun q hq => Heap.lt_size (hfp q hq).1) ⟨fun v h' tk' m F' hP => ?_, fun e h₂ h' tk' m fp' what pl F' hf' hT hR => ?_⟩
  · rcases List.mem_append.mp hq with hq | hq
    · refine xI0_3 ((NC q hq).1) ((NC q hq).2.1) ?_
      cases z : (hideAll s.heap (fp.map (·.1))).get? q.1 with
      | none => rfl
      | some o => have := of_hideAll _ z; rw [(NC q hq).2.2] at this; cases this
    · exact xI0_3 (hk₁ _ _ (hfp q hq).1) (Nat.ne_of_lt (Heap.lt_size (hfp q hq).1)) (hideAll_none _ (List.mem_map_of_mem hq))
  · exact hret v h' tk' ⟨fun b o q hb => F'.keep b o (hgk b o q hb), Nat.le_of_lt F'.ns.lt⟩ hP
  · exact Thrown.leave (s := { s with heap := h', toks := tk' }) (A := (Aat D U gd l).deeper (envOfC qual scope s.heap.objs.size f cdv)) rfl rfl hk BF hgk (Nat.le_refl _) F' hf' hT fun h₃ hT' => hexc e h₃ tk' what pl hT' hR
end
theorem Spec.calm {w : World} {A A₀ : Around} {p : Program} {loose : List Str} {mean : ExcName → Option Value} {mg mb : Str → Option Value} {l : List Env} {env : Env} {g h : Heap} {L : Addr} {s₀ : Shared} {Q₂ E : Value → Shared → Prop} {tk : Nat} {m : Str → Option Value}
    {f : Addr} {D U : Nat} {vs : List Value} {fp : List (Addr × Obj)} {P₂ : Heap → Heap → Value → Prop} {R₂ : Str → Int → Prop}
    (C : Spec w f D U vs fp P₂ R₂) (B : Below A₀ noHeap l g) (F : Fr g L h m) (X : (KK w.params).In g) (T : Top p loose mean mg mb g) (hA : A.frames = some (env :: l)) (hf : env.frame = some L) (hke : env.scope.kind = .function)
    (hh : A.handled = none) (hd : A.depth ≤ D) (hu : A.units ≤ U) (N : News g L h fp) (hR : ∀ what pl, ¬ R₂ what pl)
    (hret : ∀ v h' tk', Fr g L h' m → Back (fp.map (·.1)) h h' → P₂ h h' v → Q₂ v { s₀ with heap := h', toks := tk' }) :
    wpAny (model rw_pb0183_01.row.prog w) A (call (.ref f) vs) Q₂ E { s₀ with heap := h, toks := tk } :=
  Spec.use (s := { s₀ with heap := h, toks := tk }) C B F X T hA hf hke hh hd hu N hret fun _ _ _ _ _ _ _ hr => (hR _ _ hr).elim
end
section
open PySem.Calls
section
variable {prog : Program} {w : World} {A : Around} {E : Value → Shared → Prop} {s : Shared} {g : Heap} {env : Env} {x : Str} {body : List Stmt} {Q : Flow → Shared → Prop} {m : Str → Option Value} {led : List (Addr × Obj)}
def Turn (g : Heap) (L I : Addr) (oI : Obj) (Jn : (Str → Option Value) → List (Addr × Obj) → Prop) (s : Shared) (f : Flow) (s₂ : Shared) : Prop :=
  f = .next ∧ ∃ h tk m led, s₂ = { s with heap := h, toks := tk } ∧ Fr g L h m ∧ News g L h ((I, oI) :: led) ∧ (∀ p ∈ led, p.1 ≠ I) ∧ Jn m led
theorem for_side {px pos : Pos} {iter : Expr} (_F : Fr g env.locals s.heap m) (hx : env.kindOf x = some .local)
    (hp : (env.scope.kind == .class || (env.scope.kind == .module && env.locals != env.globals)) = false)
    (h : wpAny (model prog w) A (eval iter env) (fun xv s₁ => Side (wpAny (model prog w) A (pyIter xv) (fun it s₂ => LoopAtV prog w A g env x body Q E it s₂) E s₁)) E s)
    (hs : ∀ x, foldedSetIterable iter env x = pure x := by intro _; rfl) (hE : PassesOwn (model prog w) A env E := by passes_own) :
    wpAny (model prog w) A (exec (.For (.Name x px) iter body [] pos) env) Q E s :=
  For_invV g hx hp (wpAny_mono h (fun _ _ q => q.out) fun _ _ e => e) hs hE
theorem fresh_top {h : Heap} {L : Addr} (F : Fr g L h m) : g.get? h.objs.size = none := by
  cases e : g.get? h.objs.size with
  | none => rfl
  | some o => exact absurd (Heap.lt_size (F.keep _ _ e)) (Nat.lt_irrefl _)
theorem loop_range {r : Addr} {n : Nat} {t u v : Tok} (J : Nat → (Str → Option Value) → List (Addr × Obj) → Prop) (hh : A.handled = none) (hr : IsRange s.heap r 0 (n : Int) 1 t u v)
    (hsm : Builtin.Range.small 0 (n : Int) 1 = true) (F : Fr g env.locals s.heap m) (N : News g env.locals s.heap led) (hJ : J 0 m led)
    (turn : ∀ i t m₁ led₁ I oI h tk, i < n → J i m₁ led₁ → (∀ p ∈ led₁, p.1 ≠ I) → Fr g env.locals h (fun y => if y = x then some (.int (i : Int) t) else m₁ y) → News g env.locals h ((I, oI) :: led₁) →
      wpAny (model prog w) A (execs body env) (Turn g env.locals I oI (J (i + 1)) { s with heap := h, toks := tk }) E { s with heap := h, toks := tk })
    (done : ∀ h tk m₁ led₁, J n m₁ led₁ → Fr g env.locals h m₁ → News g env.locals h led₁ → Q .next { s with heap := h, toks := tk }) :
    wpAny (model prog w) A (pyIter (.ref r)) (fun it s₂ => LoopAtV prog w A g env x body Q E it s₂) E s := by
  refine wpAny_pyIter_range hr hsm ?_
  have up : ∀ o' b o, s.heap.get? b = some o → (s.heap.push o').get? b = some o := fun o' b o e => Heap.get?_push_of_some _ e
  have hI₀ : g.get? s.heap.objs.size = none := fresh_top F
  refine xI9_11 s.heap.objs.size [s.heap.objs.size] [s.heap.objs.size] n _ _ m led J rfl (LCg.range_walks (prog := prog) (w := w) hh 0 n) (fun hm => ?_) (fun b hb => ?_) (fun p hp hm => ?_) ?_ (F.keeps (up _)) (N.grown (up _)) hJ ?_ ?_
  · exact absurd F.ns.lt (List.mem_singleton.mp hm ▸ Nat.lt_irrefl _)
  · rw [List.mem_singleton.mp hb]; exact hI₀
  · exact absurd (Heap.lt_size (N p hp).1) (List.mem_singleton.mp hm ▸ Nat.lt_irrefl _)
  · show IsRangeIter _ _ _ _ _
    rw [rangeSize_nat]
    simpa using Heap.get?_push_size _ rfl
  · rintro i v m₁ led₁ s₁ own ⟨h, tk, rfl⟩ hi ⟨t, rfl⟩ hJ' off hsub hget hown hst F₁ N₁
    obtain ⟨oI, hoI⟩ : ∃ o, h.get? s.heap.objs.size = some o := ⟨_, hst⟩
    have hmem := hown _ (List.mem_singleton.mpr rfl) hI₀ _ hoI
    have e0 : (0 : Int) + (i : Int) = (i : Int) := Int.zero_add _
    rw [e0] at F₁
    refine wpAny_mono (turn i t m₁ led₁ _ oI h tk hi hJ' (fun p hp e => off p hp (List.mem_singleton.mpr e)) F₁ (fun p hp => ?_)) (fun f s₂ hq => ?_) fun _ _ e => e
    · rcases List.mem_cons.mp hp with rfl | hp
      · exact N₁ _ (List.mem_append_left _ hmem)
      · exact N₁ _ (List.mem_append_right _ hp)
    · refine xE0_2 hq ?_; (try clear hq); intro zq1' zq2'; subst zq1'; refine xE4_5 zq2' ?_; clear zq2'; intro h' tk' m' led' zq3' F' N' off' hJ''; subst zq3'
      refine LoopStepV.next ⟨rfl, h', tk', m', led', rfl, F', fun p hp => ?_, fun p hp e => off' p hp (List.mem_singleton.mp e), hJ''⟩
      rcases List.mem_append.mp hp with hp | hp
      · have e1 := List.mem_singleton.mp (hsub p hp)
        have e2 : h.get? p.1 = some p.2 := hget p hp
        rw [e1, hoI] at e2
        have e3 : p = (s.heap.objs.size, oI) := Prod.ext e1 (Option.some.inj e2).symm
        rw [e3]
        exact N' _ (.head _)
      · exact N' p (List.mem_cons_of_mem _ hp)
  · intro h tk m₁ led₁ F₁ N₁ _ hJ'
    exact done h tk m₁ led₁ hJ' F₁ N₁
def TurnS (g : Heap) (L I : Addr) (oI : Obj) (stored : List Str) (m₀ : Str → Option Value) (Jn : List (Addr × Obj) → Prop) (s : Shared) (f : Flow) (s₂ : Shared) : Prop :=
  f = .next ∧ ∃ h tk m led, s₂ = { s with heap := h, toks := tk } ∧ Fr g L h m ∧ News g L h ((I, oI) :: led) ∧ (∀ p ∈ led, p.1 ≠ I) ∧ (∀ z, stored.contains z = false → m z = m₀ z) ∧ Jn led
theorem TurnS.intro {L I : Addr} {oI : Obj} {stored : List Str} {m₀ m' : Str → Option Value} {Jn : List (Addr × Obj) → Prop} {h : Heap} {tk : Nat} {led' : List (Addr × Obj)} (F : Fr g L h m') (N : News g L h ((I, oI) :: led')) (off : ∀ p ∈ led', p.1 ≠ I) (hm : ∀ z, stored.contains z = false → m' z = m₀ z) (hJ : Jn led') :
    TurnS g L I oI stored m₀ Jn s .next { s with heap := h, toks := tk } := ⟨rfl, h, tk, m', led', rfl, F, N, off, hm, hJ⟩
theorem loop_rangeS {r : Addr} {n : Nat} {t u v : Tok} {m₀ : Str → Option Value} (stored : List Str) (J : Nat → List (Addr × Obj) → Prop) (hh : A.handled = none) (hr : IsRange s.heap r 0 (n : Int) 1 t u v)
    (hsm : Builtin.Range.small 0 (n : Int) 1 = true) (F : Fr g env.locals s.heap m₀) (N : News g env.locals s.heap led) (hJ : J 0 led)
    (turn : ∀ i t (u : Str → Option Value) led₁ I oI h tk, i < n → J i led₁ → (∀ p ∈ led₁, p.1 ≠ I) → Fr g env.locals h (fun y => if y = x then some (.int (i : Int) t) else if stored.contains y then u y else m₀ y) → News g env.locals h ((I, oI) :: led₁) →
      wpAny (model prog w) A (execs body env) (TurnS g env.locals I oI stored m₀ (J (i + 1)) { s with heap := h, toks := tk }) E { s with heap := h, toks := tk })
    (done : ∀ h tk (u : Str → Option Value) led₁, J n led₁ → Fr g env.locals h (fun y => if stored.contains y then u y else m₀ y) → News g env.locals h led₁ → Q .next { s with heap := h, toks := tk }) :
    wpAny (model prog w) A (pyIter (.ref r)) (fun it s₂ => LoopAtV prog w A g env x body Q E it s₂) E s := by
  refine loop_range (fun i m led => (∃ u : Str → Option Value, m = fun y => if stored.contains y then u y else m₀ y) ∧ J i led) hh hr hsm F N ⟨⟨m₀, by funext y; simp⟩, hJ⟩ ?_ ?_
  · rintro i t m₁ led₁ I oI h tk hi ⟨⟨u, rfl⟩, hJ'⟩ off F' N'
    refine wpAny_mono (turn i t u led₁ I oI h tk hi hJ' off F' N') (fun f s₂ hq => ?_) fun _ _ e => e
    refine xE0_2 hq ?_; (try clear hq); intro zq4' zq5'; subst zq4'; refine xE4_6 zq5' ?_; clear zq5'; intro h' tk' m' led' zq6' F'' N'' off' hm hJ''; subst zq6'
    refine ⟨rfl, h', tk', m', led', rfl, F'', N'', off', ⟨m', ?_⟩, hJ''⟩
    funext y
    by_cases hy : stored.contains y = true
    · rw [if_pos hy]
    · rw [if_neg hy]
      exact hm y (Bool.eq_false_iff.mpr hy)
  · rintro h tk m₁ led₁ ⟨⟨u, rfl⟩, hJ'⟩ F' N'
    exact done h tk u led₁ hJ' F' N'
end
end
section
open PySem.Calls
section
variable {prog : Program} {w : World} {A : Around} {E : Value → Shared → Prop} {s : Shared} {g : Heap} {env : Env} {x : Str} {body : List Stmt} {Q : Flow → Shared → Prop} {m : Str → Option Value} {led : List (Addr × Obj)}
theorem for_sideT {target iter : Expr} {pos : Pos} (F : Fr g env.locals s.heap m)
    (h : wpAny (model prog w) A (eval iter env) (fun xv s₁ => Side (wpAny (model prog w) A (pyIter xv) (fun it s₂ => TurnsAt prog w A g env target body Q E it s₂) E s₁)) E s)
    (hs : ∀ x, foldedSetIterable iter env x = pure x := by intro _; rfl) (hE : PassesOwn (model prog w) A env E := by passes_own) :
    wpAny (model prog w) A (exec (.For target iter body [] pos) env) Q E s :=
  For_turns F (wpAny_mono h (fun _ _ q => q.out) fun _ _ e => e) hs hE
theorem loop_listS {target : Expr} {lf : Addr} {n : Nat} {its : Array Value} {m₀ : Str → Option Value} (stored : List Str) (J : Nat → List (Addr × Obj) → Prop) (hh : A.handled = none)
    (F : Fr g env.locals s.heap m₀) (N : News g env.locals s.heap led) (hJ : J 0 led) (hmem : ∀ i led, J i led → (lf, listOf its n) ∈ led)
    (turn : ∀ i v (u : Str → Option Value) led₁ I oI h tk, its[i]? = some v → J i led₁ → (∀ p ∈ led₁, p.1 ≠ I) → Fr g env.locals h (fun y => if stored.contains y then u y else m₀ y) → News g env.locals h ((I, oI) :: led₁) →
      wpAny (model prog w) A (assign target env v) (fun _ s₃ => wpAny (model prog w) A (execs body env) (TurnS g env.locals I oI stored m₀ (J (i + 1)) { s with heap := h, toks := tk }) E s₃) E { s with heap := h, toks := tk })
    (done : ∀ h tk (u : Str → Option Value) led₁, J its.size led₁ → Fr g env.locals h (fun y => if stored.contains y then u y else m₀ y) → News g env.locals h led₁ → Q .next { s with heap := h, toks := tk }) :
    wpAny (model prog w) A (pyIter (.ref lf)) (fun it s₂ => TurnsAt prog w A g env target body Q E it s₂) E s := by
  have hl : s.heap.IsList lf its := N.isList (hmem 0 led hJ)
  have hlt : lf < s.heap.objs.size := Heap.lt_size (N _ (hmem 0 led hJ)).1
  have hl₀ : g.get? lf = none := (N _ (hmem 0 led hJ)).2.2
  have hlL : lf ≠ env.locals := (N _ (hmem 0 led hJ)).2.1
  refine wpAny_pyIter_list hl ?_
  have up : ∀ o' b o, s.heap.get? b = some o → (s.heap.push o').get? b = some o := fun o' b o e => Heap.get?_push_of_some _ e
  have hI₀ : g.get? s.heap.objs.size = none := fresh_top F
  refine ⟨s.heap.objs.size, [s.heap.objs.size, lf], [s.heap.objs.size], its.size, _, _, _, m₀, led, fun i m led => (∃ u : Str → Option Value, m = fun y => if stored.contains y then u y else m₀ y) ∧ J i led, rfl,
    KTurns.ofWalks (Walks.list hh s.heap.objs.size lf (Nat.ne_of_lt hlt) its) fun i v s Q E st q => letGo_listiter st.1 q, fun hm => ?_, fun b hb => ?_, fun p hp hm => ?_, ?_, F.keeps (up _), N.grown (up _), ⟨⟨m₀, by funext y; simp⟩, hJ⟩, ?_, ?_⟩
  · rcases List.mem_cons.mp hm with e | hm
    · exact absurd F.ns.lt (e ▸ Nat.lt_irrefl _)
    · exact hlL (List.mem_singleton.mp hm).symm
  · rw [List.mem_singleton.mp hb]; exact hI₀
  · exact absurd (Heap.lt_size (N p hp).1) (List.mem_singleton.mp hm ▸ Nat.lt_irrefl _)
  · exact ⟨⟨_, Heap.get?_push_size _ rfl, rfl, rfl⟩, hl.push _⟩
  · rintro i v m₁ led₁ h tk own hi hP ⟨⟨u, rfl⟩, hJ'⟩ off hsub hget hown hst F₁ N₁
    obtain ⟨oI, hoI⟩ : ∃ o, h.get? s.heap.objs.size = some o := by refine xE1_2 (hst.1) ?_; intro o e _; exact ⟨o, e⟩
    have hmemI := hown _ (.head _) hI₀ _ hoI
    have hlf := (N₁ _ (List.mem_append_right _ (hmem i led₁ hJ'))).1
    refine wpAny_mono (turn i v u led₁ _ oI h tk hP hJ' (fun p hp e => off p hp (List.mem_singleton.mpr e)) F₁ (fun p hp => ?_)) (fun _ s₃ hq => wpAny_mono hq (fun f s₂ hq => ?_) fun _ _ e => e) fun _ _ e => e
    · rcases List.mem_cons.mp hp with rfl | hp
      · exact N₁ _ (List.mem_append_left _ hmemI)
      · exact N₁ _ (List.mem_append_right _ hp)
    · refine xE0_2 hq ?_; (try clear hq); intro zq1' zq2'; subst zq1'; refine xE4_6 zq2' ?_; clear zq2'; intro h' tk' m' led' zq3' F' N' off' hm hJ''; subst zq3'
      refine LoopStepV.next ⟨rfl, h', tk', m', led', rfl, F', fun p hp => ?_, fun p hp e => off' p hp (List.mem_singleton.mp e), ⟨m', ?_⟩, hJ''⟩
      · rcases List.mem_append.mp hp with hp | hp
        · have e2 : h.get? p.1 = some p.2 := hget p hp
          rcases List.mem_cons.mp (hsub p hp) with e1 | e1
          · rw [e1, hoI] at e2
            have e3 : p = (s.heap.objs.size, oI) := Prod.ext e1 (Option.some.inj e2).symm
            rw [e3]
            exact N' _ (.head _)
          · have e1 := List.mem_singleton.mp e1
            rw [e1, hlf] at e2
            have e3 : p = (lf, listOf its n) := Prod.ext e1 (Option.some.inj e2).symm
            rw [e3]
            exact N' _ (.tail _ (hmem _ led' hJ''))
        · exact N' p (List.mem_cons_of_mem _ hp)
      · funext y
        by_cases hy : stored.contains y = true
        · rw [if_pos hy]
        · rw [if_neg hy]
          exact hm y (Bool.eq_false_iff.mpr hy)
  · rintro h tk m₁ led₁ F₁ N₁ _ ⟨⟨u, rfl⟩, hJ'⟩
    exact done h tk u led₁ hJ' F₁ N₁
end
end
section
open PySem.Calls
theorem check_room_spec {w : World} {b : Array UInt8} {ks : List Int} {a c : Int} {t1 t2 t3 : Tok} (hb : KBw.bInts b = ks) (hz : ks.length ≤ 1000) :
    Spec w 96 900 900 [.bytes b t1, .int a t2, .int c t3] [] (fun _ _ v => v = .none ∧ 0 ≤ a ∧ a + c ≤ ks.length) (fun what pl => what = "the table ends" ∧ pl = a ∧ ¬ (0 ≤ a ∧ a + c ≤ ks.length)) := by
  ((refine' enter ?ho ?hcd ?hD ?hb ?hl ?_ ?hc ?c1 ?c2 ?c3; (case ho => exact rfl); (case hcd => exact rfl); (case hD => decide); (case hb => exact fun s'r X'r => BindsTo.of_eq rfl); (case hl => exact locs rfl); (case hc => decide); (case c1 => exact rfl); (case c2 => exact rfl); (case c3 => exact rfl); intro p'r loose'r mean'r mg'r mb'r gd'r l'r s'r Q'r E'r g'r L'r h₁'r F'r N'r B'r X'r T'r hL'r hgk'r hgs'r hfp'r hX'r; (try (refine (let mk := _; (fun (FK : Fr _ _ _ mk) => ?_) F'r); clear F'r)); revert X'r; k_fill; intro X'r; (try dsimp only); (try (refine (let mA := _; let mE := _; (?_ : wpAny _ mA (execs _ mE) _ _ _)))); k_fold))
  (repeat' (first | ((with_reducible first | refine nextN ?_ | refine nextR ?_); (try dsimp only)) | (k_unfold; (try dsimp only)) | (k_end; kc_close) | ((with_reducible first | show wpAny _ _ (exec _ _) _ _ _ | show wpAny _ _ (eval (Expr.Call ..) _) _ _ _ | show wpAny _ _ (eval (Expr.BinOp ..) _) _ _ _ | show wpAny _ _ (eval (Expr.Subscript ..) _) _ _ _ | show wpAny _ _ (eval (Expr.List ..) _) _ _ _ | show wpAny _ _ (eval (Expr.Tuple ..) _) _ _ _); (fail_if_success (fail_if_success k_fold)); refine (let qk := _; (?_ : wpAny _ _ _ qk _ _))) | ((with_reducible refine execsN ?_); (try k_gentoks)) | ((with_reducible refine args_cons ?_ ?he); (case he => exact rfl)) | ((with_reducible show wpAny _ _ (exec (Stmt.Raise ..) _) _ _ _); (k_here; (with_reducible show wpAny _ _ (exec (Stmt.Raise (some (Expr.Call (Expr.Name _ _) _ _ _)) none _) _) _ _ _); k_dflt (refine raise_of (by exact rfl) ?_))) | ((with_reducible show wpAny _ _ (call (Value.ref _) _ _) _ _ _); (k_here; k_dflt (refine' fault_here ?hX ?F ?X ?T ?D ?_; (case hX => assumption); (case F => k_asm); (case X => k_asm); (case T => k_asm); (case D => exact Nat.le_of_ble_eq_true rfl)))) | walk1 | (dsimp only; walk1) | (dsimp only [mA]; walk1) | (dsimp only [mE]; walk1) | (dsimp only [mA, mE]; walk1) | (leave1; (try dsimp only))))
  · refine Side.mk ⟨rfl, rfl, ?_⟩; omega
  · refine Side.mk ⟨rfl, rfl, ?_⟩; omega
  · refine ends_ret (by assumption) (by assumption) (P := _) ?_
    refine xI0_3 rfl ?_ ?_ <;> omega
end
section
open PySem.Calls
noncomputable def u16 (ks : List Int) (a : Int) : Except (Str × Int) Int := if 0 ≤ a ∧ a + 2 ≤ ks.length then .ok (ks.getD a.toNat 0 * 256 + ks.getD (a.toNat + 1) 0) else .error ("the table ends", a)
theorem drop_get {ks : List Int} {n : Nat} (h : n < ks.length) : ks.drop n = ks.getD n 0 :: ks.drop (n + 1) := by
  rw [List.drop_eq_getElem_cons h, List.getD_eq_getElem?_getD, List.getElem?_eq_getElem h]; rfl
theorem two_of {ks : List Int} {a : Int} (h0 : 0 ≤ a) (h1 : a + 2 ≤ ks.length) : List.take (clipAt ks.length (a + 2) - clipAt ks.length a) (List.drop (clipAt ks.length a) ks) = [ks.getD a.toNat 0, ks.getD (a.toNat + 1) 0] := by
  rw [clipAt_in h0 (le_of h1 (by decide)), clipAt_in (Int.add_nonneg h0 (by decide)) h1, show (a + 2).toNat = a.toNat + 2 from Int.toNat_add_nat h0 2, Nat.add_sub_cancel_left, drop_get (n := a.toNat) (tn_lt (j := 0) h0 h1 (by decide)), drop_get (tn_lt (j := 1) h0 h1 (by decide))]
  rfl
theorem getD_of {b : Array UInt8} {ks : List Int} (hb : KBw.bInts b = ks) (n : Nat) : 0 ≤ ks.getD n 0 ∧ ks.getD n 0 < 256 := KBw.getD_in fun k hk => KBw.ints_in (hb ▸ hk)
theorem shl8 {w : World} {A : Around} {E : Value → Shared → Prop} {s : Shared} {n : Int} {t u : Tok} {Q : Value → Shared → Prop} (h0 : 0 ≤ n ∧ n < 65536) (h : Q (.int (n * 256) s.toks) { s with toks := s.toks + 1 }) : wpAny (model rw_pb0183_01.row.prog w) A (binaryOp .LShift (.int n t) (.int 8 u)) Q E s :=
  lshift_int_small (by decide) (by decide) (by omega) h
theorem bitOr8 {n c : Int} (h0 : 0 ≤ n ∧ n < 65536) (h1 : 0 ≤ c ∧ c < 256) : Builtin.bitOr (n * 256) c = n * 256 + c := by
  rw [bitOr_and, bitAnd_pp (Int.mul_nonneg h0.1 (by decide)) h1.1, Int.toNat_mul h0.1 (by decide), Nat.mul_comm]
  rw [show (256 : Int).toNat * n.toNat &&& c.toNat = 0 from Nat.add_left_cancel (n := (256 : Int).toNat * n.toNat ||| c.toNat) ((nat_or_add_and _ _).trans ((Nat.two_pow_add_eq_or_of_lt (i := 8) ((Int.toNat_lt h1.1).mpr h1.2) n.toNat).trans (Nat.add_zero _).symm))]
  exact Int.sub_zero _
theorem or8 {w : World} {A : Around} {E : Value → Shared → Prop} {s : Shared} {n c : Int} {t u : Tok} {Q : Value → Shared → Prop} (h0 : 0 ≤ n ∧ n < 65536) (h1 : 0 ≤ c ∧ c < 256) (h : Q (.int (n * 256 + c) s.toks) { s with toks := s.toks + 1 }) : wpAny (model rw_pb0183_01.row.prog w) A (binaryOp .BitOr (.int (n * 256) t) (.int c u)) Q E s :=
  or_int (bitOr8 h0 h1 ▸ h)
theorem number_at_spec {w : World} {b : Array UInt8} {ks : List Int} {a : Int} {t1 t2 t3 : Tok} (hb : KBw.bInts b = ks) (hz : ks.length ≤ 1000) :
    Spec w 103 880 880 [.bytes b t1, .int a t2, .int 2 t3] [] (fun _ _ v => ∃ n t, v = .int n t ∧ u16 ks a = .ok n) (fun what pl => u16 ks a = .error (what, pl)) := by
  have hx := getD_of hb a.toNat
  have hy := getD_of hb (a.toNat + 1)
  ((refine' enter ?ho ?hcd ?hD ?hb ?hl ?_ ?hc ?c1 ?c2 ?c3; (case ho => exact rfl); (case hcd => exact rfl); (case hD => decide); (case hb => exact fun s'r X'r => BindsTo.of_eq rfl); (case hl => exact locs rfl); (case hc => decide); (case c1 => exact rfl); (case c2 => exact rfl); (case c3 => exact rfl); intro p'r loose'r mean'r mg'r mb'r gd'r l'r s'r Q'r E'r g'r L'r h₁'r F'r N'r B'r X'r T'r hL'r hgk'r hgs'r hfp'r hX'r; (try (refine (let mk := _; (fun (FK : Fr _ _ _ mk) => ?_) F'r); clear F'r)); revert X'r; k_fill; intro X'r; (try dsimp only); (try (refine (let mA := _; let mE := _; (?_ : wpAny _ mA (execs _ mE) _ _ _)))); k_fold))
  (repeat' (first | ((with_reducible first | refine nextN ?_ | refine nextR ?_); (try dsimp only)) | (k_unfold; (try dsimp only)) | (k_end; kc_close) | ((with_reducible first | show wpAny _ _ (exec _ _) _ _ _ | show wpAny _ _ (eval (Expr.Call ..) _) _ _ _ | show wpAny _ _ (eval (Expr.BinOp ..) _) _ _ _ | show wpAny _ _ (eval (Expr.Subscript ..) _) _ _ _ | show wpAny _ _ (eval (Expr.List ..) _) _ _ _ | show wpAny _ _ (eval (Expr.Tuple ..) _) _ _ _); (fail_if_success (fail_if_success k_fold)); refine (let qk := _; (?_ : wpAny _ _ _ qk _ _))) | ((with_reducible refine execsN ?_); (try k_gentoks)) | ((with_reducible refine args_cons ?_ ?he); (case he => exact rfl)) | ((with_reducible show wpAny _ _ (exec (Stmt.For (Expr.Name ..) (Expr.Subscript ..) ..) _) _ _ _); (k_here; (rename Fr _ _ _ _ => lF'r); (with_unfolding_all refine' For_invVF lF'r ?k1 ?k2 ?_; (case k1 => exact rfl); (case k2 => exact rfl); k_whole))) | ((with_reducible show wpAny _ _ (binaryOp Operator.BitOr (Value.int ..) (Value.int ..)) _ _ _); (k_here; refine or8 (by omega) (by omega) ?_)) | ((with_reducible show wpAny _ _ (binaryOp Operator.LShift (Value.int ..) (Value.int ..)) _ _ _); (k_here; refine shl8 (by omega) ?_)) | ((with_reducible show wpAny _ _ (call (Value.ref _) _ _) _ _ _); (k_here; (try ((fail_if_success (fail_if_success k_fold)); refine (let qk := _; (?_ : wpAny _ _ _ qk _ _)))); k_dflt (refine' Spec.here (check_room_spec (by kba_ints) (by assumption)) ?hX ?B ?F ?X ?T rfl rfl rfl rfl (Nat.le_of_ble_eq_true rfl) (Nat.le_of_ble_eq_true rfl) ?N ?_ ?_; ((case hX => assumption); (case B => assumption); (case F => k_asm); (case X => k_asm); (case T => k_asm)); (case N => exact News.nil); rotate_left; intro v'r h'r tk'r F'r hb'r hP'r; (try simp only [List.map_cons, List.map_nil] at hb'r); refine xE0_3 hP'r ?_; clear hP'r; intro e'r hP1 hP2; subst e'r; (have N'r := news_back0 (by assumption) hb'r); (try k_sweep)))) | ((with_reducible show wpAny _ _ (pyIter (Value.bytes ..)) _ _ _); ((with_reducible show wpAny _ _ (pyIter (Value.bytes _ _)) (fun it s₂ => LoopAtV _ _ _ _ _ _ _ _ _ it s₂) _ _); k_here; (rename KBw.bInts (KBy.picked _ _ _) = _ => hk'r); (rename (0 : Int) ≤ _ => h0'r); (rename (_ : Int) + 2 ≤ _ => h2'r); rw [two_of h0'r h2'r] at hk'r; k_bytesUnr)) | ((with_reducible show wpAny _ _ (storeName _ _ _) _ _ _); (k_here; k_dflt (refine' storeX_L ?sF ?sN ?_ rfl rfl; (case sF => k_asm); (case sN => k_asm); k_whole; intro hS FS NS; (try k_sweep); refine (let mk := _; (fun (FK : Fr _ _ _ mk) => ?_) FS); clear FS))) | walk1 | (dsimp only; walk1) | (dsimp only [mA]; walk1) | (dsimp only [mE]; walk1) | (dsimp only [mA, mE]; walk1) | (leave1; (try dsimp only))))
  · (try dsimp only)
    rename 0 ≤ a => h0
    rename a + 2 ≤ _ => h2
    refine ends_ret (by assumption) (by assumption) (P := _) ?_
    exact xI2_2 _ _ rfl ((if_pos ⟨h0, h2⟩).trans (by congr 1; omega))
  · exact Side.mk fun what pl ⟨e1, e2, e3⟩ => by rw [e1, e2]; exact if_neg e3
end
section
open PySem.Calls
noncomputable abbrev srcD (kd ka : Int) (td ta tb t : Tok) (b : Array UInt8) (a : Int) : Obj := dictOf [⟨kd, .str "data" td, .bytes b tb⟩, ⟨ka, .str "at" ta, .int a t⟩] 2
noncomputable abbrev src (x dx : Addr) (kd ka : Int) (td ta tb t : Tok) (b : Array UInt8) (a : Int) : List (Addr × Obj) := [(x, instObj 187 dx), (dx, srcD kd ka td ta tb t b a)]
theorem news2 {g h : Heap} {L : Addr} {news : List (Addr × Obj)} {p q : Addr × Obj} (N : News g L h news) (hp : p ∈ news) (hq : q ∈ news) : News g L h [p, q] := fun r hr => by
  rcases List.mem_cons.mp hr with rfl | hr
  · exact N _ hp
  · rw [List.mem_singleton.mp hr]; exact N _ hq
theorem news_back2 {g h h' : Heap} {L x dx : Addr} {news news' : List (Addr × Obj)} {ox od od' : Obj} (N : News g L h news) (hb : Back [x, dx] h h') (hm : (x, ox) ∈ news) (U : Upd dx od od' news news') (hx : h'.get? x = some ox) (hd : h'.get? dx = some od') : News g L h' news' := by
  refine xE2_4 (U.split) ?_; intro pre post zq1' zq2' a1 a2; subst zq1'; subst zq2'
  have go : ∀ p, p ∈ pre ++ (dx, od) :: post → p.1 ≠ dx → h'.get? p.1 = some p.2 ∧ p.1 ≠ L ∧ g.get? p.1 = none := fun p hp hn => by
    refine ⟨?_, (N p hp).2⟩
    by_cases e : p.1 = x
    · have h1 := (N p hp).1
      have h2 := (N _ hm).1
      rw [e] at h1 ⊢
      rw [h1] at h2
      rw [hx, Option.some.inj h2]
    · exact hb.keep _ _ (N p hp).1 (by simp [e, hn])
  intro p hp
  rcases List.mem_append.mp hp with hp | hp
  · exact go p (List.mem_append_left _ hp) (a1 p hp)
  · rcases List.mem_cons.mp hp with rfl | hp
    · exact ⟨hd, (N (dx, od) (by simp)).2⟩
    · exact go p (by simp [hp]) (a2 p hp)
theorem number_spec {w : World} {b : Array UInt8} {ks : List Int} {x dx : Addr} {kd ka : Int} {td ta tb t t3 : Tok} {a : Int} (hb : KBw.bInts b = ks) (hz : ks.length ≤ 1000) (hlt : @LT.lt Nat _ dx x) :
    Spec w 132 860 860 [.ref x, .int 2 t3] (src x dx kd ka td ta tb t b a)
      (fun _ h' v => ∃ r u t', v = .int r u ∧ u16 ks a = .ok r ∧ h'.get? x = some (instObj 187 dx) ∧ h'.get? dx = some (srcD kd ka td ta tb t' b (a + 2))) (fun what pl => u16 ks a = .error (what, pl)) := by
  ((refine' enter ?ho ?hcd ?hD ?hb ?hl ?_ ?hc ?c1 ?c2 ?c3; (case ho => exact rfl); (case hcd => exact rfl); (case hD => decide); (case hb => exact fun s'r X'r => BindsTo.of_eq rfl); (case hl => exact locs rfl); (case hc => decide); (case c1 => exact rfl); (case c2 => exact rfl); (case c3 => exact rfl); intro p'r loose'r mean'r mg'r mb'r gd'r l'r s'r Q'r E'r g'r L'r h₁'r F'r N'r B'r X'r T'r hL'r hgk'r hgs'r hfp'r hX'r; (try (refine (let mk := _; (fun (FK : Fr _ _ _ mk) => ?_) F'r); clear F'r)); revert X'r; k_fill; intro X'r; (try dsimp only); (try (refine (let mA := _; let mE := _; (?_ : wpAny _ mA (execs _ mE) _ _ _)))); k_fold))
  (repeat' (first | ((with_reducible first | refine nextN ?_ | refine nextR ?_); (try dsimp only)) | (k_unfold; (try dsimp only)) | (k_end; kc_close) | ((with_reducible first | show wpAny _ _ (exec _ _) _ _ _ | show wpAny _ _ (eval (Expr.Call ..) _) _ _ _ | show wpAny _ _ (eval (Expr.BinOp ..) _) _ _ _ | show wpAny _ _ (eval (Expr.Subscript ..) _) _ _ _ | show wpAny _ _ (eval (Expr.List ..) _) _ _ _ | show wpAny _ _ (eval (Expr.Tuple ..) _) _ _ _); (fail_if_success (fail_if_success k_fold)); refine (let qk := _; (?_ : wpAny _ _ _ qk _ _))) | ((with_reducible refine execsN ?_); (try k_gentoks)) | ((with_reducible refine args_cons ?_ ?he); (case he => exact rfl)) | ((with_reducible show wpAny _ _ (call (Value.ref _) _ _) _ _ _); (k_here; (try ((fail_if_success (fail_if_success k_fold)); refine (let qk := _; (?_ : wpAny _ _ _ qk _ _)))); k_dflt (refine' Spec.here (number_at_spec (by kba_ints) (by assumption)) ?hX ?B ?F ?X ?T rfl rfl rfl rfl (Nat.le_of_ble_eq_true rfl) (Nat.le_of_ble_eq_true rfl) ?N ?_ ?_; ((case hX => assumption); (case B => assumption); (case F => k_asm); (case X => k_asm); (case T => k_asm)); (case N => exact News.nil); rotate_left; intro v'r h'r tk'r F'r hb'r hP'r; (try simp only [List.map_cons, List.map_nil] at hb'r); refine xE2_2 hP'r ?_; clear hP'r; intro n'r t'r e'r hP1; subst e'r; (have N'r := news_back0 (by assumption) hb'r); (try k_sweep)))) | ((with_reducible show wpAny _ _ (storeName _ _ _) _ _ _); (k_here; k_dflt (refine' storeX_L ?sF ?sN ?_ rfl rfl; (case sF => k_asm); (case sN => k_asm); k_whole; intro hS FS NS; (try k_sweep); refine (let mk := _; (fun (FK : Fr _ _ _ mk) => ?_) FS); clear FS))) | walk1 | (dsimp only; walk1) | (dsimp only [mA]; walk1) | (dsimp only [mE]; walk1) | (dsimp only [mA, mE]; walk1) | (leave1; (try dsimp only))))
  · (try dsimp only)
    refine ends_ret (by assumption) (by assumption) (P := _) ?_
    rename News _ _ _ _ => N9
    exact xI3_4 _ _ _ rfl (by assumption) (N9.get (.head _)) (N9.get (.tail _ (.head _)))
  · exact Side.mk fun what pl h => h
theorem u16_spec {w : World} {b : Array UInt8} {ks : List Int} {x dx : Addr} {kd ka : Int} {td ta tb t : Tok} {a : Int} (hb : KBw.bInts b = ks) (hz : ks.length ≤ 1000) (hlt : @LT.lt Nat _ dx x) :
    Spec w 146 840 840 [.ref x] (src x dx kd ka td ta tb t b a)
      (fun _ h' v => ∃ r u t', v = .int r u ∧ u16 ks a = .ok r ∧ h'.get? x = some (instObj 187 dx) ∧ h'.get? dx = some (srcD kd ka td ta tb t' b (a + 2))) (fun what pl => u16 ks a = .error (what, pl)) := by
  ((refine' enter ?ho ?hcd ?hD ?hb ?hl ?_ ?hc ?c1 ?c2 ?c3; (case ho => exact rfl); (case hcd => exact rfl); (case hD => decide); (case hb => exact fun s'r X'r => BindsTo.of_eq rfl); (case hl => exact locs rfl); (case hc => decide); (case c1 => exact rfl); (case c2 => exact rfl); (case c3 => exact rfl); intro p'r loose'r mean'r mg'r mb'r gd'r l'r s'r Q'r E'r g'r L'r h₁'r F'r N'r B'r X'r T'r hL'r hgk'r hgs'r hfp'r hX'r; (try (refine (let mk := _; (fun (FK : Fr _ _ _ mk) => ?_) F'r); clear F'r)); revert X'r; k_fill; intro X'r; (try dsimp only); (try (refine (let mA := _; let mE := _; (?_ : wpAny _ mA (execs _ mE) _ _ _)))); k_fold))
  (repeat' (first | ((with_reducible first | refine nextN ?_ | refine nextR ?_); (try dsimp only)) | (k_unfold; (try dsimp only)) | (k_end; kc_close) | ((with_reducible first | show wpAny _ _ (exec _ _) _ _ _ | show wpAny _ _ (eval (Expr.Call ..) _) _ _ _ | show wpAny _ _ (eval (Expr.BinOp ..) _) _ _ _ | show wpAny _ _ (eval (Expr.Subscript ..) _) _ _ _ | show wpAny _ _ (eval (Expr.List ..) _) _ _ _ | show wpAny _ _ (eval (Expr.Tuple ..) _) _ _ _); (fail_if_success (fail_if_success k_fold)); refine (let qk := _; (?_ : wpAny _ _ _ qk _ _))) | ((with_reducible refine execsN ?_); (try k_gentoks)) | ((with_reducible refine args_cons ?_ ?he); (case he => exact rfl)) | ((with_reducible show wpAny _ _ (call (Value.ref _) _ _) _ _ _); (k_here; (try ((fail_if_success (fail_if_success k_fold)); refine (let qk := _; (?_ : wpAny _ _ _ qk _ _)))); k_dflt (refine' Spec.here (number_spec (by kba_ints) (by assumption) (by assumption)) ?hX ?B ?F ?X ?T rfl rfl rfl rfl (Nat.le_of_ble_eq_true rfl) (Nat.le_of_ble_eq_true rfl) ?N ?_ ?_; ((case hX => assumption); (case B => assumption); (case F => k_asm); (case X => k_asm); (case T => k_asm)); (case N => exact news2 (by assumption) (by k_mem) (by k_mem)); rotate_left; intro v'r h'r tk'r F'r hb'r hP'r; (try simp only [List.map_cons, List.map_nil] at hb'r); refine xE3_4 hP'r ?_; clear hP'r; intro n'r u'r t'r e'r hP1 hP2 hP3; subst e'r; (have N'r := news_back2 (by assumption) hb'r (by k_mem) (by k_upd) hP2 hP3); (try k_sweep)))) | walk1 | (dsimp only; walk1) | (dsimp only [mA]; walk1) | (dsimp only [mE]; walk1) | (dsimp only [mA, mE]; walk1) | (leave1; (try dsimp only))))
  · (try k_unfold); (try dsimp only)
    refine ends_ret (by assumption) (by assumption) (P := _) ?_
    rename News _ _ _ _ => N9
    exact xI3_4 _ _ _ rfl (by assumption) (N9.get (.head _)) (N9.get (.tail _ (.head _)))
  · exact Side.mk fun what pl h => h
theorem need_spec {w : World} {b : Array UInt8} {ks : List Int} {x dx : Addr} {kd ka : Int} {td ta tb t t3 : Tok} {a c : Int} (hb : KBw.bInts b = ks) (hz : ks.length ≤ 1000) (hlt : @LT.lt Nat _ dx x) :
    Spec w 125 860 860 [.ref x, .int c t3] (src x dx kd ka td ta tb t b a)
      (fun _ h' v => v = .none ∧ (0 ≤ a ∧ a + c ≤ ks.length) ∧ h'.get? x = some (instObj 187 dx) ∧ h'.get? dx = some (srcD kd ka td ta tb t b a)) (fun what pl => what = "the table ends" ∧ pl = a ∧ ¬ (0 ≤ a ∧ a + c ≤ ks.length)) := by
  ((refine' enter ?ho ?hcd ?hD ?hb ?hl ?_ ?hc ?c1 ?c2 ?c3; (case ho => exact rfl); (case hcd => exact rfl); (case hD => decide); (case hb => exact fun s'r X'r => BindsTo.of_eq rfl); (case hl => exact locs rfl); (case hc => decide); (case c1 => exact rfl); (case c2 => exact rfl); (case c3 => exact rfl); intro p'r loose'r mean'r mg'r mb'r gd'r l'r s'r Q'r E'r g'r L'r h₁'r F'r N'r B'r X'r T'r hL'r hgk'r hgs'r hfp'r hX'r; (try (refine (let mk := _; (fun (FK : Fr _ _ _ mk) => ?_) F'r); clear F'r)); revert X'r; k_fill; intro X'r; (try dsimp only); (try (refine (let mA := _; let mE := _; (?_ : wpAny _ mA (execs _ mE) _ _ _)))); k_fold))
  (repeat' (first | ((with_reducible first | refine nextN ?_ | refine nextR ?_); (try dsimp only)) | (k_unfold; (try dsimp only)) | (k_end; kc_close) | ((with_reducible first | show wpAny _ _ (exec _ _) _ _ _ | show wpAny _ _ (eval (Expr.Call ..) _) _ _ _ | show wpAny _ _ (eval (Expr.BinOp ..) _) _ _ _ | show wpAny _ _ (eval (Expr.Subscript ..) _) _ _ _ | show wpAny _ _ (eval (Expr.List ..) _) _ _ _ | show wpAny _ _ (eval (Expr.Tuple ..) _) _ _ _); (fail_if_success (fail_if_success k_fold)); refine (let qk := _; (?_ : wpAny _ _ _ qk _ _))) | ((with_reducible refine execsN ?_); (try k_gentoks)) | ((with_reducible refine args_cons ?_ ?he); (case he => exact rfl)) | ((with_reducible show wpAny _ _ (call (Value.ref _) _ _) _ _ _); (k_here; (try ((fail_if_success (fail_if_success k_fold)); refine (let qk := _; (?_ : wpAny _ _ _ qk _ _)))); k_dflt (refine' Spec.here (check_room_spec (by kba_ints) (by assumption)) ?hX ?B ?F ?X ?T rfl rfl rfl rfl (Nat.le_of_ble_eq_true rfl) (Nat.le_of_ble_eq_true rfl) ?N ?_ ?_; ((case hX => assumption); (case B => assumption); (case F => k_asm); (case X => k_asm); (case T => k_asm)); (case N => exact News.nil); rotate_left; intro v'r h'r tk'r F'r hb'r hP'r; (try simp only [List.map_cons, List.map_nil] at hb'r); refine xE0_3 hP'r ?_; clear hP'r; intro e'r hP1 hP2; subst e'r; (have N'r := news_back0 (by assumption) hb'r); (try k_sweep)))) | walk1 | (dsimp only; walk1) | (dsimp only [mA]; walk1) | (dsimp only [mE]; walk1) | (dsimp only [mA, mE]; walk1) | (leave1; (try dsimp only))))
  · (try k_unfold); (try dsimp only)
    refine ends_ret (by assumption) (by assumption) (P := _) ?_
    rename News _ _ _ _ => N9
    exact xI0_4 rfl ⟨by assumption, by assumption⟩ (N9.get (.head _)) (N9.get (.tail _ (.head _)))
  · exact Side.mk fun what pl h => h
end
section
open PySem.Calls
noncomputable def take4 (ks : List Int) (n : Nat) : List Int := [ks.getD n 0, ks.getD (n + 1) 0, ks.getD (n + 2) 0, ks.getD (n + 3) 0]
noncomputable def tagOf (l : List Int) : Str := ⟨(l.map Int.toNat).toArray⟩
noncomputable def tagAt (ks : List Int) (a : Int) : Except (Str × Int) Str := if 0 ≤ a ∧ a + 4 ≤ ks.length then .ok (tagOf (take4 ks a.toNat)) else .error ("the table ends", a)
theorem four_of {ks : List Int} {a : Int} (h0 : 0 ≤ a) (h1 : a + 4 ≤ ks.length) : List.take (clipAt ks.length (a + 4) - clipAt ks.length a) (List.drop (clipAt ks.length a) ks) = take4 ks a.toNat := by
  rw [clipAt_in h0 (le_of h1 (by decide)), clipAt_in (Int.add_nonneg h0 (by decide)) h1, show (a + 4).toNat = a.toNat + 4 from Int.toNat_add_nat h0 4, Nat.add_sub_cancel_left, drop_get (n := a.toNat) (tn_lt (j := 0) h0 h1 (by decide)), drop_get (tn_lt (j := 1) h0 h1 (by decide)), drop_get (n := a.toNat + 1 + 1) (tn_lt (j := 2) h0 h1 (by decide)), drop_get (n := a.toNat + 1 + 1 + 1) (tn_lt (j := 3) h0 h1 (by decide))]
  rfl
theorem take4_in {b : Array UInt8} {ks : List Int} {n : Nat} (h : KBw.bInts b = take4 ks n) : (0 ≤ (take4 ks n).getD 0 0 ∧ (take4 ks n).getD 0 0 < 256) ∧ (0 ≤ (take4 ks n).getD (0 + 1) 0 ∧ (take4 ks n).getD (0 + 1) 0 < 256) ∧ (0 ≤ (take4 ks n).getD (0 + 1 + 1) 0 ∧ (take4 ks n).getD (0 + 1 + 1) 0 < 256) ∧ (0 ≤ (take4 ks n).getD (0 + 1 + 1 + 1) 0 ∧ (take4 ks n).getD (0 + 1 + 1 + 1) 0 < 256) := by
  have hin : ∀ k ∈ take4 ks n, 0 ≤ k ∧ k < 256 := fun k hk => KBw.ints_in (b := b) (h ▸ hk)
  exact xI0_4 (hin _ (by simp [take4])) (hin _ (by simp [take4])) (hin _ (by simp [take4])) (hin _ (by simp [take4]))
theorem tag_spec {w : World} {b : Array UInt8} {ks : List Int} {x dx : Addr} {kd ka : Int} {td ta tb t : Tok} {a : Int} (hb : KBw.bInts b = ks) (hz : ks.length ≤ 1000) (hlt : @LT.lt Nat _ dx x) :
    Spec w 172 840 840 [.ref x] (src x dx kd ka td ta tb t b a)
      (fun _ h' v => ∃ r u t', v = .str r u ∧ tagAt ks a = .ok r ∧ h'.get? x = some (instObj 187 dx) ∧ h'.get? dx = some (srcD kd ka td ta tb t' b (a + 4))) (fun what pl => tagAt ks a = .error (what, pl)) := by
  ((refine' enter ?ho ?hcd ?hD ?hb ?hl ?_ ?hc ?c1 ?c2 ?c3; (case ho => exact rfl); (case hcd => exact rfl); (case hD => decide); (case hb => exact fun s'r X'r => BindsTo.of_eq rfl); (case hl => exact locs rfl); (case hc => decide); (case c1 => exact rfl); (case c2 => exact rfl); (case c3 => exact rfl); intro p'r loose'r mean'r mg'r mb'r gd'r l'r s'r Q'r E'r g'r L'r h₁'r F'r N'r B'r X'r T'r hL'r hgk'r hgs'r hfp'r hX'r; (try (refine (let mk := _; (fun (FK : Fr _ _ _ mk) => ?_) F'r); clear F'r)); revert X'r; k_fill; intro X'r; (try dsimp only); (try (refine (let mA := _; let mE := _; (?_ : wpAny _ mA (execs _ mE) _ _ _)))); k_fold))
  (repeat' (first | ((with_reducible first | refine nextN ?_ | refine nextR ?_); (try dsimp only)) | (k_unfold; (try dsimp only)) | (k_end; kc_close) | ((with_reducible first | show wpAny _ _ (exec _ _) _ _ _ | show wpAny _ _ (eval (Expr.Call ..) _) _ _ _ | show wpAny _ _ (eval (Expr.BinOp ..) _) _ _ _ | show wpAny _ _ (eval (Expr.Subscript ..) _) _ _ _ | show wpAny _ _ (eval (Expr.List ..) _) _ _ _ | show wpAny _ _ (eval (Expr.Tuple ..) _) _ _ _); (fail_if_success (fail_if_success k_fold)); refine (let qk := _; (?_ : wpAny _ _ _ qk _ _))) | ((with_reducible refine execsN ?_); (try k_gentoks)) | ((with_reducible refine args_cons ?_ ?he); (case he => exact rfl)) | ((with_reducible show wpAny _ _ (eval (Expr.ListComp ..) _) _ _ _); (k_here; k_dflt (refine comp_bytes (by k_asm) (by rfl) (by decide) (by rfl) (by decide) (by rfl) ?_))) | ((with_reducible show wpAny _ _ (call (Value.ref _) _ _) _ _ _); (k_here; (try ((fail_if_success (fail_if_success k_fold)); refine (let qk := _; (?_ : wpAny _ _ _ qk _ _)))); k_dflt (refine' Spec.here (need_spec (by kba_ints) (by assumption) (by assumption)) ?hX ?B ?F ?X ?T rfl rfl rfl rfl (Nat.le_of_ble_eq_true rfl) (Nat.le_of_ble_eq_true rfl) ?N ?_ ?_; ((case hX => assumption); (case B => assumption); (case F => k_asm); (case X => k_asm); (case T => k_asm)); (case N => exact news2 (by assumption) (by k_mem) (by k_mem)); rotate_left; intro v'r h'r tk'r F'r hb'r hP'r; (try simp only [List.map_cons, List.map_nil] at hb'r); refine xE0_4 hP'r ?_; clear hP'r; intro e'r hP1 hP2 hP3; subst e'r; (have N'r := news_back2 (by assumption) hb'r (by k_mem) (by k_upd) hP2 hP3); (try k_sweep)))) | ((with_reducible show wpAny _ _ (storeName _ _ _) _ _ _); (k_here; k_dflt (refine' storeX_L ?sF ?sN ?_ rfl rfl; (case sF => k_asm); (case sN => k_asm); k_whole; intro hS FS NS; (try k_sweep); refine (let mk := _; (fun (FK : Fr _ _ _ mk) => ?_) FS); clear FS))) | walk1 | (dsimp only; walk1) | (dsimp only [mA]; walk1) | (dsimp only [mE]; walk1) | (dsimp only [mA, mE]; walk1) | (leave1; (try dsimp only))))
  · rename KBw.bInts (KBy.picked b (some a) (some (a + 4))) = _ => hk4
    rename 0 ≤ a ∧ a + 4 ≤ (ks.length : Int) => hr4
    have hk4 := hk4.trans (four_of hr4.1 hr4.2)
    refine xE0_4 (take4_in hk4) ?_; intro b0 b1 b2 b3
    refine xI4_7 _ _ _ _ rfl rfl hk4 (by k_asm) (by k_asm) (by show 4 ≤ sizeLine; rw [sizeLine_eq]; decide) (fun g' => ?_)
    lcg_lit
    (repeat' (first | ((with_reducible first | refine nextN ?_ | refine nextR ?_); (try dsimp only)) | (k_unfold; (try dsimp only)) | (k_end; kc_close) | ((with_reducible first | show wpAny _ _ (exec _ _) _ _ _ | show wpAny _ _ (eval (Expr.Call ..) _) _ _ _ | show wpAny _ _ (eval (Expr.BinOp ..) _) _ _ _ | show wpAny _ _ (eval (Expr.Subscript ..) _) _ _ _ | show wpAny _ _ (eval (Expr.List ..) _) _ _ _ | show wpAny _ _ (eval (Expr.Tuple ..) _) _ _ _); (fail_if_success (fail_if_success k_fold)); refine (let qk := _; (?_ : wpAny _ _ _ qk _ _))) | ((with_reducible refine execsN ?_); (try k_gentoks)) | ((with_reducible refine args_cons ?_ ?he); (case he => exact rfl)) | walk1 | (dsimp only; walk1) | (dsimp only [mA]; walk1) | (dsimp only [mE]; walk1) | (dsimp only [mA, mE]; walk1) | (leave1; (try dsimp only))))
    rename News _ _ _ ((_, LCg.lst _) :: _) => NJ
    (try refine join_listW (News.isList NJ (.head _)) (.cons _ _ (.cons _ _ (.cons _ _ (.cons _ _ .nil)))) (by decide) (Nat.le_of_ble_eq_true rfl) fun t' k => ?_)
    (try k_unfold); (try dsimp only)
    refine ends_ret (by assumption) (by assumption) (P := _) ?_
    refine xI3_4 _ _ _ rfl ?_ (NJ.get (by k_mem)) (NJ.get (by k_mem))
    unfold tagAt
    rw [if_pos hr4]
    rfl
  · exact Side.mk fun what pl h => by
      refine xE0_3 h ?_; (try clear h); intro zq1' zq2' h; subst zq1'; subst zq2'
      unfold tagAt
      rw [if_neg h]
end
section
open PySem.Calls
noncomputable def u16n (ks : List Int) (n : Nat) : Int := ks.getD n 0 * 256 + ks.getD (n + 1) 0
noncomputable def rowsAt (ks : List Int) (a : Int) (c : Nat) : Except (Str × Int) (List Int) := if 0 ≤ a ∧ a + 2 * (c : Int) ≤ ks.length then .ok ((List.range c).map fun i => u16n ks (a.toNat + 2 * i)) else .error ("the table ends", a)
theorem fresh_of {s g h : Heap} {L D : Addr} {fp news : List (Addr × Obj)} {o : Obj} (hgk : ∀ b o, s.get? b = some o → b ∉ fp.map (·.1) → g.get? b = some o) (N : News g L h news) (hm : (D, o) ∈ news) (hf : D ∉ fp.map (·.1)) : s.get? D = none := by
  cases e : s.get? D with
  | none => rfl
  | some o' =>
    have := (N _ hm).2.2
    rw [hgk D o' e hf] at this; cases this
theorem IntsAre.snoc {t : Tok} (n : Int) : ∀ {vs : List Value} {ns : List Int}, IntsAre vs ns → IntsAre (vs ++ [.int n t]) (ns ++ [n])
  | _, _, .nil => .cons n t .nil
  | _, _, .cons k u r => .cons k u (IntsAre.snoc n r)
theorem u16_in {ks : List Int} {a : Int} {i c : Nat} (h : 0 ≤ a ∧ a + 2 * (c : Int) ≤ (ks.length : Int)) (hi : i < c) : u16 ks (a + 2 * (i : Int)) = .ok (u16n ks (a.toNat + 2 * i)) := by
  unfold u16
  rw [if_pos ⟨Int.add_nonneg h.1 (Int.natCast_nonneg (2 * i)), two_le h.2 hi⟩, show (a + 2 * (i : Int)).toNat = a.toNat + 2 * i from Int.toNat_add_nat h.1 (2 * i)]
  rfl
theorem rows_spec {w : World} {b : Array UInt8} {ks : List Int} {x dx : Addr} {kd ka : Int} {td ta tb t t3 : Tok} {a : Int} {c : Nat} (hb : KBw.bInts b = ks) (hz : ks.length ≤ 1000) (hlt : @LT.lt Nat _ dx x) (hc : c < 65536) :
    Spec w 177 820 820 [.ref x, .int (c : Int) t3] (src x dx kd ka td ta tb t b a)
      (fun h h' v => ∃ lx its rs t', v = .ref lx ∧ h.get? lx = none ∧ h'.get? lx = some (LCg.lst its) ∧ IntsAre its rs ∧ rowsAt ks a c = .ok rs ∧ h'.get? x = some (instObj 187 dx) ∧ h'.get? dx = some (srcD kd ka td ta tb t' b (a + 2 * c))) (fun what pl => rowsAt ks a c = .error (what, pl)) := by
  ((refine' enterC ?ho ?hcd ?hD ?hb ?hkd ?hnd ?_ ?c1 ?c2 ?c3; (case ho => exact rfl); (case hcd => exact rfl); (case hD => decide); (case hb => exact fun s'r X'r => BindsTo.of_eq rfl); (case hkd => exact rfl); (case hnd => decide +kernel); (case c1 => exact rfl); (case c2 => exact rfl); (case c3 => exact rfl); intro p'r loose'r mean'r mg'r mb'r gd'r l'r s'r Q'r E'r g'r L'r h₁'r tk'r cells'r F'r N'r Y'r B'r X'r T'r hL'r hgk'r hgs'r hfp'r l1'r hX'r; (try (refine (let mk := _; (fun (FK : Fr _ _ _ mk) => ?_) F'r); clear F'r)); revert X'r; k_fill; intro X'r; (try k_lt l1'r); k_cells Y'r; (try simp only [List.cons_append, List.nil_append] at N'r); (try dsimp only); (try (refine (let mA := _; let mE := _; (?_ : wpAny _ mA (execs _ mE) _ _ _)))); (try k_fold)))
  (repeat' (first | ((with_reducible first | refine nextN ?_ | refine nextR ?_); (try dsimp only)) | (k_unfold; (try dsimp only)) | (k_end; kc_close) | ((with_reducible first | show wpAny _ _ (exec _ _) _ _ _ | show wpAny _ _ (eval (Expr.Call ..) _) _ _ _ | show wpAny _ _ (eval (Expr.BinOp ..) _) _ _ _ | show wpAny _ _ (eval (Expr.Subscript ..) _) _ _ _ | show wpAny _ _ (eval (Expr.List ..) _) _ _ _ | show wpAny _ _ (eval (Expr.Tuple ..) _) _ _ _); (fail_if_success (fail_if_success k_fold)); refine (let qk := _; (?_ : wpAny _ _ _ qk _ _))) | ((with_reducible refine execsN ?_); (try k_gentoks)) | ((with_reducible refine args_cons ?_ ?he); (case he => exact rfl)) | ((with_reducible show wpAny _ _ (eval (Expr.ListComp ..) _) _ _ _); (k_here; k_dflt (refine comp_held (by k_asm) (by with_unfolding_all rfl) (by decide) (by rfl) (by decide) (by rfl) ?_))) | ((with_reducible show wpAny _ _ (call (Value.ref _) _ _) _ _ _); (k_here; (try ((fail_if_success (fail_if_success k_fold)); refine (let qk := _; (?_ : wpAny _ _ _ qk _ _)))); k_dflt (refine' Spec.here (need_spec (by kba_ints) (by assumption) (by assumption)) ?hX ?B ?F ?X ?T rfl rfl rfl rfl (Nat.le_of_ble_eq_true rfl) (Nat.le_of_ble_eq_true rfl) ?N ?_ ?_; ((case hX => assumption); (case B => assumption); (case F => k_asm); (case X => k_asm); (case T => k_asm)); (case N => exact news2 (by assumption) (by k_mem) (by k_mem)); rotate_left; intro v'r h'r tk'r F'r hb'r hP'r; (try simp only [List.map_cons, List.map_nil] at hb'r); refine xE0_4 hP'r ?_; clear hP'r; intro e'r hP1 hP2 hP3; subst e'r; (have N'r := news_back2 (by assumption) hb'r (by k_mem) (by k_upd) hP2 hP3); (try k_sweep)))) | walk1 | (dsimp only; walk1) | (dsimp only [mA]; walk1) | (dsimp only [mE]; walk1) | (dsimp only [mA, mE]; walk1) | (leave1; (try dsimp only))))
  · rename 0 ≤ a ∧ a + 2 * (c : Int) ≤ (ks.length : Int) => hr4
    have hsz : c ≤ sizeLine := by rw [sizeLine_eq]; omega
    rename News _ _ _ _ => N9
    rename Fr _ _ _ _ => F9
    refine Side.mk (LCg.CompSrc.range (by rfl) F9 N9 (by assumption) (small_one (by omega) (by omega) (by omega) (by omega)) (by exact rangeSize_nat 0 c) hsz fun g' => ?_)
    refine comp_turns (fun i ys news => Side (∃ t' rs, news = [(_, _), (x, instObj 187 dx), (dx, srcD kd ka td ta tb t' b (a + 2 * (i : Int)))] ∧ IntsAre ys rs ∧ rs = (List.range i).map fun j => u16n ks (a.toNat + 2 * j))) ?_ ?_ c 0 [] _ (Nat.zero_add _) ⟨t, [], by rw [Int.natCast_zero, Int.mul_zero, Int.add_zero], .nil, rfl⟩
    · intro i v ys news I oI C oC D m₂ h tk E' hi hv hJ hC hx F N off ne
      refine xE2_3 (hJ.out) ?_; intro t' rs zq1' hys zq2'; subst zq1'; subst zq2'
      refine xE1_1 hv ?_; (try clear hv); intro t9 zq3'; subst zq3'
      simp only [LCg.Off3, and_true] at off
      (repeat' (first | ((with_reducible first | refine nextN ?_ | refine nextR ?_); (try dsimp only)) | (k_unfold; (try dsimp only)) | (k_end; kc_close) | ((with_reducible first | show wpAny _ _ (exec _ _) _ _ _ | show wpAny _ _ (eval (Expr.Call ..) _) _ _ _ | show wpAny _ _ (eval (Expr.BinOp ..) _) _ _ _ | show wpAny _ _ (eval (Expr.Subscript ..) _) _ _ _ | show wpAny _ _ (eval (Expr.List ..) _) _ _ _ | show wpAny _ _ (eval (Expr.Tuple ..) _) _ _ _); (fail_if_success (fail_if_success k_fold)); refine (let qk := _; (?_ : wpAny _ _ _ qk _ _))) | ((with_reducible refine execsN ?_); (try k_gentoks)) | ((with_reducible refine args_cons ?_ ?he); (case he => exact rfl)) | ((with_reducible show wpAny _ _ (call (Value.ref _) _ _) _ _ _); (k_here; (try ((fail_if_success (fail_if_success k_fold)); refine (let qk := _; (?_ : wpAny _ _ _ qk _ _)))); k_dflt (refine' Spec.calm (u16_spec (by kba_ints) (by assumption) (by assumption)) ?B ?F ?X ?T rfl rfl rfl rfl (Nat.le_of_ble_eq_true rfl) (Nat.le_of_ble_eq_true rfl) ?N ?hR ?_; ((case B => assumption); (case F => k_asm); (case X => k_asm); (case T => k_asm)); (case N => exact news2 (by assumption) (by k_mem) (by k_mem)); (case hR => exact fun what pl hr => by rw [u16_in (by assumption) (by assumption)] at hr; cases hr); intro v'r h'r tk'r F'r hb'r hP'r; (try simp only [List.map_cons, List.map_nil] at hb'r); refine xE3_4 hP'r ?_; clear hP'r; intro n'r u'r t'r e'r hP1 hP2 hP3; subst e'r; (have N'r := news_back2 (by assumption) hb'r (by k_mem) (by k_upd) hP2 hP3); (try k_sweep)))) | walk1 | (dsimp only; walk1) | (dsimp only [mA]; walk1) | (dsimp only [mE]; walk1) | (dsimp only [mA, mE]; walk1) | (leave1; (try dsimp only))))
      rename u16 ks _ = .ok _ => hu
      rw [u16_in hr4 hi] at hu
      refine Side.mk ⟨_, _, by rw [show a + 2 * ((i + 1 : Nat) : Int) = a + 2 * (i : Int) + 2 by omega], IntsAre.snoc _ hys, ?_⟩
      rw [List.range_succ, List.map_append]
      cases hu
      rfl
    · intro ys news hJ
      refine xE2_3 (hJ.out) ?_; intro t' rs zq4' hys hrs; subst zq4'
      intro D h tk F N o1
      (try k_unfold); (try dsimp only)
      refine ends_ret (by assumption) F (P := _) ?_
      refine xI4_7 _ _ _ _ rfl (fresh_of (by assumption) N (.head _) (by obtain ⟨_, o2, o3, _⟩ := o1; simp only [List.map_cons, List.map_nil, List.mem_cons, List.not_mem_nil, or_false, not_or]; exact ⟨fun e => o2 e.symm, fun e => o3 e.symm⟩)) (N.get (.head _)) hys (by unfold rowsAt; rw [if_pos hr4, hrs]) (N.get (by k_mem)) (N.get (by k_mem))
  · exact Side.mk fun what pl h => by
      refine xE0_3 h ?_; (try clear h); intro zq5' zq6' h; subst zq5'; subst zq6'
      unfold rowsAt
      rw [if_neg h]
end
section
open PySem.Calls
noncomputable def offB (ks : List Int) (a begin : Int) : Except (Str × Int) Int := match u16 ks a with
  | .error e => .error e
  | .ok o => if o = 0 then .error ("an offset of 0", a) else .ok (begin + o)
theorem offset_spec {w : World} {b : Array UInt8} {ks : List Int} {x dx : Addr} {kd ka : Int} {td ta tb t t3 : Tok} {a c : Int} (hb : KBw.bInts b = ks) (hz : ks.length ≤ 1000) (hlt : @LT.lt Nat _ dx x) :
    Spec w 280 800 800 [.ref x, .int c t3] (src x dx kd ka td ta tb t b a)
      (fun _ h' v => ∃ r u t', v = .int r u ∧ offB ks a c = .ok r ∧ h'.get? x = some (instObj 187 dx) ∧ h'.get? dx = some (srcD kd ka td ta tb t' b (a + 2))) (fun what pl => offB ks a c = .error (what, pl)) := by
  ((refine' enter ?ho ?hcd ?hD ?hb ?hl ?_ ?hc ?c1 ?c2 ?c3; (case ho => exact rfl); (case hcd => exact rfl); (case hD => decide); (case hb => exact fun s'r X'r => BindsTo.of_eq rfl); (case hl => exact locs rfl); (case hc => decide); (case c1 => exact rfl); (case c2 => exact rfl); (case c3 => exact rfl); intro p'r loose'r mean'r mg'r mb'r gd'r l'r s'r Q'r E'r g'r L'r h₁'r F'r N'r B'r X'r T'r hL'r hgk'r hgs'r hfp'r hX'r; (try (refine (let mk := _; (fun (FK : Fr _ _ _ mk) => ?_) F'r); clear F'r)); revert X'r; k_fill; intro X'r; (try dsimp only); (try (refine (let mA := _; let mE := _; (?_ : wpAny _ mA (execs _ mE) _ _ _)))); k_fold))
  (repeat' (first | ((with_reducible first | refine nextN ?_ | refine nextR ?_); (try dsimp only)) | (k_unfold; (try dsimp only)) | (k_end; kc_close) | ((with_reducible first | show wpAny _ _ (exec _ _) _ _ _ | show wpAny _ _ (eval (Expr.Call ..) _) _ _ _ | show wpAny _ _ (eval (Expr.BinOp ..) _) _ _ _ | show wpAny _ _ (eval (Expr.Subscript ..) _) _ _ _ | show wpAny _ _ (eval (Expr.List ..) _) _ _ _ | show wpAny _ _ (eval (Expr.Tuple ..) _) _ _ _); (fail_if_success (fail_if_success k_fold)); refine (let qk := _; (?_ : wpAny _ _ _ qk _ _))) | ((with_reducible refine execsN ?_); (try k_gentoks)) | ((with_reducible refine args_cons ?_ ?he); (case he => exact rfl)) | ((with_reducible show wpAny _ _ (exec (Stmt.Raise ..) _) _ _ _); (k_here; (with_reducible show wpAny _ _ (exec (Stmt.Raise (some (Expr.Call (Expr.Name _ _) _ _ _)) none _) _) _ _ _); k_dflt (refine raise_of (by exact rfl) ?_))) | ((with_reducible show wpAny _ _ (call (Value.ref _) _ _) _ _ _); first | ((k_here; (try ((fail_if_success (fail_if_success k_fold)); refine (let qk := _; (?_ : wpAny _ _ _ qk _ _)))); k_dflt (refine' Spec.here (u16_spec (by kba_ints) (by assumption) (by assumption)) ?hX ?B ?F ?X ?T rfl rfl rfl rfl (Nat.le_of_ble_eq_true rfl) (Nat.le_of_ble_eq_true rfl) ?N ?_ ?_; ((case hX => assumption); (case B => assumption); (case F => k_asm); (case X => k_asm); (case T => k_asm)); (case N => exact news2 (by assumption) (by k_mem) (by k_mem)); rotate_left; intro v'r h'r tk'r F'r hb'r hP'r; (try simp only [List.map_cons, List.map_nil] at hb'r); refine xE3_4 hP'r ?_; clear hP'r; intro n'r u'r t'r e'r hP1 hP2 hP3; subst e'r; (have N'r := news_back2 (by assumption) hb'r (by k_mem) (by k_upd) hP2 hP3); (try k_sweep)))) | ((k_here; k_dflt (refine' fault_here ?hX ?F ?X ?T ?D ?_; (case hX => assumption); (case F => k_asm); (case X => k_asm); (case T => k_asm); (case D => exact Nat.le_of_ble_eq_true rfl))))) | ((with_reducible show wpAny _ _ (storeName _ _ _) _ _ _); (k_here; k_dflt (refine' storeX_L ?sF ?sN ?_ rfl rfl; (case sF => k_asm); (case sN => k_asm); k_whole; intro hS FS NS; (try k_sweep); refine (let mk := _; (fun (FK : Fr _ _ _ mk) => ?_) FS); clear FS))) | walk1 | (dsimp only; walk1) | (dsimp only [mA]; walk1) | (dsimp only [mE]; walk1) | (dsimp only [mA, mE]; walk1) | (leave1; (try dsimp only))))
  · rename u16 ks a = .ok _ => hu
    refine Side.mk ?_
    unfold offB
    rw [hu]
    exact if_pos (by first | assumption | omega)
  · (try dsimp only)
    rename u16 ks a = .ok _ => hu
    refine ends_ret (by assumption) (by assumption) (P := _) ?_
    rename News _ _ _ _ => N9
    refine xI3_4 _ _ _ rfl ?_ (N9.get (by k_mem)) (N9.get (by k_mem))
    unfold offB
    rw [hu]
    exact if_neg (by assumption)
  · exact Side.mk fun what pl h => by unfold offB; rw [h]
end
section
open PySem.Calls
noncomputable def andE {α β : Type} (x : Except (Str × Int) α) (f : α → Except (Str × Int) β) : Except (Str × Int) β := match x with
  | .error e => .error e
  | .ok a => f a
theorem andE_ok {α β : Type} {x : Except (Str × Int) α} {a : α} {f : α → Except (Str × Int) β} (h : x = .ok a) : andE x f = f a := by rw [h]; rfl
theorem andE_err {α β : Type} {x : Except (Str × Int) α} {e : Str × Int} {f : α → Except (Str × Int) β} (h : x = .error e) : andE x f = .error e := by rw [h]; rfl
theorem u16_lt {b : Array UInt8} {ks : List Int} {a n : Int} (hb : KBw.bInts b = ks) (h : u16 ks a = .ok n) : 0 ≤ n ∧ n < 65536 := by
  have hx := getD_of hb a.toNat
  have hy := getD_of hb (a.toNat + 1)
  unfold u16 at h
  split at h
  · cases h; exact ⟨Int.add_nonneg (Int.mul_nonneg hx.1 (by decide)) hy.1, Int.lt_of_lt_of_le (Int.add_lt_add_of_le_of_lt (Int.mul_le_mul_of_nonneg_right (show ks.getD a.toNat 0 ≤ 255 from Int.le_of_lt_add_one hx.2) (by decide : (0 : Int) ≤ 256)) hy.2) (by decide)⟩
  · cases h
theorem rowsI_spec {w : World} {b : Array UInt8} {ks : List Int} {x dx : Addr} {kd ka : Int} {td ta tb t t3 : Tok} {a c : Int} (hb : KBw.bInts b = ks) (hz : ks.length ≤ 1000) (hlt : @LT.lt Nat _ dx x) (hc : 0 ≤ c ∧ c < 65536) :
    Spec w 177 820 820 [.ref x, .int c t3] (src x dx kd ka td ta tb t b a)
      (fun h h' v => ∃ lx its rs t', v = .ref lx ∧ h.get? lx = none ∧ h'.get? lx = some (LCg.lst its) ∧ IntsAre its rs ∧ rowsAt ks a c.toNat = .ok rs ∧ h'.get? x = some (instObj 187 dx) ∧ h'.get? dx = some (srcD kd ka td ta tb t' b (a + 2 * c))) (fun what pl => rowsAt ks a c.toNat = .error (what, pl)) := by
  obtain ⟨n, rfl⟩ : ∃ n : Nat, c = (n : Int) := ⟨c.toNat, by omega⟩
  have := rows_spec (w := w) (t3 := t3) (kd := kd) (ka := ka) (td := td) (ta := ta) (tb := tb) (t := t) (a := a) (c := n) hb hz hlt (by omega)
  rw [Int.toNat_natCast]
  exact this
theorem rows_size {ks : List Int} {a c : Int} {its : List Value} {rs : List Int} (h : rowsAt ks a c.toNat = .ok rs) (hi : IntsAre its rs) (hc : 0 ≤ c ∧ c < 65536) : its.toArray.size ≤ sizeLine := by
  have := hi.length
  unfold rowsAt at h
  split at h
  · cases h
    rw [List.length_map, List.length_range] at this
    rw [List.size_toArray, sizeLine_eq, this]; omega
  · cases h
theorem news_new {g h₁ h₂ : Heap} {L lx : Addr} {led : List (Addr × Obj)} {m : Str → Option Value} {o : Obj} (F : Fr g L h₁ m) (hn : h₁.get? lx = none) (ho : h₂.get? lx = some o) (N : News g L h₂ led) : News g L h₂ ((lx, o) :: led) := fun q hq => by
  rcases List.mem_cons.mp hq with rfl | hq
  · refine xI0_3 ho (fun e => ?_) ?_
    · refine xE3_2 (F.ns) ?_; intro oL _ _ hoL _
      have e : lx = L := e
      rw [e, hoL] at hn; cases hn
    · cases e : g.get? lx with
      | none => rfl
      | some o' => rw [F.keep _ _ e] at hn; cases hn
  · exact N q hq
theorem news_off {g h₁ : Heap} {L lx : Addr} {led : List (Addr × Obj)} (hn : h₁.get? lx = none) (N : News g L h₁ led) : LCg.Off1 lx led := by
  induction led with
  | nil => trivial
  | cons p r ih =>
    refine ⟨fun e => ?_, ih fun q hq => N q (.tail _ hq)⟩
    have e : p.1 = lx := e
    rw [← e, (N p (.head _)).1] at hn
    cases hn
noncomputable abbrev langD (k1 k2 : Int) (t1 t2 t3 : Tok) (r : Int) (lx : Addr) : Obj := dictOf [⟨k1, .str "required" t1, .int r t2⟩, ⟨k2, .str "features" t3, .ref lx⟩] 2
def Made (h h' : Heap) (tl : List (Addr × Obj)) : Prop := ∀ p ∈ tl, h'.get? p.1 = some p.2 ∧ h.get? p.1 = none
theorem Made.of {s g h : Heap} {L : Addr} {news tl : List (Addr × Obj)} (hgk : ∀ b o, s.get? b = some o → b ∉ ([] : List (Addr × Obj)).map (·.1) → g.get? b = some o) (N : News g L h news) (hs : ∀ p ∈ tl, p ∈ news) : Made s h tl :=
  fun _ hp => ⟨N.get (hs _ hp), fresh_of (fp := []) hgk N (hs _ hp) List.not_mem_nil⟩
theorem Made.news {g h₁ h₂ : Heap} {L : Addr} {led tl : List (Addr × Obj)} {m : Str → Option Value} (M : Made h₁ h₂ tl) (F : Fr g L h₁ m) (N : News g L h₂ led) : News g L h₂ (led ++ tl) := fun q hq => by
  rcases List.mem_append.mp hq with hq | hq
  · exact N q hq
  · refine xI0_3 ((M q hq).1) (fun e => ?_) ?_
    · refine xE3_2 (F.ns) ?_; intro oL _ _ hoL _
      have := (M q hq).2
      rw [e, hoL] at this; cases this
    · cases e : g.get? q.1 with
      | none => rfl
      | some o' => have := (M q hq).2; rw [F.keep _ _ e] at this; cases this
theorem Made.off {g h₁ h₂ : Heap} {L : Addr} {led tl : List (Addr × Obj)} (M : Made h₁ h₂ tl) (N : News g L h₁ led) : OwnOff tl (led.map (·.1)) := fun p hp q hq => by
  refine xE1_2 (List.mem_map.mp hq) ?_; intro x hx zq1'; subst zq1'
  intro e
  have := (M p hp).2
  rw [e, (N x hx).1] at this
  cases this
def LangIn (tl : List (Addr × Obj)) (v : Value) (r : Int) (fs : List Int) : Prop :=
  ∃ x dx lx its c k1 k2 t1 t2 t3, v = .ref x ∧ (x, instObj 215 dx) ∈ tl ∧ (dx, langD k1 k2 t1 t2 t3 r lx) ∈ tl ∧ (lx, listOf its.toArray c) ∈ tl ∧ IntsAre its fs
theorem LangIn.mono {tl tl' : List (Addr × Obj)} {v : Value} {r : Int} {fs : List Int} (hs : ∀ p ∈ tl, p ∈ tl') : LangIn tl v r fs → LangIn tl' v r fs := fun h => by
  refine xE10_5 h ?_; (try clear h); intro x dx lx its c k1 k2 t1 t2 t3 e a b d i
  exact xI10_5 x dx lx its c k1 k2 t1 t2 t3 e (hs _ a) (hs _ b) (hs _ d) i
theorem LangIn.made {x dx lx : Addr} {its : List Value} {c : Nat} {k1 k2 r : Int} {t1 t2 t3 : Tok} {fs : List Int} {tl : List (Addr × Obj)} (hi : IntsAre its fs) : LangIn ((x, instObj 215 dx) :: (dx, langD k1 k2 t1 t2 t3 r lx) :: (lx, listOf its.toArray c) :: tl) (.ref x) r fs := by
  exact xI10_5 x dx lx its c k1 k2 t1 t2 t3 rfl (.head _) (.tail _ (.head _)) (.tail _ (.tail _ (.head _))) hi
theorem mem3 {α : Type} {a b c : α} {l : List α} (h1 : a ∈ l) (h2 : b ∈ l) (h3 : c ∈ l) : ∀ p ∈ [a, b, c], p ∈ l :=
  List.forall_mem_cons.mpr ⟨h1, List.forall_mem_cons.mpr ⟨h2, List.forall_mem_cons.mpr ⟨h3, fun _ h => nomatch h⟩⟩⟩
noncomputable def langB (ks : List Int) (a : Int) : Except (Str × Int) (Int × List Int) :=
  andE (u16 ks a) fun _ => andE (u16 ks (a + 2)) fun r => andE (u16 ks (a + 2 + 2)) fun c => andE (rowsAt ks (a + 2 + 2 + 2) c.toNat) fun fs => .ok (if r = 65535 then -1 else r, fs)
theorem langs_made {s g h : Heap} {L x dx lx : Addr} {news : List (Addr × Obj)} {its : List Value} {c : Nat} {k1 k2 r a : Int} {t1 t2 t3 : Tok} {fs ks : List Int} (hgk : ∀ b o, s.get? b = some o → b ∉ ([] : List (Addr × Obj)).map (·.1) → g.get? b = some o) (N : News g L h news)
    (h1 : (x, instObj 215 dx) ∈ news) (h2 : (dx, langD k1 k2 t1 t2 t3 r lx) ∈ news) (h3 : (lx, listOf its.toArray c) ∈ news) (hi : IntsAre its fs) (hB : langB ks a = .ok (r, fs)) : ∃ tl r fs, Made s h tl ∧ LangIn tl (.ref x) r fs ∧ langB ks a = .ok (r, fs) := by
  exact xI3_3 _ r fs (Made.of hgk N (mem3 h1 h2 h3)) (.made hi) hB
theorem langsys_spec {w : World} {b : Array UInt8} {ks : List Int} {a : Int} {t1 t2 : Tok} (hb : KBw.bInts b = ks) (hz : ks.length ≤ 1000) :
    Spec w 294 780 780 [.bytes b t1, .int a t2] []
      (fun h h' v => ∃ tl r fs, Made h h' tl ∧ LangIn tl v r fs ∧ langB ks a = .ok (r, fs)) (fun what pl => langB ks a = .error (what, pl)) := by
  (refine' enter (binds := [(Str.ofString "data", .bytes b t1), (Str.ofString "at", .int a t2)]) ?ho ?hcd ?hD ?hb ?hl ?_ ?hc ?c1 ?c2 ?c3; (case ho => exact rfl); (case hcd => exact rfl); (case hD => decide); (case hb => exact fun s'r X'r => BindsTo.of_eq rfl); (case hl => exact locs rfl); (case hc => decide); (case c1 => exact rfl); (case c2 => exact rfl); (case c3 => exact rfl); intro p'r loose'r mean'r mg'r mb'r gd'r l'r s'r Q'r E'r g'r L'r h₁'r F'r N'r B'r X'r T'r hL'r hgk'r hgs'r hfp'r hX'r; (try (refine (let mk := _; (fun (FK : Fr _ _ _ mk) => ?_) F'r); clear F'r)); revert X'r; k_fill; intro X'r; (try dsimp only); (try (refine (let mA := _; let mE := _; (?_ : wpAny _ mA (execs _ mE) _ _ _)))); k_fold)
  (repeat' (first | ((with_reducible first | refine nextN ?_ | refine nextR ?_); (try dsimp only)) | (k_unfold; (try dsimp only)) | (k_end; kc_close) | ((with_reducible first | show wpAny _ _ (exec _ _) _ _ _ | show wpAny _ _ (eval (Expr.Call ..) _) _ _ _ | show wpAny _ _ (eval (Expr.BinOp ..) _) _ _ _ | show wpAny _ _ (eval (Expr.Subscript ..) _) _ _ _ | show wpAny _ _ (eval (Expr.List ..) _) _ _ _ | show wpAny _ _ (eval (Expr.Tuple ..) _) _ _ _); (fail_if_success (fail_if_success k_fold)); refine (let qk := _; (?_ : wpAny _ _ _ qk _ _))) | ((with_reducible refine execsN ?_); (try k_gentoks)) | ((with_reducible refine args_cons ?_ ?he); (case he => exact rfl)) | ((with_reducible show wpAny _ _ (call (Value.ref _) _ _) _ _ _); first | ((k_here; (try ((fail_if_success (fail_if_success k_fold)); refine (let qk := _; (?_ : wpAny _ _ _ qk _ _)))); k_dflt (refine' Spec.here (rowsI_spec (by kba_ints) (by assumption) (by assumption) (by assumption)) ?hX ?B ?F ?X ?T rfl rfl rfl rfl (Nat.le_of_ble_eq_true rfl) (Nat.le_of_ble_eq_true rfl) ?N ?_ ?_; ((case hX => assumption); (case B => assumption); (case F => k_asm); (case X => k_asm); (case T => k_asm)); (case N => exact news2 (by assumption) (by k_mem) (by k_mem)); rotate_left; intro v'r h'r tk'r F'r hb'r hP'r; (try simp only [List.map_cons, List.map_nil] at hb'r); refine xE4_7 hP'r ?_; clear hP'r; intro lx'r its'r rs'r t'r e'r hP0 hPl hPi hP1 hP2 hP3; subst e'r; (rename News _ _ _ _ => N8'r); (have hO'r := news_off hP0 N8'r); (try simp only [LCg.Off1, and_true] at hO'r); (have hZ'r := rows_size hP1 hPi (by assumption)); (have N'r := news_new (by assumption) hP0 hPl (news_back2 N8'r hb'r (by k_mem) (by k_upd) hP2 hP3)); clear N8'r hP0 hPl; (try k_sweep)))) | ((k_here; (try ((fail_if_success (fail_if_success k_fold)); refine (let qk := _; (?_ : wpAny _ _ _ qk _ _)))); k_dflt (refine' Spec.here (u16_spec (by kba_ints) (by assumption) (by assumption)) ?hX ?B ?F ?X ?T rfl rfl rfl rfl (Nat.le_of_ble_eq_true rfl) (Nat.le_of_ble_eq_true rfl) ?N ?_ ?_; ((case hX => assumption); (case B => assumption); (case F => k_asm); (case X => k_asm); (case T => k_asm)); (case N => exact news2 (by assumption) (by k_mem) (by k_mem)); rotate_left; intro v'r h'r tk'r F'r hb'r hP'r; (try simp only [List.map_cons, List.map_nil] at hb'r); refine xE3_4 hP'r ?_; clear hP'r; intro n'r u'r t'r e'r hP1 hP2 hP3; subst e'r; (have N'r := news_back2 (by assumption) hb'r (by k_mem) (by k_upd) hP2 hP3); (have hB'r := u16_lt (by kba_ints) hP1); (try k_sweep))))) | ((with_reducible show wpAny _ _ (call (Value.type "list") _ _) _ _ _); (k_here; (with_reducible show wpAny _ _ (call (Value.type _) [Value.ref _]) _ _ _); k_dflt (refine' list_copyK ?F ?N ?hl ?_ ?z; (case F => k_asm); (case N => k_asm); (case hl => exact News.isList (by k_asm) (by k_mem)); (case z => assumption)); intro D'r c'r h'r F'r N'r l1; (try k_lt l1); (try k_sweep))) | ((with_reducible show wpAny _ _ (storeName _ _ _) _ _ _); (k_here; k_dflt (refine' storeX_L ?sF ?sN ?_ rfl rfl; (case sF => k_asm); (case sN => k_asm); k_whole; intro hS FS NS; (try k_sweep); refine (let mk := _; (fun (FK : Fr _ _ _ mk) => ?_) FS); clear FS))) | walk1 | (dsimp only; walk1) | (dsimp only [mA]; walk1) | (dsimp only [mE]; walk1) | (dsimp only [mA, mE]; walk1) | (leave1; (try dsimp only))))
  all_goals first
    | exact Side.mk fun what pl h => by
        unfold langB
        repeat' first | exact andE_err h | refine (andE_ok (by assumption)).trans ?_
    | (refine ends_ret (by assumption) (by assumption) (P := _) ?_
       rename News _ _ _ _ => N9
       refine langs_made (by assumption) N9 (by k_mem) (by k_mem) (by k_mem) (by assumption) ?_
       unfold langB
       refine (andE_ok (by assumption)).trans ((andE_ok (by assumption)).trans ((andE_ok (by assumption)).trans ((andE_ok (by assumption)).trans ?_)))
       first | rw [if_pos (by assumption)] | rw [if_neg (by assumption)])
end
section
open PySem.Calls
noncomputable abbrev featD (k1 k2 : Int) (t1 t2 t3 : Tok) (tag : Str) (lx : Addr) : Obj := dictOf [⟨k1, .str "tag" t1, .str tag t2⟩, ⟨k2, .str "lookups" t3, .ref lx⟩] 2
def FeatIn (tl : List (Addr × Obj)) (v : Value) (tag : Str) (fs : List Int) : Prop :=
  ∃ x dx lx its c k1 k2 t1 t2 t3, v = .ref x ∧ (x, instObj 269 dx) ∈ tl ∧ (dx, featD k1 k2 t1 t2 t3 tag lx) ∈ tl ∧ (lx, listOf its.toArray c) ∈ tl ∧ IntsAre its fs
noncomputable def featB (ks : List Int) (a : Int) : Except (Str × Int) (List Int) :=
  andE (u16 ks a) fun _ => andE (u16 ks (a + 2)) fun c => andE (rowsAt ks (a + 2 + 2) c.toNat) fun fs => .ok fs
theorem feat_made {s g h : Heap} {L x dx lx : Addr} {news : List (Addr × Obj)} {its : List Value} {c : Nat} {k1 k2 a : Int} {tag : Str} {t1 t2 t3 : Tok} {fs ks : List Int} (hgk : ∀ b o, s.get? b = some o → b ∉ ([] : List (Addr × Obj)).map (·.1) → g.get? b = some o) (N : News g L h news)
    (h1 : (x, instObj 269 dx) ∈ news) (h2 : (dx, featD k1 k2 t1 t2 t3 tag lx) ∈ news) (h3 : (lx, listOf its.toArray c) ∈ news) (hi : IntsAre its fs) (hB : featB ks a = .ok fs) : ∃ tl fs, Made s h tl ∧ FeatIn tl (.ref x) tag fs ∧ featB ks a = .ok fs :=
  by exact xI2_3 _ fs (Made.of hgk N (mem3 h1 h2 h3)) ⟨x, dx, lx, its, c, k1, k2, t1, t2, t3, rfl, .head _, .tail _ (.head _), .tail _ (.tail _ (.head _)), hi⟩ hB
theorem feature_spec {w : World} {b : Array UInt8} {ks : List Int} {a : Int} {tag : Str} {t1 t2 t3 : Tok} (hb : KBw.bInts b = ks) (hz : ks.length ≤ 1000) :
    Spec w 308 760 760 [.bytes b t1, .int a t2, .str tag t3] []
      (fun h h' v => ∃ tl fs, Made h h' tl ∧ FeatIn tl v tag fs ∧ featB ks a = .ok fs) (fun what pl => featB ks a = .error (what, pl)) := by
  ((refine' enter ?ho ?hcd ?hD ?hb ?hl ?_ ?hc ?c1 ?c2 ?c3; (case ho => exact rfl); (case hcd => exact rfl); (case hD => decide); (case hb => exact fun s'r X'r => BindsTo.of_eq rfl); (case hl => exact locs rfl); (case hc => decide); (case c1 => exact rfl); (case c2 => exact rfl); (case c3 => exact rfl); intro p'r loose'r mean'r mg'r mb'r gd'r l'r s'r Q'r E'r g'r L'r h₁'r F'r N'r B'r X'r T'r hL'r hgk'r hgs'r hfp'r hX'r; (try (refine (let mk := _; (fun (FK : Fr _ _ _ mk) => ?_) F'r); clear F'r)); revert X'r; k_fill; intro X'r; (try dsimp only); (try (refine (let mA := _; let mE := _; (?_ : wpAny _ mA (execs _ mE) _ _ _)))); k_fold))
  (repeat' (first | ((with_reducible first | refine nextN ?_ | refine nextR ?_); (try dsimp only)) | (k_unfold; (try dsimp only)) | (k_end; kc_close) | ((with_reducible first | show wpAny _ _ (exec _ _) _ _ _ | show wpAny _ _ (eval (Expr.Call ..) _) _ _ _ | show wpAny _ _ (eval (Expr.BinOp ..) _) _ _ _ | show wpAny _ _ (eval (Expr.Subscript ..) _) _ _ _ | show wpAny _ _ (eval (Expr.List ..) _) _ _ _ | show wpAny _ _ (eval (Expr.Tuple ..) _) _ _ _); (fail_if_success (fail_if_success k_fold)); refine (let qk := _; (?_ : wpAny _ _ _ qk _ _))) | ((with_reducible refine execsN ?_); (try k_gentoks)) | ((with_reducible refine args_cons ?_ ?he); (case he => exact rfl)) | ((with_reducible show wpAny _ _ (call (Value.ref _) _ _) _ _ _); first | ((k_here; (try ((fail_if_success (fail_if_success k_fold)); refine (let qk := _; (?_ : wpAny _ _ _ qk _ _)))); k_dflt (refine' Spec.here (rowsI_spec (by kba_ints) (by assumption) (by assumption) (by assumption)) ?hX ?B ?F ?X ?T rfl rfl rfl rfl (Nat.le_of_ble_eq_true rfl) (Nat.le_of_ble_eq_true rfl) ?N ?_ ?_; ((case hX => assumption); (case B => assumption); (case F => k_asm); (case X => k_asm); (case T => k_asm)); (case N => exact news2 (by assumption) (by k_mem) (by k_mem)); rotate_left; intro v'r h'r tk'r F'r hb'r hP'r; (try simp only [List.map_cons, List.map_nil] at hb'r); refine xE4_7 hP'r ?_; clear hP'r; intro lx'r its'r rs'r t'r e'r hP0 hPl hPi hP1 hP2 hP3; subst e'r; (rename News _ _ _ _ => N8'r); (have hO'r := news_off hP0 N8'r); (try simp only [LCg.Off1, and_true] at hO'r); (have hZ'r := rows_size hP1 hPi (by assumption)); (have N'r := news_new (by assumption) hP0 hPl (news_back2 N8'r hb'r (by k_mem) (by k_upd) hP2 hP3)); clear N8'r hP0 hPl; (try k_sweep)))) | ((k_here; (try ((fail_if_success (fail_if_success k_fold)); refine (let qk := _; (?_ : wpAny _ _ _ qk _ _)))); k_dflt (refine' Spec.here (u16_spec (by kba_ints) (by assumption) (by assumption)) ?hX ?B ?F ?X ?T rfl rfl rfl rfl (Nat.le_of_ble_eq_true rfl) (Nat.le_of_ble_eq_true rfl) ?N ?_ ?_; ((case hX => assumption); (case B => assumption); (case F => k_asm); (case X => k_asm); (case T => k_asm)); (case N => exact news2 (by assumption) (by k_mem) (by k_mem)); rotate_left; intro v'r h'r tk'r F'r hb'r hP'r; (try simp only [List.map_cons, List.map_nil] at hb'r); refine xE3_4 hP'r ?_; clear hP'r; intro n'r u'r t'r e'r hP1 hP2 hP3; subst e'r; (have N'r := news_back2 (by assumption) hb'r (by k_mem) (by k_upd) hP2 hP3); (have hB'r := u16_lt (by kba_ints) hP1); (try k_sweep))))) | ((with_reducible show wpAny _ _ (call (Value.type "list") _ _) _ _ _); (k_here; (with_reducible show wpAny _ _ (call (Value.type _) [Value.ref _]) _ _ _); k_dflt (refine' list_copyK ?F ?N ?hl ?_ ?z; (case F => k_asm); (case N => k_asm); (case hl => exact News.isList (by k_asm) (by k_mem)); (case z => assumption)); intro D'r c'r h'r F'r N'r l1; (try k_lt l1); (try k_sweep))) | ((with_reducible show wpAny _ _ (storeName _ _ _) _ _ _); (k_here; k_dflt (refine' storeX_L ?sF ?sN ?_ rfl rfl; (case sF => k_asm); (case sN => k_asm); k_whole; intro hS FS NS; (try k_sweep); refine (let mk := _; (fun (FK : Fr _ _ _ mk) => ?_) FS); clear FS))) | walk1 | (dsimp only; walk1) | (dsimp only [mA]; walk1) | (dsimp only [mE]; walk1) | (dsimp only [mA, mE]; walk1) | (leave1; (try dsimp only))))
  all_goals first
    | exact Side.mk fun what pl h => by
        unfold featB
        repeat' first | exact andE_err h | refine (andE_ok (by assumption)).trans ?_
    | (refine ends_ret (by assumption) (by assumption) (P := _) ?_
       rename News _ _ _ _ => N9
       refine feat_made (by assumption) N9 (by k_mem) (by k_mem) (by k_mem) (by assumption) ?_
       unfold featB
       exact (andE_ok (by assumption)).trans ((andE_ok (by assumption)).trans (andE_ok (by assumption))))
end
section
open PySem.Calls
noncomputable def pairD (p : Str × Int) : Dat := .tuple [.str p.1, .int p.2]
noncomputable abbrev pairO (tag : Str) (t : Tok) (pl : Int) (u : Tok) (n : Nat) : Obj := { cls := .type "tuple", data := .seq #[.str tag t, .int pl u] n }
noncomputable def tooLow (found : List (Str × Int)) (tag : Str) : Bool := match found.getLast? with
  | none => false
  | some p => !(decide (p.1.cps.toList < tag.cps.toList))
noncomputable def recTurn (ks : List Int) (at' : Int) (asc : Bool) (pos : Int) (found : List (Str × Int)) : Except (Str × Int) (List (Str × Int)) :=
  andE (tagAt ks pos) fun tag => if (asc && tooLow found tag) = true then .error ("tags that do not ascend", pos) else andE (offB ks (pos + 4) at') fun pl => .ok (found ++ [(tag, pl)])
noncomputable def recLoop (ks : List Int) (at' : Int) (asc : Bool) : Nat → Int → List (Str × Int) → Except (Str × Int) (List (Str × Int))
  | 0, _, found => .ok found
  | k + 1, pos, found => andE (recTurn ks at' asc pos found) fun f => recLoop ks at' asc k (pos + 6) f
noncomputable def recB (ks : List Int) (a lead : Int) (asc : Bool) : Except (Str × Int) (List (Str × Int)) := andE (u16 ks (a + lead)) fun c => recLoop ks a asc c.toNat (a + lead + 2) []
theorem u16_nat {b : Array UInt8} {ks : List Int} {a : Int} (hb : KBw.bInts b = ks) : ∃ c : Nat, c < 65536 ∧ ∀ n, u16 ks a = .ok n → n = (c : Int) := by
  cases h : u16 ks a with
  | error e => exact xI1_2 0 (by omega) (fun n hn => by cases hn)
  | ok n =>
    have := u16_lt hb h
    exact xI1_2 n.toNat (by omega) (fun n' hn => by cases hn; omega)
theorem tag_ok {b : Array UInt8} {ks : List Int} {a : Int} {tag : Str} (hb : KBw.bInts b = ks) (h : tagAt ks a = .ok tag) : PyData.strOk tag = true := by
  have q := getD_of hb
  unfold tagAt at h
  split at h
  · cases h
    have q0 := q a.toNat
    have q1 := q (a.toNat + 1)
    have q2 := q (a.toNat + 2)
    have q3 := q (a.toNat + 3)
    simp only [tagOf, take4, List.map_cons, List.map_nil, PyData.strOk, Array.all_eq_true_iff_forall_mem, List.mem_toArray, List.mem_cons, List.not_mem_nil, or_false, decide_eq_true_eq]
    rintro x (rfl | rfl | rfl | rfl) <;> omega
  · cases h
theorem own4 {tl : List (Addr × Obj)} {a b c I : Addr} {oa ob oc : Obj} (h : OwnOff tl [a, b, c]) (off : ∀ p ∈ (a, oa) :: (b, ob) :: (c, oc) :: tl, p.1 ≠ I) : (@Ne Nat a I ∧ @Ne Nat b I ∧ @Ne Nat c I) ∧ OwnOff tl [I, a, b, c] := by
  refine ⟨⟨off _ (.head _), off _ (.tail _ (.head _)), off _ (.tail _ (.tail _ (.head _)))⟩, fun p hp q hq => ?_⟩
  rcases List.mem_cons.mp hq with rfl | hq
  · exact off p (.tail _ (.tail _ (.tail _ hp)))
  · exact h p hp q hq
section
variable {prog : Program} {w : World} {A : Around} {E : Value → Shared → Prop} {s : Shared} {g : Heap} {L a b : Addr} {led tl : List (Addr × Obj)} {its iv : List Value} {v : Value} {ka kb : Nat} {rs : List (Str × Int)} {e : Bool} {Q : Value → Shared → Prop}
theorem found_ne (N : News g L s.heap led) (ma : (a, listOf (List.toArray its) ka) ∈ led) (mb : (b, listOf #[] kb) ∈ led) (Da : DatAll tl its (rs.map pairD)) (sa : ∀ p ∈ tl, p ∈ led) (ok : ∀ r ∈ rs, PyData.strOk r.1 = true) (he : rs.isEmpty = e)
    (hu : A.units + 64 < cLine) (h : Q (.bool (!e)) s) : wpAny (model prog w) A (compareOp .NotEq (.ref a) (.ref b)) Q E s := by
  refine kqd_ne (n₂ := []) (ys := []) (es := []) N ma rfl rfl Da sa mb rfl rfl .nil (fun _ hp => nomatch hp) (fun d hd => ?_) (fun _ hd => nomatch hd) hu ?_
  · refine xE1_2 (List.mem_map.mp hd) ?_; intro r hr zq1'; subst zq1'
    simp [pairD, kqdOk, ok r hr]
  · subst he
    cases rs with
    | nil => simpa using h
    | cons r rs => simpa using h
theorem item_last {value slice : PySem.Expr} {l : Addr} {u : Tok} (hl : s.heap.IsList l (List.toArray (iv ++ [v]))) (h : Q v s)
    (hs : subscripted slice false (.ref l) (.int (-1) u) = operate [.ref l, .int (-1) u] (getItem (.ref l) (.int (-1) u)) := by with_unfolding_all rfl) :
    wpAny (model prog w) A (subscriptTail value slice (.ref l) (.int (-1) u)) Q E s := by
  refine tail_any hl.typeIs slot_list_getitem.lookup (wpAny_getItem_list_neg (x := v) hl (by decide) ?_ (by decide) ?_ h) hs
  · simp only [List.size_toArray, List.length_append, List.length_singleton]; omega
  · have e : ((-1 : Int) + ((List.toArray (iv ++ [v])).size : Int)).toNat = iv.length := by simp only [List.size_toArray, List.length_append, List.length_singleton]; omega
    rw [e]
    simp
end
theorem item_pair0 {prog : Program} {w : World} {A : Around} {E : Value → Shared → Prop} {s : Shared} {g : Heap} {L T : Addr} {led : List (Addr × Obj)} {value slice : PySem.Expr} {tag : Str} {t u k : Tok} {pl : Int} {n : Nat} {Q : Value → Shared → Prop} (N : News g L s.heap led) (hm : (T, pairO tag t pl u n) ∈ led) (h : Q (.str tag t) s)
    (hs : subscripted slice false (.ref T) (.int 0 k) = operate [.ref T, .int 0 k] (getItem (.ref T) (.int 0 k)) := by with_unfolding_all rfl) : wpAny (model prog w) A (subscriptTail value slice (.ref T) (.int 0 k)) Q E s :=
  item_tupleT (l := [.str tag t, .int pl u]) (j := 0) ⟨_, (N _ hm).1, rfl, n, rfl⟩ (by decide) (by decide) rfl rfl h hs
theorem nil_or_snoc {α : Type} (l : List α) : l = [] ∨ ∃ init p, l = init ++ [p] := by
  rcases List.eq_nil_or_concat l with e | ⟨init, p, e⟩
  · exact .inl e
  · exact .inr ⟨init, p, by rw [e, List.concat_eq_append]⟩
theorem sub_self {α : Type} (l : List α) : ∀ p ∈ l, p ∈ l := fun _ h => h
theorem sub_cons {α : Type} {l m : List α} {a : α} (h : ∀ p ∈ l, p ∈ m) : ∀ p ∈ l, p ∈ a :: m := fun p hp => List.mem_cons_of_mem _ (h p hp)
theorem pairs_snoc {tl : List (Addr × Obj)} {its : List Value} {rs : List (Str × Int)} {T : Addr} {tag : Str} {t : Tok} {pl : Int} {u : Tok} {n : Nat} (h : DatAll tl its (rs.map pairD)) : DatAll ((T, pairO tag t pl u n) :: tl) (its ++ [.ref T]) ((rs ++ [(tag, pl)]).map pairD) := by
  rw [List.map_append]
  exact (h.mono fun p hp => List.mem_cons_of_mem _ hp).append (.one (.tuple (vs := [_, _]) (.head _) (.cons (.str _ _) (.cons (.int _ _) .nil))))
theorem pair_of {tl : List (Addr × Obj)} {v : Value} {p : Str × Int} (h : DatIn tl v (pairD p)) : ∃ T t u n, v = .ref T ∧ (T, pairO p.1 t p.2 u n) ∈ tl := by
  refine (let gk : Prop := _; (?_ : gk))
  refine xE4_4 (datT2 h) ?_; intro T n x y e hm h1 h2
  refine xE1_1 (datStr h1) ?_; intro t e1
  refine xE1_1 (datInt h2) ?_; intro u e2
  rw [e1, e2] at hm
  exact xI4_2 T t u n e hm
theorem pairs_last {tl : List (Addr × Obj)} {its : List Value} {init : List (Str × Int)} {p : Str × Int} (h : DatAll tl its ((init ++ [p]).map pairD)) : ∃ iv T t u n, its = iv ++ [.ref T] ∧ (T, pairO p.1 t p.2 u n) ∈ tl := by
  refine (let gk : Prop := _; (?_ : gk))
  have hl := h.length
  rcases List.eq_nil_or_concat its with e | ⟨iv, v, e⟩
  · rw [e] at hl; simp at hl
  · rw [e, List.concat_eq_append] at h
    refine xE2_3 (h.snoc) ?_; intro es d h1 _ h2
    have e2 := (List.append_inj' ((List.map_append ..).symm.trans h1) rfl).2
    refine xE4_2 (pair_of ((List.cons.inj e2).1.symm ▸ h2)) ?_; intro T t u n ev hm
    rw [ev, List.concat_eq_append] at e
    exact xI5_2 iv T t u n e hm
theorem own_cons {tl : List (Addr × Obj)} {D a b c I : Addr} {o : Obj} (h1 : @Ne Nat D a) (h2 : @Ne Nat D b) (h3 : @Ne Nat D c) (h : OwnOff tl [I, a, b, c]) : OwnOff ((D, o) :: tl) [a, b, c] := by
  intro p hp q hq
  rcases List.mem_cons.mp hp with rfl | hp
  · rcases List.mem_cons.mp hq with rfl | hq
    · exact h1
    rcases List.mem_cons.mp hq with rfl | hq
    · exact h2
    rcases List.mem_cons.mp hq with rfl | hq
    · exact h3
    · cases hq
  · exact h p hp q (List.mem_cons_of_mem _ hq)
section
variable {ks : List Int} {a p0 lead : Int} {asc : Bool} {rs rs' : List (Str × Int)} {tag : Str} {pl : Int} {e : Str × Int} {c i : Nat}
theorem turn_ok (h1 : tagAt ks p0 = .ok tag) (h2 : (asc && tooLow rs tag) = false) (h3 : offB ks (p0 + 4) a = .ok pl) : recTurn ks a asc p0 rs = .ok (rs ++ [(tag, pl)]) := by
  unfold recTurn
  refine (andE_ok h1).trans ?_
  rw [h2]
  exact andE_ok h3
theorem turn_off (h1 : tagAt ks p0 = .ok tag) (h2 : (asc && tooLow rs tag) = false) (h3 : offB ks (p0 + 4) a = .error e) : recTurn ks a asc p0 rs = .error e := by
  unfold recTurn
  refine (andE_ok h1).trans ?_
  rw [h2]
  exact andE_err h3
theorem turn_low (h1 : tagAt ks p0 = .ok tag) (h2 : (asc && tooLow rs tag) = true) : recTurn ks a asc p0 rs = .error ("tags that do not ascend", p0) := by
  unfold recTurn
  refine (andE_ok h1).trans ?_
  rw [h2]; rfl
theorem rec_next (hi : i < c) (h : recTurn ks a asc (p0 + 6 * (i : Int)) rs = .ok rs') (hl : recLoop ks a asc c p0 [] = recLoop ks a asc (c - i) (p0 + 6 * (i : Int)) rs) :
    recLoop ks a asc c p0 [] = recLoop ks a asc (c - (i + 1)) (p0 + 6 * ((i + 1 : Nat) : Int)) rs' := by
  rw [hl, sub_next hi, mul_next]
  exact andE_ok h
theorem recB_err (hu : u16 ks (a + lead) = .ok (c : Int)) (hi : i < c) (h : recTurn ks a asc (a + lead + 2 + 6 * (i : Int)) rs = .error e) (hl : recLoop ks a asc c (a + lead + 2) [] = recLoop ks a asc (c - i) (a + lead + 2 + 6 * (i : Int)) rs) :
    recB ks a lead asc = .error e := by
  unfold recB
  refine (andE_ok hu).trans ?_
  rw [Int.toNat_natCast, hl, show c - i = (c - (i + 1)) + 1 by omega]
  exact andE_err h
theorem recB_ok (hu : u16 ks (a + lead) = .ok (c : Int)) (hl : recLoop ks a asc c (a + lead + 2) [] = recLoop ks a asc (c - c) (a + lead + 2 + 6 * (c : Int)) rs) :
    recB ks a lead asc = .ok rs := by
  unfold recB
  refine (andE_ok hu).trans ?_
  rw [Int.toNat_natCast, hl, Nat.sub_self]
  rfl
theorem low_snoc {init : List (Str × Int)} {p : Str × Int} {b : Bool} (h : (!(decide (p.1.cps.toList < tag.cps.toList))) = b) : (true && tooLow (init ++ [p]) tag) = b := by
  rw [← h, Bool.true_and]
  unfold tooLow
  rw [List.getLast?_append, List.getLast?_singleton]
  rfl
end
def RecJ (ks : List Int) (a : Int) (asc : Bool) (c : Nat) (p0 : Int) (kd ka : Int) (td ta tb : Tok) (b : Array UInt8) (lf x dx : Addr) (i : Nat) (led : List (Addr × Obj)) : Prop :=
  ∃ t' n' tl its rs, led = (lf, listOf (List.toArray its) n') :: (x, instObj 187 dx) :: (dx, srcD kd ka td ta tb t' b (p0 + 6 * (i : Int))) :: tl ∧ OwnOff tl [lf, x, dx] ∧ DatAll tl its (rs.map pairD) ∧ (∀ r ∈ rs, PyData.strOk r.1 = true) ∧ rs.length = i ∧
    recLoop ks a asc c p0 [] = recLoop ks a asc (c - i) (p0 + 6 * (i : Int)) rs
theorem records_spec {w : World} {b : Array UInt8} {ks : List Int} {a lead : Int} {asc : Bool} {t1 t2 t3 : Tok} (hb : KBw.bInts b = ks) (hz : ks.length ≤ 1000) :
    Spec w 287 780 780 [.bytes b t1, .int a t2, .int lead t3, .bool asc] []
      (fun h h' v => ∃ lf its n tl rs, v = .ref lf ∧ Made h h' ((lf, listOf (List.toArray its) n) :: tl) ∧ DatAll tl its (rs.map pairD) ∧ (∀ r ∈ rs, PyData.strOk r.1 = true) ∧ rs.length < 65536 ∧ recB ks a lead asc = .ok rs) (fun what pl => recB ks a lead asc = .error (what, pl)) := by
  refine xE1_2 (u16_nat (ks := ks) (a := a + lead) hb) ?_; intro c hc1 hc2
  ((refine' enter ?ho ?hcd ?hD ?hb ?hl ?_ ?hc ?c1 ?c2 ?c3; (case ho => exact rfl); (case hcd => exact rfl); (case hD => decide); (case hb => exact fun s'r X'r => BindsTo.of_eq rfl); (case hl => exact locs rfl); (case hc => decide); (case c1 => exact rfl); (case c2 => exact rfl); (case c3 => exact rfl); intro p'r loose'r mean'r mg'r mb'r gd'r l'r s'r Q'r E'r g'r L'r h₁'r F'r N'r B'r X'r T'r hL'r hgk'r hgs'r hfp'r hX'r; (try (refine (let mk := _; (fun (FK : Fr _ _ _ mk) => ?_) F'r); clear F'r)); revert X'r; k_fill; intro X'r; (try dsimp only); (try (refine (let mA := _; let mE := _; (?_ : wpAny _ mA (execs _ mE) _ _ _)))); k_fold))
  (repeat' (first | ((with_reducible first | refine nextN ?_ | refine nextR ?_); (try dsimp only)) | (k_unfold; (try dsimp only)) | (k_end; kc_close) | ((with_reducible first | show wpAny _ _ (exec _ _) _ _ _ | show wpAny _ _ (eval (Expr.Call ..) _) _ _ _ | show wpAny _ _ (eval (Expr.BinOp ..) _) _ _ _ | show wpAny _ _ (eval (Expr.Subscript ..) _) _ _ _ | show wpAny _ _ (eval (Expr.List ..) _) _ _ _ | show wpAny _ _ (eval (Expr.Tuple ..) _) _ _ _); (fail_if_success (fail_if_success k_fold)); refine (let qk := _; (?_ : wpAny _ _ _ qk _ _))) | ((with_reducible refine execsN ?_); (try k_gentoks)) | ((with_reducible refine args_cons ?_ ?he); (case he => exact rfl)) | ((with_reducible show wpAny _ _ (exec (Stmt.For (Expr.Name ..) (Expr.Call ..) ..) _) _ _ _); (k_here; k_dflt (refine for_side (by k_asm) (by rfl) (by rfl) ?_))) | ((with_reducible show wpAny _ _ (call (Value.ref _) _ _) _ _ _); (k_here; (try ((fail_if_success (fail_if_success k_fold)); refine (let qk := _; (?_ : wpAny _ _ _ qk _ _)))); k_dflt (refine' Spec.here (u16_spec (by kba_ints) (by assumption) (by assumption)) ?hX ?B ?F ?X ?T rfl rfl rfl rfl (Nat.le_of_ble_eq_true rfl) (Nat.le_of_ble_eq_true rfl) ?N ?_ ?_; ((case hX => assumption); (case B => assumption); (case F => k_asm); (case X => k_asm); (case T => k_asm)); (case N => exact news2 (by assumption) (by k_mem) (by k_mem)); rotate_left; intro v'r h'r tk'r F'r hb'r hP'r; (try simp only [List.map_cons, List.map_nil] at hb'r); refine xE3_4 hP'r ?_; clear hP'r; intro n'r u'r t'r e'r hP1 hP2 hP3; subst e'r; (have N'r := news_back2 (by assumption) hb'r (by k_mem) (by k_upd) hP2 hP3); (have hB'r := u16_lt (by kba_ints) hP1); (try k_sweep)))) | ((with_reducible show wpAny _ _ (storeName _ _ _) _ _ _); (k_here; k_dflt (refine' storeX_L ?sF ?sN ?_ rfl rfl; (case sF => k_asm); (case sN => k_asm); k_whole; intro hS FS NS; (try k_sweep); refine (let mk := _; (fun (FK : Fr _ _ _ mk) => ?_) FS); clear FS))) | walk1 | (dsimp only; walk1) | (dsimp only [mA]; walk1) | (dsimp only [mE]; walk1) | (dsimp only [mA, mE]; walk1) | (leave1; (try dsimp only))))
  · rename u16 ks _ = .ok _ => hu
    have hc3 := hc2 _ hu
    subst hc3
    refine Side.mk (loop_rangeS ["each", "begun", "tag"] (RecJ ks a asc c (a + lead + 2) _ _ _ _ _ b _ _ _) rfl (by assumption) (small_one (by omega) (by omega) (by omega) (by omega)) (by k_asm) (by k_asm)
      ⟨_, _, [], [], [], by rw [show a + lead + 2 + 6 * ((0 : Nat) : Int) = a + lead + 2 by omega], (fun _ h => nomatch h), .nil, (fun _ h => nomatch h), rfl, by rw [show a + lead + 2 + 6 * ((0 : Nat) : Int) = a + lead + 2 by omega]; rfl⟩ ?_ ?_)
    · intro i t u led₁ I oI h tk hi hJ off F N
      refine xE5_6 hJ ?_; (try clear hJ); intro t' n' tl its rs zq2' hoff3 hp hok hlen hloop; subst zq2'
      refine xE0_2 (own4 hoff3 off) ?_; intro zq3' hoff4; refine xE0_3 zq3' ?_; clear zq3'; intro n1 n2 n3
      clear hoff3
      have hZ : (List.toArray its).size ≤ sizeLine := by
        have := hp.length
        rw [List.length_map] at this
        rw [List.size_toArray, sizeLine_eq]; omega
      cases asc
      · (repeat' (first | ((with_reducible first | refine nextN ?_ | refine nextR ?_); (try dsimp only)) | (k_unfold; (try dsimp only)) | (k_end; kc_close) | ((with_reducible first | show wpAny _ _ (exec _ _) _ _ _ | show wpAny _ _ (eval (Expr.Call ..) _) _ _ _ | show wpAny _ _ (eval (Expr.BinOp ..) _) _ _ _ | show wpAny _ _ (eval (Expr.Subscript ..) _) _ _ _ | show wpAny _ _ (eval (Expr.List ..) _) _ _ _ | show wpAny _ _ (eval (Expr.Tuple ..) _) _ _ _); (fail_if_success (fail_if_success k_fold)); refine (let qk := _; (?_ : wpAny _ _ _ qk _ _))) | ((with_reducible refine execsN ?_); (try k_gentoks)) | ((with_reducible refine args_cons ?_ ?he); (case he => exact rfl)) | ((with_reducible show wpAny _ _ (call (Value.builtin "list.append") _ _) _ _ _); (k_here; k_dflt (refine' append_K ?k1 ?k2 ?k3 ?_ ?z; (case k1 => k_asm); (case k2 => k_asm); (case k3 => k_upd); (case z => assumption)); intro h'r F'r N'r)) | ((with_reducible show wpAny _ _ (call (Value.ref _) _ _) _ _ _); first | ((k_here; (try ((fail_if_success (fail_if_success k_fold)); refine (let qk := _; (?_ : wpAny _ _ _ qk _ _)))); k_dflt (refine' Spec.here (offset_spec (by kba_ints) (by assumption) (by assumption)) ?hX ?B ?F ?X ?T rfl rfl rfl rfl (Nat.le_of_ble_eq_true rfl) (Nat.le_of_ble_eq_true rfl) ?N ?_ ?_; ((case hX => assumption); (case B => assumption); (case F => k_asm); (case X => k_asm); (case T => k_asm)); (case N => exact news2 (by assumption) (by k_mem) (by k_mem)); rotate_left; intro v'r h'r tk'r F'r hb'r hP'r; (try simp only [List.map_cons, List.map_nil] at hb'r); refine xE3_4 hP'r ?_; clear hP'r; intro n'r u'r t'r e'r hP1 hP2 hP3; subst e'r; (have N'r := news_back2 (by assumption) hb'r (by k_mem) (by k_upd) hP2 hP3); (try k_sweep)))) | ((k_here; (try ((fail_if_success (fail_if_success k_fold)); refine (let qk := _; (?_ : wpAny _ _ _ qk _ _)))); k_dflt (refine' Spec.here (tag_spec (by kba_ints) (by assumption) (by assumption)) ?hX ?B ?F ?X ?T rfl rfl rfl rfl (Nat.le_of_ble_eq_true rfl) (Nat.le_of_ble_eq_true rfl) ?N ?_ ?_; ((case hX => assumption); (case B => assumption); (case F => k_asm); (case X => k_asm); (case T => k_asm)); (case N => exact news2 (by assumption) (by k_mem) (by k_mem)); rotate_left; intro v'r h'r tk'r F'r hb'r hP'r; (try simp only [List.map_cons, List.map_nil] at hb'r); refine xE3_4 hP'r ?_; clear hP'r; intro n'r u'r t'r e'r hP1 hP2 hP3; subst e'r; (have N'r := news_back2 (by assumption) hb'r (by k_mem) (by k_upd) hP2 hP3); (try k_sweep))))) | ((with_reducible show wpAny _ _ (storeName _ _ _) _ _ _); (k_here; k_dflt (refine' storeX_L ?sF ?sN ?_ rfl rfl; (case sF => k_asm); (case sN => k_asm); k_whole; intro hS FS NS; (try k_sweep); refine (let mk := _; (fun (FK : Fr _ _ _ mk) => ?_) FS); clear FS))) | walk1 | (dsimp only; walk1) | (dsimp only [mA]; walk1) | (dsimp only [mE]; walk1) | (dsimp only [mA, mE]; walk1) | (leave1; (try dsimp only))))
        · rename News _ _ _ _ => N9
          have e6 : a + lead + 2 + 6 * (i : Int) + 4 + 2 = a + lead + 2 + 6 * ((i + 1 : Nat) : Int) := by omega
          rw [List.push_toArray, e6] at N9
          refine TurnS.intro (led' := (_, listOf (List.toArray (its ++ [.ref _])) (n' + 1)) :: (_, instObj 187 _) :: (_, srcD _ _ _ _ _ _ b _) :: (_, _) :: tl) (by k_asm) (fun p hp => N9 p ((by (((repeat (refine List.forall_mem_cons.mpr ⟨by k_mem, ?_⟩)); (repeat' (first | exact sub_self _ | refine sub_cons ?_)))) : ∀ p ∈ _, p ∈ _) p hp)) ?_ ?_ ⟨_, _, (_, _) :: tl, its ++ [.ref _], rs ++ [(_, _)], rfl, ?_, pairs_snoc hp, ?_, ?_, ?_⟩
          · exact List.forall_mem_cons.mpr ⟨n1, List.forall_mem_cons.mpr ⟨n2, List.forall_mem_cons.mpr ⟨n3, List.forall_mem_cons.mpr ⟨by k_ne, fun p hp => hoff4 p hp I (.head _)⟩⟩⟩⟩
          · intro z hz
            have hz0 := hz
            simp only [List.contains_cons, List.contains_nil, Bool.or_false, Bool.or_eq_false_iff, beq_eq_false_iff_ne] at hz
            refine xE0_3 hz ?_; (try clear hz); intro z1 z2 z3
            simp +zetaDelta only [if_neg z1, if_neg z2, if_neg z3, hz0, Bool.false_eq_true, if_false]
          · exact own_cons (by k_ne) (by k_ne) (by k_ne) hoff4
          · exact fun r hr => (List.mem_append.mp hr).elim (hok r) fun h => by rw [List.mem_singleton.mp h]; exact tag_ok hb (by assumption)
          · rw [List.length_append, hlen]; rfl
          · exact rec_next hi (turn_ok (by assumption) rfl (by assumption)) hloop
        · exact Side.mk fun what pl h => recB_err hu hi (turn_off (by assumption) rfl h) hloop
        · exact Side.mk fun what pl h => recB_err hu hi (andE_err h) hloop
      · (refine (let gk : Prop := _; (?_ : gk)); rcases nil_or_snoc rs with rfl | ⟨init, p, rfl⟩ <;> k_unfold)
        · have hemp : ([] : List (Str × Int)).isEmpty = true := rfl
          (repeat' (first | ((with_reducible first | refine nextN ?_ | refine nextR ?_); (try dsimp only)) | (k_unfold; (try dsimp only)) | (k_end; kc_close) | ((with_reducible first | show wpAny _ _ (exec _ _) _ _ _ | show wpAny _ _ (eval (Expr.Call ..) _) _ _ _ | show wpAny _ _ (eval (Expr.BinOp ..) _) _ _ _ | show wpAny _ _ (eval (Expr.Subscript ..) _) _ _ _ | show wpAny _ _ (eval (Expr.List ..) _) _ _ _ | show wpAny _ _ (eval (Expr.Tuple ..) _) _ _ _); (fail_if_success (fail_if_success k_fold)); refine (let qk := _; (?_ : wpAny _ _ _ qk _ _))) | ((with_reducible refine execsN ?_); (try k_gentoks)) | ((with_reducible refine args_cons ?_ ?he); (case he => exact rfl)) | ((with_reducible show wpAny _ _ (compareOp CmpOp.NotEq (Value.ref _) (Value.ref _)) _ _ _); (k_here; k_dflt (refine' found_ne ?N ?ma ?mb ?Da ?sa ?ok ?he ?hu ?_; (case Da => assumption); (case N => k_asm); (case ma => k_mem); (case mb => k_mem); (case ok => assumption); (case he => assumption); (case hu => exact Nat.le_of_ble_eq_true rfl); (case sa => repeat' (first | exact sub_self _ | refine sub_cons ?_))))) | ((with_reducible show wpAny _ _ (call (Value.builtin "list.append") _ _) _ _ _); (k_here; k_dflt (refine' append_K ?k1 ?k2 ?k3 ?_ ?z; (case k1 => k_asm); (case k2 => k_asm); (case k3 => k_upd); (case z => assumption)); intro h'r F'r N'r)) | ((with_reducible show wpAny _ _ (call (Value.ref _) _ _) _ _ _); first | ((k_here; (try ((fail_if_success (fail_if_success k_fold)); refine (let qk := _; (?_ : wpAny _ _ _ qk _ _)))); k_dflt (refine' Spec.here (offset_spec (by kba_ints) (by assumption) (by assumption)) ?hX ?B ?F ?X ?T rfl rfl rfl rfl (Nat.le_of_ble_eq_true rfl) (Nat.le_of_ble_eq_true rfl) ?N ?_ ?_; ((case hX => assumption); (case B => assumption); (case F => k_asm); (case X => k_asm); (case T => k_asm)); (case N => exact news2 (by assumption) (by k_mem) (by k_mem)); rotate_left; intro v'r h'r tk'r F'r hb'r hP'r; (try simp only [List.map_cons, List.map_nil] at hb'r); refine xE3_4 hP'r ?_; clear hP'r; intro n'r u'r t'r e'r hP1 hP2 hP3; subst e'r; (have N'r := news_back2 (by assumption) hb'r (by k_mem) (by k_upd) hP2 hP3); (try k_sweep)))) | ((k_here; (try ((fail_if_success (fail_if_success k_fold)); refine (let qk := _; (?_ : wpAny _ _ _ qk _ _)))); k_dflt (refine' Spec.here (tag_spec (by kba_ints) (by assumption) (by assumption)) ?hX ?B ?F ?X ?T rfl rfl rfl rfl (Nat.le_of_ble_eq_true rfl) (Nat.le_of_ble_eq_true rfl) ?N ?_ ?_; ((case hX => assumption); (case B => assumption); (case F => k_asm); (case X => k_asm); (case T => k_asm)); (case N => exact news2 (by assumption) (by k_mem) (by k_mem)); rotate_left; intro v'r h'r tk'r F'r hb'r hP'r; (try simp only [List.map_cons, List.map_nil] at hb'r); refine xE3_4 hP'r ?_; clear hP'r; intro n'r u'r t'r e'r hP1 hP2 hP3; subst e'r; (have N'r := news_back2 (by assumption) hb'r (by k_mem) (by k_upd) hP2 hP3); (try k_sweep))))) | ((with_reducible show wpAny _ _ (storeName _ _ _) _ _ _); (k_here; k_dflt (refine' storeX_L ?sF ?sN ?_ rfl rfl; (case sF => k_asm); (case sN => k_asm); k_whole; intro hS FS NS; (try k_sweep); refine (let mk := _; (fun (FK : Fr _ _ _ mk) => ?_) FS); clear FS))) | walk1 | (dsimp only; walk1) | (dsimp only [mA]; walk1) | (dsimp only [mE]; walk1) | (dsimp only [mA, mE]; walk1) | (leave1; (try dsimp only))))
          · rename News _ _ _ _ => N9
            have e6 : a + lead + 2 + 6 * (i : Int) + 4 + 2 = a + lead + 2 + 6 * ((i + 1 : Nat) : Int) := by omega
            rw [List.push_toArray, e6] at N9
            refine TurnS.intro (led' := (_, listOf (List.toArray (its ++ [.ref _])) (n' + 1)) :: (_, instObj 187 _) :: (_, srcD _ _ _ _ _ _ b _) :: (_, _) :: tl) (by k_asm) (fun p hp => N9 p ((by (((repeat (refine List.forall_mem_cons.mpr ⟨by k_mem, ?_⟩)); (repeat' (first | exact sub_self _ | refine sub_cons ?_)))) : ∀ p ∈ _, p ∈ _) p hp)) ?_ ?_ ⟨_, _, (_, _) :: tl, its ++ [.ref _], [] ++ [(_, _)], rfl, ?_, pairs_snoc hp, ?_, ?_, ?_⟩
            · exact List.forall_mem_cons.mpr ⟨n1, List.forall_mem_cons.mpr ⟨n2, List.forall_mem_cons.mpr ⟨n3, List.forall_mem_cons.mpr ⟨by k_ne, fun p hp => hoff4 p hp I (.head _)⟩⟩⟩⟩
            · intro z hz
              have hz0 := hz
              simp only [List.contains_cons, List.contains_nil, Bool.or_false, Bool.or_eq_false_iff, beq_eq_false_iff_ne] at hz
              refine xE0_3 hz ?_; (try clear hz); intro z1 z2 z3
              simp +zetaDelta only [if_neg z1, if_neg z2, if_neg z3, hz0, Bool.false_eq_true, if_false]
            · exact own_cons (by k_ne) (by k_ne) (by k_ne) hoff4
            · exact fun r hr => (List.mem_append.mp hr).elim (hok r) fun h => by rw [List.mem_singleton.mp h]; exact tag_ok hb (by assumption)
            · rw [List.length_append, hlen]; rfl
            · exact rec_next hi (turn_ok (by assumption) rfl (by assumption)) hloop
          · exact Side.mk fun what pl h => recB_err hu hi (turn_off (by assumption) rfl h) hloop
          · exact Side.mk fun what pl h => recB_err hu hi (andE_err h) hloop
        · have hemp : (init ++ [p]).isEmpty = false := by simp
          refine xE5_2 (pairs_last hp) ?_; intro iv T tt tu tn zq4' hT; subst zq4'
          (refine (let gk : Prop := _; (?_ : gk)); obtain ⟨m1, m2, m3, m4⟩ : @Ne Nat T I ∧ @Ne Nat T _ ∧ @Ne Nat T _ ∧ @Ne Nat T _ := ⟨hoff4 _ hT _ (.head _), hoff4 _ hT _ (.tail _ (.head _)), hoff4 _ hT _ (.tail _ (.tail _ (.head _))), hoff4 _ hT _ (.tail _ (.tail _ (.tail _ (.head _))))⟩ <;> k_unfold)
          have N : News _ _ h ((I, oI) :: (_, listOf (List.toArray (iv ++ [.ref T])) n') :: (_, instObj 187 _) :: (_, srcD _ _ _ _ _ t' b _) :: (T, pairO p.1 tt p.2 tu tn) :: tl) := fun q hq => by
            (refine (let gk : Prop := _; (?_ : gk)); rcases List.mem_cons.mp hq with rfl | hq <;> k_unfold)
            · exact N _ (.head _)
            (refine (let gk : Prop := _; (?_ : gk)); rcases List.mem_cons.mp hq with rfl | hq <;> k_unfold)
            · exact N _ (.tail _ (.head _))
            (refine (let gk : Prop := _; (?_ : gk)); rcases List.mem_cons.mp hq with rfl | hq <;> k_unfold)
            · exact N _ (.tail _ (.tail _ (.head _)))
            (refine (let gk : Prop := _; (?_ : gk)); rcases List.mem_cons.mp hq with rfl | hq <;> k_unfold)
            · exact N _ (.tail _ (.tail _ (.tail _ (.head _))))
            (refine (let gk : Prop := _; (?_ : gk)); rcases List.mem_cons.mp hq with rfl | hq <;> k_unfold)
            · exact N _ (.tail _ (.tail _ (.tail _ (.tail _ hT))))
            · exact N _ (.tail _ (.tail _ (.tail _ (.tail _ hq))))
          (repeat' (first | ((with_reducible first | refine nextN ?_ | refine nextR ?_); (try dsimp only)) | (k_unfold; (try dsimp only)) | (k_end; kc_close) | ((with_reducible first | show wpAny _ _ (exec _ _) _ _ _ | show wpAny _ _ (eval (Expr.Call ..) _) _ _ _ | show wpAny _ _ (eval (Expr.BinOp ..) _) _ _ _ | show wpAny _ _ (eval (Expr.Subscript ..) _) _ _ _ | show wpAny _ _ (eval (Expr.List ..) _) _ _ _ | show wpAny _ _ (eval (Expr.Tuple ..) _) _ _ _); (fail_if_success (fail_if_success k_fold)); refine (let qk := _; (?_ : wpAny _ _ _ qk _ _))) | ((with_reducible refine execsN ?_); (try k_gentoks)) | ((with_reducible refine args_cons ?_ ?he); (case he => exact rfl)) | ((with_reducible show wpAny _ _ (subscriptTail (Expr.Name ..) (Expr.UnaryOp ..) (Value.ref _) (Value.int ..)) _ _ _); (k_here; k_dflt (refine item_last (News.isList (by k_asm) (by k_mem)) ?_))) | ((with_reducible show wpAny _ _ (compareOp CmpOp.NotEq (Value.ref _) (Value.ref _)) _ _ _); (k_here; k_dflt (refine' found_ne ?N ?ma ?mb ?Da ?sa ?ok ?he ?hu ?_; (case Da => assumption); (case N => k_asm); (case ma => k_mem); (case mb => k_mem); (case ok => assumption); (case he => assumption); (case hu => exact Nat.le_of_ble_eq_true rfl); (case sa => repeat' (first | exact sub_self _ | refine sub_cons ?_))))) | ((with_reducible show wpAny _ _ (exec (Stmt.Raise ..) _) _ _ _); (k_here; (with_reducible show wpAny _ _ (exec (Stmt.Raise (some (Expr.Call (Expr.Name _ _) _ _ _)) none _) _) _ _ _); k_dflt (refine raise_of (by exact rfl) ?_))) | ((with_reducible show wpAny _ _ (call (Value.builtin "list.append") _ _) _ _ _); (k_here; k_dflt (refine' append_K ?k1 ?k2 ?k3 ?_ ?z; (case k1 => k_asm); (case k2 => k_asm); (case k3 => k_upd); (case z => assumption)); intro h'r F'r N'r)) | ((with_reducible show wpAny _ _ (call (Value.ref _) _ _) _ _ _); first | ((k_here; (try ((fail_if_success (fail_if_success k_fold)); refine (let qk := _; (?_ : wpAny _ _ _ qk _ _)))); k_dflt (refine' Spec.here (offset_spec (by kba_ints) (by assumption) (by assumption)) ?hX ?B ?F ?X ?T rfl rfl rfl rfl (Nat.le_of_ble_eq_true rfl) (Nat.le_of_ble_eq_true rfl) ?N ?_ ?_; ((case hX => assumption); (case B => assumption); (case F => k_asm); (case X => k_asm); (case T => k_asm)); (case N => exact news2 (by assumption) (by k_mem) (by k_mem)); rotate_left; intro v'r h'r tk'r F'r hb'r hP'r; (try simp only [List.map_cons, List.map_nil] at hb'r); refine xE3_4 hP'r ?_; clear hP'r; intro n'r u'r t'r e'r hP1 hP2 hP3; subst e'r; (have N'r := news_back2 (by assumption) hb'r (by k_mem) (by k_upd) hP2 hP3); (try k_sweep)))) | ((k_here; (try ((fail_if_success (fail_if_success k_fold)); refine (let qk := _; (?_ : wpAny _ _ _ qk _ _)))); k_dflt (refine' Spec.here (tag_spec (by kba_ints) (by assumption) (by assumption)) ?hX ?B ?F ?X ?T rfl rfl rfl rfl (Nat.le_of_ble_eq_true rfl) (Nat.le_of_ble_eq_true rfl) ?N ?_ ?_; ((case hX => assumption); (case B => assumption); (case F => k_asm); (case X => k_asm); (case T => k_asm)); (case N => exact news2 (by assumption) (by k_mem) (by k_mem)); rotate_left; intro v'r h'r tk'r F'r hb'r hP'r; (try simp only [List.map_cons, List.map_nil] at hb'r); refine xE3_4 hP'r ?_; clear hP'r; intro n'r u'r t'r e'r hP1 hP2 hP3; subst e'r; (have N'r := news_back2 (by assumption) hb'r (by k_mem) (by k_upd) hP2 hP3); (try k_sweep)))) | ((k_here; k_dflt (refine' fault_here ?hX ?F ?X ?T ?D ?_; (case hX => assumption); (case F => k_asm); (case X => k_asm); (case T => k_asm); (case D => exact Nat.le_of_ble_eq_true rfl))))) | ((with_reducible show wpAny _ _ (subscriptTail _ _ _ _) _ _ _); (k_here; k_dflt (refine item_pair0 (by k_asm) (by k_mem) ?_))) | ((with_reducible show wpAny _ _ (storeName _ _ _) _ _ _); (k_here; k_dflt (refine' storeX_L ?sF ?sN ?_ rfl rfl; (case sF => k_asm); (case sN => k_asm); k_whole; intro hS FS NS; (try k_sweep); refine (let mk := _; (fun (FK : Fr _ _ _ mk) => ?_) FS); clear FS))) | walk1 | (dsimp only; walk1) | (dsimp only [mA]; walk1) | (dsimp only [mE]; walk1) | (dsimp only [mA, mE]; walk1) | (leave1; (try dsimp only))))
          · rename News _ _ _ _ => N9
            have e6 : a + lead + 2 + 6 * (i : Int) + 4 + 2 = a + lead + 2 + 6 * ((i + 1 : Nat) : Int) := by omega
            rw [List.push_toArray, e6] at N9
            refine TurnS.intro (led' := (_, listOf (List.toArray ((iv ++ [.ref T]) ++ [.ref _])) (n' + 1)) :: (_, instObj 187 _) :: (_, srcD _ _ _ _ _ _ b _) :: (_, _) :: tl) (by k_asm) (fun p hp => N9 p ((by (((repeat (refine List.forall_mem_cons.mpr ⟨by k_mem, ?_⟩)); (repeat' (first | exact sub_self _ | refine sub_cons ?_)))) : ∀ p ∈ _, p ∈ _) p hp)) ?_ ?_ ⟨_, _, (_, _) :: tl, (iv ++ [.ref T]) ++ [.ref _], (init ++ [p]) ++ [(_, _)], rfl, ?_, pairs_snoc hp, ?_, ?_, ?_⟩
            · exact List.forall_mem_cons.mpr ⟨n1, List.forall_mem_cons.mpr ⟨n2, List.forall_mem_cons.mpr ⟨n3, List.forall_mem_cons.mpr ⟨by k_ne, fun p hp => hoff4 p hp I (.head _)⟩⟩⟩⟩
            · intro z hz
              have hz0 := hz
              simp only [List.contains_cons, List.contains_nil, Bool.or_false, Bool.or_eq_false_iff, beq_eq_false_iff_ne] at hz
              refine xE0_3 hz ?_; (try clear hz); intro z1 z2 z3
              simp +zetaDelta only [if_neg z1, if_neg z2, if_neg z3, hz0, Bool.false_eq_true, if_false]
            · exact own_cons (by k_ne) (by k_ne) (by k_ne) hoff4
            · exact fun r hr => (List.mem_append.mp hr).elim (hok r) fun h => by rw [List.mem_singleton.mp h]; exact tag_ok hb (by assumption)
            · rw [List.length_append, hlen]; rfl
            · exact rec_next hi (turn_ok (by assumption) (low_snoc (by rw [decide_eq_true (by assumption)]; rfl)) (by assumption)) hloop
          · exact Side.mk fun what pl h => recB_err hu hi (turn_off (by assumption) (low_snoc (by rw [decide_eq_true (by assumption)]; rfl)) h) hloop
          · exact Side.mk (recB_err hu hi (turn_low (by assumption) (low_snoc (by rw [decide_eq_false (by assumption)]; rfl))) hloop)
          · exact Side.mk fun what pl h => recB_err hu hi (andE_err h) hloop
    · intro h tk u led₁ hJ F N
      refine xE5_6 hJ ?_; (try clear hJ); intro t' n' tl its rs zq5' hoff hp hok hlen hloop; subst zq5'
      (repeat' (first | ((with_reducible first | refine nextN ?_ | refine nextR ?_); (try dsimp only)) | (k_unfold; (try dsimp only)) | (k_end; kc_close) | ((with_reducible first | show wpAny _ _ (exec _ _) _ _ _ | show wpAny _ _ (eval (Expr.Call ..) _) _ _ _ | show wpAny _ _ (eval (Expr.BinOp ..) _) _ _ _ | show wpAny _ _ (eval (Expr.Subscript ..) _) _ _ _ | show wpAny _ _ (eval (Expr.List ..) _) _ _ _ | show wpAny _ _ (eval (Expr.Tuple ..) _) _ _ _); (fail_if_success (fail_if_success k_fold)); refine (let qk := _; (?_ : wpAny _ _ _ qk _ _))) | ((with_reducible refine execsN ?_); (try k_gentoks)) | ((with_reducible refine args_cons ?_ ?he); (case he => exact rfl)) | walk1 | (dsimp only; walk1) | (dsimp only [mA]; walk1) | (dsimp only [mE]; walk1) | (dsimp only [mA, mE]; walk1) | (leave1; (try dsimp only))))
      refine ends_ret (by assumption) F (P := _) ?_
      exact xI5_6 _ its n' tl rs rfl (Made.of (by assumption) N fun p hp => (List.mem_cons.mp hp).elim (fun e => e ▸ .head _) fun hp => .tail _ (.tail _ (.tail _ hp))) hp hok (by omega) (recB_ok hu hloop)
  · exact Side.mk fun what pl h => andE_err h
end
section
open PySem.Calls
inductive LangsIn (tl : List (Addr × Obj)) : List (Str × Value) → List (Str × (Int × List Int)) → Prop
  | nil : LangsIn tl [] []
  | cons {t : Str} {v : Value} {x : Int × List Int} {kvs : List (Str × Value)} {ls : List (Str × (Int × List Int))} : LangIn tl v x.1 x.2 → LangsIn tl kvs ls → LangsIn tl ((t, v) :: kvs) ((t, x) :: ls)
theorem LangsIn.mono {tl tl' : List (Addr × Obj)} (hs : ∀ p ∈ tl, p ∈ tl') {kvs : List (Str × Value)} {ls : List (Str × (Int × List Int))} (h : LangsIn tl kvs ls) : LangsIn tl' kvs ls := by
  induction h with
  | nil => exact .nil
  | cons a _ ih => exact .cons (a.mono hs) ih
theorem LangsIn.snoc {tl : List (Addr × Obj)} {t : Str} {v : Value} {x : Int × List Int} (a : LangIn tl v x.1 x.2) {kvs : List (Str × Value)} {ls : List (Str × (Int × List Int))} (h : LangsIn tl kvs ls) : LangsIn tl (kvs ++ [(t, v)]) (ls ++ [(t, x)]) := by
  induction h with
  | nil => exact .cons a .nil
  | cons b _ ih => exact .cons b ih
theorem LangsIn.keys {tl : List (Addr × Obj)} {kvs : List (Str × Value)} {ls : List (Str × (Int × List Int))} (h : LangsIn tl kvs ls) : kvs.map (·.1) = ls.map (·.1) := by
  induction h with
  | nil => rfl
  | cons b _ ih => rw [List.map_cons, List.map_cons, ih]
def DefIn (tl : List (Addr × Obj)) (v : Value) : Option (Int × List Int) → Prop
  | none => v = .none
  | some x => LangIn tl v x.1 x.2
theorem DefIn.mono {tl tl' : List (Addr × Obj)} {v : Value} (hs : ∀ p ∈ tl, p ∈ tl') : {d : Option (Int × List Int)} → DefIn tl v d → DefIn tl' v d
  | none, h => h
  | some _, h => LangIn.mono hs h
noncomputable def defB (ks : List Int) (a off : Int) : Except (Str × Int) (Option (Int × List Int)) := if 0 < off then andE (langB ks (a + off)) fun x => .ok (some x) else .ok none
noncomputable def langsB (ks : List Int) : List (Str × Int) → Except (Str × Int) (List (Str × (Int × List Int)))
  | [] => .ok []
  | p :: r => andE (langB ks p.2) fun x => andE (langsB ks r) fun l => .ok ((p.1, x) :: l)
noncomputable def scriptB (ks : List Int) (a : Int) : Except (Str × Int) (Option (Int × List Int) × List (Str × (Int × List Int))) :=
  andE (u16 ks a) fun off => andE (defB ks a off) fun d => andE (recB ks a 2 true) fun rs => andE (langsB ks rs) fun ls => .ok (d, ls)
theorem langsB_snoc {ks : List Int} {p : Str × Int} {x : Int × List Int} (hx : langB ks p.2 = .ok x) : ∀ {l : List (Str × Int)} {ls : List (Str × (Int × List Int))}, langsB ks l = .ok ls → langsB ks (l ++ [p]) = .ok (ls ++ [(p.1, x)])
  | [], ls, h => by
    cases h
    exact (andE_ok hx).trans rfl
  | q :: l, ls, h => by
    unfold langsB at h
    cases h1 : langB ks q.2 with
    | error e => rw [andE_err h1] at h; cases h
    | ok y =>
      rw [andE_ok h1] at h
      cases h2 : langsB ks l with
      | error e => rw [andE_err h2] at h; cases h
      | ok m =>
        rw [andE_ok h2] at h
        cases h
        exact (andE_ok h1).trans ((andE_ok (langsB_snoc hx h2)).trans rfl)
theorem langsB_err {ks : List Int} {p : Str × Int} {e : Str × Int} {r : List (Str × Int)} (hx : langB ks p.2 = .error e) : ∀ {l : List (Str × Int)} {ls : List (Str × (Int × List Int))}, langsB ks l = .ok ls → langsB ks (l ++ p :: r) = .error e
  | [], ls, h => andE_err hx
  | q :: l, ls, h => by
    unfold langsB at h
    cases h1 : langB ks q.2 with
    | error e => rw [andE_err h1] at h; cases h
    | ok y =>
      rw [andE_ok h1] at h
      cases h2 : langsB ks l with
      | error e => rw [andE_err h2] at h; cases h
      | ok m =>
        exact (andE_ok h1).trans (andE_err (langsB_err hx h2))
abbrev strLt (a b : Str) : Prop := a.cps.toList < b.cps.toList
def Asc (l : List Str) : Prop := l.Pairwise strLt
theorem strLt_trans {a b c : Str} (h1 : strLt a b) (h2 : strLt b c) : strLt a c := List.lt_trans h1 h2
theorem Asc.snoc {init : List Str} {p t : Str} (h : Asc (init ++ [p])) (hp : strLt p t) : Asc ((init ++ [p]) ++ [t]) := by
  refine List.pairwise_append.mpr ⟨h, List.pairwise_singleton _ _, fun a ha b hb => ?_⟩
  rw [List.mem_singleton.mp hb]
  rcases List.mem_append.mp ha with ha | ha
  · exact strLt_trans ((List.pairwise_append.mp h).2.2 a ha p (.head _)) hp
  · rw [List.mem_singleton.mp ha]; exact hp
theorem asc_turn {ks : List Int} {a pos : Int} {f f' : List (Str × Int)} (h : recTurn ks a true pos f = .ok f') (hf : Asc (f.map (·.1))) : Asc (f'.map (·.1)) := by
  unfold recTurn at h
  cases h1 : tagAt ks pos with
  | error e => rw [andE_err h1] at h; cases h
  | ok tag =>
    rw [andE_ok h1] at h
    split at h
    · cases h
    · rename_i hlow
      cases h2 : offB ks (pos + 4) a with
      | error e => rw [andE_err h2] at h; cases h
      | ok pl =>
        rw [andE_ok h2] at h
        cases h
        rw [List.map_append, List.map_cons, List.map_nil]
        rcases nil_or_snoc f with rfl | ⟨init, p, rfl⟩
        · exact List.pairwise_singleton _ _
        · rw [List.map_append, List.map_cons, List.map_nil] at hf ⊢
          refine Asc.snoc hf ?_
          simp only [Bool.true_and, tooLow, List.getLast?_append, List.getLast?_singleton, Option.some_or, Bool.not_eq_true, Bool.not_eq_false', decide_eq_true_eq] at hlow
          exact hlow
theorem asc_loop {ks : List Int} {a : Int} : ∀ (k : Nat) {pos : Int} {f r : List (Str × Int)}, recLoop ks a true k pos f = .ok r → Asc (f.map (·.1)) → Asc (r.map (·.1))
  | 0, _, _, _, h, hf => by cases h; exact hf
  | k + 1, pos, f, r, h, hf => by
    unfold recLoop at h
    cases h1 : recTurn ks a true pos f with
    | error e => rw [andE_err h1] at h; cases h
    | ok f' =>
      rw [andE_ok h1] at h
      exact asc_loop k h (asc_turn h1 hf)
theorem asc_rec {ks : List Int} {a lead : Int} {r : List (Str × Int)} (h : recB ks a lead true = .ok r) : Asc (r.map (·.1)) := by
  unfold recB at h
  cases h1 : u16 ks (a + lead) with
  | error e => rw [andE_err h1] at h; cases h
  | ok c =>
    rw [andE_ok h1] at h
    exact asc_loop _ h .nil
theorem strLt_irrefl (a : Str) : ¬ strLt a a := List.lt_irrefl _
theorem Asc.not_mem {l r : List Str} {t : Str} (h : Asc (l ++ t :: r)) : t ∉ l := fun hm => strLt_irrefl t ((List.pairwise_append.mp h).2.2 t hm t (.head _))
theorem valueAt_none {K : Type} [DecidableEq K] {k : K} : ∀ {kvs : List (K × Value)}, k ∉ kvs.map (·.1) → valueAt kvs k = none := by
  intro kvs h
  unfold valueAt
  cases e : kvs.find? (fun p => decide (p.1 = k)) with
  | none => simp
  | some p =>
    have := List.find?_some e
    have hm := List.mem_of_find?_eq_some e
    simp only [decide_eq_true_eq] at this
    exact absurd (List.mem_map.mpr ⟨p, hm, this⟩) h
noncomputable abbrev scriptD (k1 k2 k3 : Int) (t1 t2 t3 t4 : Tok) (tag : Str) (vd : Value) (lg : Addr) : Obj := dictOf [⟨k1, .str "tag" t1, .str tag t2⟩, ⟨k2, .str "default" t3, vd⟩, ⟨k3, .str "languages" t4, .ref lg⟩] 3
def ScriptIn (w : World) (tl : List (Addr × Obj)) (v : Value) (tag : Str) (d : Option (Int × List Int)) (ls : List (Str × (Int × List Int))) : Prop :=
  ∃ x dx lg od kvs vd k1 k2 k3 t1 t2 t3 t4, v = .ref x ∧ (x, instObj 241 dx) ∈ tl ∧ (dx, scriptD k1 k2 k3 t1 t2 t3 t4 tag vd lg) ∈ tl ∧ (lg, od) ∈ tl ∧ od.IsDictOf (strKind rw_pb0183_01.row.prog w) kvs ∧ (lg == sysModules) = false ∧ DefIn tl vd d ∧ LangsIn tl kvs ls
section
variable {w : World} {A : Around} {E : Value → Shared → Prop} {s : Shared} {g : Heap} {L : Addr} {m : Str → Option Value} {Q : Value → Shared → Prop}
structure DefMid (g : Heap) (L : Addr) (m : Str → Option Value) (ks : List Int) (a off : Int) (s : Shared) (v : Value) (s' : Shared) : Prop where
  out : ∃ h tk tl d, s' = { s with heap := h, toks := tk } ∧ Fr g L h m ∧ News g L h tl ∧ DefIn tl v d ∧ defB ks a off = .ok d
theorem ifexp_mid {env : Env} {test body orelse : Expr} {pos : Pos} {ks : List Int} {a off : Int} (_F : Fr g L s.heap m) (_hu : u16 ks a = .ok off)
    (h1 : wpAny (model rw_pb0183_01.row.prog w) A (isTrue test env (eval test env)) (fun c s₂ => if c then wpAny (model rw_pb0183_01.row.prog w) A (eval body env) (DefMid g L m ks a off s) E s₂ else wpAny (model rw_pb0183_01.row.prog w) A (eval orelse env) (DefMid g L m ks a off s) E s₂) E s)
    (h2 : ∀ v h tk tl d, Fr g L h m → News g L h tl → DefIn tl v d → defB ks a off = .ok d → Q v { s with heap := h, toks := tk }) : wpAny (model rw_pb0183_01.row.prog w) A (eval (.IfExp test body orelse pos) env) Q E s :=
  wpAny_mono (IfExp_ h1) (fun v s' q => by
    refine xE4_5 (q.out) ?_; intro h tk tl d zq1' F N hd hB; subst zq1'
    exact h2 v h tk tl d F N hd hB) fun _ _ e => e
end
end
section
open PySem.Calls
theorem pair_at {tl : List (Addr × Obj)} {its : List Value} {rs : List (Str × Int)} (hp : DatAll tl its (rs.map pairD)) {i : Nat} {v : Value} (hv : (List.toArray its)[i]? = some v) : ∃ p T t u n, i < rs.length ∧ rs[i]? = some p ∧ v = .ref T ∧ (T, pairO p.1 t p.2 u n) ∈ tl := by
  have hl := hp.length
  rw [List.getElem?_toArray] at hv
  have hi : i < rs.length := by
    have := (List.getElem?_eq_some_iff.mp hv).1
    rw [List.length_map] at hl
    omega
  refine xE1_2 (hp.get (k := i) (by rw [List.length_map]; exact hi)) ?_; intro v' e hd
  rw [hv] at e
  cases e
  rw [List.getElem_map] at hd
  refine xE4_2 (pair_of hd) ?_; intro T t u n zq1' hm; subst zq1'
  exact xI5_4 (rs[i]) T t u n hi (List.getElem?_eq_getElem hi) rfl hm
theorem off_app {tl tl2 : List (Addr × Obj)} {D I : Addr} {oI od : Obj} (h1 : OwnOff tl [D]) (h2 : OwnOff tl2 (List.map (fun x => x.1) ((I, oI) :: (D, od) :: tl))) : ∀ p ∈ tl ++ tl2, p.1 ≠ D := fun p hp => by
  rcases List.mem_append.mp hp with hp | hp
  · exact h1 p hp D (.head _)
  · exact h2 p hp D (.tail _ (.head _))
def ScrJ (w : World) (ks : List Int) (D lf : Addr) (its : List Value) (n : Nat) (rs : List (Str × Int)) (vd : Value) (d : Option (Int × List Int)) (i : Nat) (led : List (Addr × Obj)) : Prop :=
  ∃ od kvs tl' ls, led = (D, od) :: tl' ∧ OwnOff tl' [D] ∧ od.IsDictOf (strKind rw_pb0183_01.row.prog w) kvs ∧ (lf, listOf (List.toArray its) n) ∈ tl' ∧ DatAll tl' its (rs.map pairD) ∧ DefIn tl' vd d ∧ LangsIn tl' kvs ls ∧ ls.map (·.1) = (rs.take i).map (·.1) ∧ langsB ks (rs.take i) = .ok ls
theorem off_all {tl tl2 : List (Addr × Obj)} {D I : Addr} {oI od o' : Obj} (h1 : ∀ p ∈ (D, od) :: tl, p.1 ≠ I) (h2 : OwnOff tl2 (List.map (fun x => x.1) ((I, oI) :: (D, od) :: tl))) : ∀ p ∈ (D, o') :: (tl ++ tl2), p.1 ≠ I := fun p hp => by
  rcases List.mem_cons.mp hp with rfl | hp
  · exact h1 (D, od) (.head _)
  rcases List.mem_append.mp hp with hp | hp
  · exact h1 p (.tail _ hp)
  · exact h2 p hp I (.head _)
theorem take_snoc {α : Type} {l : List α} {i : Nat} {p : α} (h : l[i]? = some p) : l.take (i + 1) = l.take i ++ [p] := by
  rw [List.take_add_one, h]; rfl
theorem take_split {α : Type} {l : List α} {i : Nat} {p : α} (h : l[i]? = some p) : l = l.take i ++ p :: l.drop (i + 1) := by
  obtain ⟨hi, rfl⟩ := List.getElem?_eq_some_iff.mp h
  rw [← List.drop_eq_getElem_cons hi, List.take_append_drop]
theorem langsB_err_at {ks : List Int} {rs : List (Str × Int)} {i : Nat} {p e : Str × Int} {ls : List (Str × (Int × List Int))} (hpi : rs[i]? = some p) (hx : langB ks p.2 = .error e) (hB : langsB ks (rs.take i) = .ok ls) : langsB ks rs = .error e := by
  have := langsB_err (r := rs.drop (i + 1)) hx hB
  rwa [← take_split hpi] at this
theorem take_all {tl : List (Addr × Obj)} {its : List Value} {rs : List (Str × Int)} (hp : DatAll tl its (rs.map pairD)) : rs.take (List.toArray its).size = rs := by rw [List.size_toArray, hp.length, List.length_map, List.take_length]
theorem scr_mem {w : World} {ks : List Int} {D lf : Addr} {its : List Value} {n : Nat} {rs : List (Str × Int)} {vd : Value} {d : Option (Int × List Int)} {i : Nat} {led : List (Addr × Obj)} : ScrJ w ks D lf its n rs vd d i led → (lf, listOf (List.toArray its) n) ∈ led := fun h => by
  refine xE4_5 h ?_; (try clear h); intro _ _ _ _ e _ _ h _
  exact e ▸ .tail _ h
theorem new_key {kvs : List (Str × Value)} {ls : List (Str × (Int × List Int))} {tl : List (Addr × Obj)} {rs : List (Str × Int)} {i : Nat} {p : Str × Int} {v : Value} (hasc : Asc (rs.map (·.1))) (hp : rs[i]? = some p) (hls : LangsIn tl kvs ls) (hks : ls.map (·.1) = (rs.take i).map (·.1)) : stored kvs p.1 v = kvs ++ [(p.1, v)] := by
  refine stored_absent (valueAt_none ?_) v
  rw [hls.keys, hks]
  have e := take_split hp
  rw [e, List.map_append, List.map_cons] at hasc
  exact hasc.not_mem
theorem script_spec {w : World} {b : Array UInt8} {ks : List Int} {a : Int} {tag : Str} {t1 t2 t3 : Tok} (hb : KBw.bInts b = ks) (hz : ks.length ≤ 1000) :
    Spec w 301 760 760 [.bytes b t1, .int a t2, .str tag t3] []
      (fun h h' v => ∃ tl d ls, Made h h' tl ∧ ScriptIn w tl v tag d ls ∧ Asc (ls.map (·.1)) ∧ ls.length < 65536 ∧ scriptB ks a = .ok (d, ls)) (fun what pl => scriptB ks a = .error (what, pl)) := by
  ((refine' enter ?ho ?hcd ?hD ?hb ?hl ?_ ?hc ?c1 ?c2 ?c3; (case ho => exact rfl); (case hcd => exact rfl); (case hD => decide); (case hb => exact fun s'r X'r => BindsTo.of_eq rfl); (case hl => exact locs rfl); (case hc => decide); (case c1 => exact rfl); (case c2 => exact rfl); (case c3 => exact rfl); intro p'r loose'r mean'r mg'r mb'r gd'r l'r s'r Q'r E'r g'r L'r h₁'r F'r N'r B'r X'r T'r hL'r hgk'r hgs'r hfp'r hX'r; (try (refine (let mk := _; (fun (FK : Fr _ _ _ mk) => ?_) F'r); clear F'r)); revert X'r; k_fill; intro X'r; (try dsimp only); (try (refine (let mA := _; let mE := _; (?_ : wpAny _ mA (execs _ mE) _ _ _)))); k_fold))
  (repeat' (first | ((with_reducible first | refine nextN ?_ | refine nextR ?_); (try dsimp only)) | (k_unfold; (try dsimp only)) | (k_end; kc_close) | ((with_reducible first | show wpAny _ _ (exec _ _) _ _ _ | show wpAny _ _ (eval (Expr.Call ..) _) _ _ _ | show wpAny _ _ (eval (Expr.BinOp ..) _) _ _ _ | show wpAny _ _ (eval (Expr.Subscript ..) _) _ _ _ | show wpAny _ _ (eval (Expr.List ..) _) _ _ _ | show wpAny _ _ (eval (Expr.Tuple ..) _) _ _ _); (fail_if_success (fail_if_success k_fold)); refine (let qk := _; (?_ : wpAny _ _ _ qk _ _))) | ((with_reducible refine execsN ?_); (try k_gentoks)) | ((with_reducible refine args_cons ?_ ?he); (case he => exact rfl)) | ((with_reducible show wpAny _ _ (exec (Stmt.For (Expr.Tuple ..) (Expr.Call ..) ..) _) _ _ _); (k_here; k_dflt (refine for_sideT (by k_asm) ?_))) | ((with_reducible show wpAny _ _ (eval (Expr.IfExp ..) _) _ _ _); (k_here; k_dflt (refine ifexp_mid (by k_asm) (by assumption) ?_ ?_); rotate_left; intro v'r h'r tk'r tl'r d'r F'r N'r hD'r hP'r; rotate_right)) | ((with_reducible show wpAny _ _ (call (Value.ref _) _ _) _ _ _); first | ((k_here; (try ((fail_if_success (fail_if_success k_fold)); refine (let qk := _; (?_ : wpAny _ _ _ qk _ _)))); k_dflt (refine' Spec.here (records_spec (by kba_ints) (by assumption)) ?hX ?B ?F ?X ?T rfl rfl rfl rfl (Nat.le_of_ble_eq_true rfl) (Nat.le_of_ble_eq_true rfl) ?N ?_ ?_; ((case hX => assumption); (case B => assumption); (case F => k_asm); (case X => k_asm); (case T => k_asm)); (case N => exact News.nil); rotate_left; intro v'r h'r tk'r F'r hb'r hP'r; (try simp only [List.map_cons, List.map_nil] at hb'r); refine xE5_6 hP'r ?_; clear hP'r; intro lf'r its'r n'r tl'r rs'r e'r hM'r hD'r hO'r hz'r hP1; subst e'r; (rename News _ _ _ _ => N8'r); (have O'r := Made.off hM'r N8'r); (have N'r := Made.news hM'r (by assumption) (news_back0 N8'r hb'r)); clear N8'r; (try simp only [List.cons_append, List.nil_append] at N'r); (try k_sweep)))) | ((k_here; (try ((fail_if_success (fail_if_success k_fold)); refine (let qk := _; (?_ : wpAny _ _ _ qk _ _)))); k_dflt (refine' Spec.here (langsys_spec (by kba_ints) (by assumption)) ?hX ?B ?F ?X ?T rfl rfl rfl rfl (Nat.le_of_ble_eq_true rfl) (Nat.le_of_ble_eq_true rfl) ?N ?_ ?_; ((case hX => assumption); (case B => assumption); (case F => k_asm); (case X => k_asm); (case T => k_asm)); (case N => exact News.nil); rotate_left; intro v'r h'r tk'r F'r hb'r hP'r; (try simp only [List.map_cons, List.map_nil] at hb'r); refine xE3_3 hP'r ?_; clear hP'r; intro tl'r r'r fs'r hM'r hL'r hP1; (rename News _ _ _ _ => N8'r); (have O'r := Made.off hM'r N8'r); (have N'r := Made.news hM'r (by assumption) (news_back0 N8'r hb'r)); clear N8'r; (try simp only [List.cons_append, List.nil_append] at N'r); (try k_sweep)))) | ((k_here; (try ((fail_if_success (fail_if_success k_fold)); refine (let qk := _; (?_ : wpAny _ _ _ qk _ _)))); k_dflt (refine' Spec.here (u16_spec (by kba_ints) (by assumption) (by assumption)) ?hX ?B ?F ?X ?T rfl rfl rfl rfl (Nat.le_of_ble_eq_true rfl) (Nat.le_of_ble_eq_true rfl) ?N ?_ ?_; ((case hX => assumption); (case B => assumption); (case F => k_asm); (case X => k_asm); (case T => k_asm)); (case N => exact news2 (by assumption) (by k_mem) (by k_mem)); rotate_left; intro v'r h'r tk'r F'r hb'r hP'r; (try simp only [List.map_cons, List.map_nil] at hb'r); refine xE3_4 hP'r ?_; clear hP'r; intro n'r u'r t'r e'r hP1 hP2 hP3; subst e'r; (have N'r := news_back2 (by assumption) hb'r (by k_mem) (by k_upd) hP2 hP3); (have hB'r := u16_lt (by kba_ints) hP1); (try k_sweep))))) | ((with_reducible show wpAny _ _ (storeName _ _ _) _ _ _); (k_here; k_dflt (refine' storeX_L ?sF ?sN ?_ rfl rfl; (case sF => k_asm); (case sN => k_asm); k_whole; intro hS FS NS; (try k_sweep); refine (let mk := _; (fun (FK : Fr _ _ _ mk) => ?_) FS); clear FS))) | walk1 | (dsimp only; walk1) | (dsimp only [mA]; walk1) | (dsimp only [mE]; walk1) | (dsimp only [mA, mE]; walk1) | (leave1; (try dsimp only))))
  · rename LangIn _ _ _ _ => hL9
    rename langB _ _ = .ok _ => hB9
    rename News _ _ _ _ => N9
    refine ⟨_, _, _, some (_, _), rfl, by assumption, fun p hp => N9 p (.tail _ (.tail _ hp)), hL9, ?_⟩
    unfold defB
    rw [if_pos (by assumption)]
    exact andE_ok hB9
  · exact Side.mk fun what pl h => (andE_ok (by assumption)).trans (andE_err (by unfold defB; rw [if_pos (by assumption)]; exact andE_err h))
  · exact ⟨_, _, [], none, rfl, by assumption, (fun _ h => nomatch h), rfl, by unfold defB; rw [if_neg (by assumption)]⟩
  · rename u16 ks _ = .ok _ => hu
    rename defB _ _ _ = .ok _ => hdf
    rename recB _ _ _ _ = .ok _ => hr
    rename DatAll _ _ _ => hp
    rename DefIn _ _ _ => hD
    rename News _ _ _ _ => N9
    rename OwnOff _ _ => hO9
    rename List.length _ < 65536 => hlen
    have hasc := asc_rec hr
    refine Side.mk (loop_listS ["language", "begun"] (ScrJ w ks _ _ _ _ _ _ _) rfl (by assumption) N9 ⟨_, [], _, [], rfl, ?_, by assumption, List.mem_append_right _ (.head _), hp.mono fun p hp => List.mem_append_right _ (.tail _ hp), hD.mono fun p hp => List.mem_append_left _ hp, .nil, rfl, rfl⟩ (fun i led hJ => scr_mem hJ) ?_ ?_)
    · intro p hp q hq
      rw [List.mem_singleton.mp hq]
      (refine (let gk : Prop := _; (?_ : gk)); rcases List.mem_append.mp hp with hp | hp <;> k_unfold)
      · exact Nat.ne_of_lt ((by assumption : ∀ p ∈ _, p.1 < _) p hp)
      · exact hO9 p hp _ (.head _)
    · intro i v u led₁ I oI h tk hv hJ off F N
      refine xE4_9 hJ ?_; (try clear hJ); intro od kvs tl' ls zq2' hoff hod hlf hp' hD' hls hks hB; subst zq2'
      refine xE5_4 (pair_at hp' hv) ?_; intro p T tt tu tn hi hpi zq3' hT; subst zq3'
      have hTup : IsTup h T #[.str p.1 tt, .int p.2 tu] := ⟨_, (N _ (.tail _ (.tail _ hT))).1, rfl, tn, rfl⟩
      have hDI : @Ne Nat _ I := off _ (.head _)
      have hsz : kvs.length ≤ sizeLine := by
        have e1 := congrArg List.length hls.keys
        have e2 := congrArg List.length hks
        simp only [List.length_map, List.length_take] at e1 e2
        rw [sizeLine_eq]; omega
      (repeat' (first | ((with_reducible first | refine nextN ?_ | refine nextR ?_); (try dsimp only)) | (k_unfold; (try dsimp only)) | (k_end; kc_close) | ((with_reducible first | show wpAny _ _ (exec _ _) _ _ _ | show wpAny _ _ (eval (Expr.Call ..) _) _ _ _ | show wpAny _ _ (eval (Expr.BinOp ..) _) _ _ _ | show wpAny _ _ (eval (Expr.Subscript ..) _) _ _ _ | show wpAny _ _ (eval (Expr.List ..) _) _ _ _ | show wpAny _ _ (eval (Expr.Tuple ..) _) _ _ _); (fail_if_success (fail_if_success k_fold)); refine (let qk := _; (?_ : wpAny _ _ _ qk _ _))) | ((with_reducible refine execsN ?_); (try k_gentoks)) | ((with_reducible refine args_cons ?_ ?he); (case he => exact rfl)) | ((with_reducible show wpAny _ _ (setItem (Value.ref _) (Value.str ..) _) _ _ _); (k_here; k_dflt (refine' kda_set (knd := PySem.strKind _ _) ?F ?N (UpdF.tail ?e (UpdF.head ?al)) ?d (strKind_is _ _ _ _) ?z ?_; (case F => k_asm); (case N => k_asm); (case d => k_asm); (case e => k_ne); (case al => exact off_app (by assumption) (by assumption)); (case z => assumption)); intro h'r o'r F'r N'r hd'r; (try dsimp only at N'r))) | ((with_reducible show wpAny _ _ (call (Value.ref _) _ _) _ _ _); (k_here; (try ((fail_if_success (fail_if_success k_fold)); refine (let qk := _; (?_ : wpAny _ _ _ qk _ _)))); k_dflt (refine' Spec.here (langsys_spec (by kba_ints) (by assumption)) ?hX ?B ?F ?X ?T rfl rfl rfl rfl (Nat.le_of_ble_eq_true rfl) (Nat.le_of_ble_eq_true rfl) ?N ?_ ?_; ((case hX => assumption); (case B => assumption); (case F => k_asm); (case X => k_asm); (case T => k_asm)); (case N => exact News.nil); rotate_left; intro v'r h'r tk'r F'r hb'r hP'r; (try simp only [List.map_cons, List.map_nil] at hb'r); refine xE3_3 hP'r ?_; clear hP'r; intro tl'r r'r fs'r hM'r hL'r hP1; (rename News _ _ _ _ => N8'r); (have O'r := Made.off hM'r N8'r); (have N'r := Made.news hM'r (by assumption) (news_back0 N8'r hb'r)); clear N8'r; (try simp only [List.cons_append, List.nil_append] at N'r); (try k_sweep)))) | ((with_reducible show wpAny _ _ (storeName _ _ _) _ _ _); (k_here; k_dflt (refine' storeX_L ?sF ?sN ?_ rfl rfl; (case sF => k_asm); (case sN => k_asm); k_whole; intro hS FS NS; (try k_sweep); refine (let mk := _; (fun (FK : Fr _ _ _ mk) => ?_) FS); clear FS))) | walk1 | (dsimp only; walk1) | (dsimp only [mA]; walk1) | (dsimp only [mE]; walk1) | (dsimp only [mA, mE]; walk1) | (leave1; (try dsimp only))))
      · rename LangIn _ _ _ _ => hL9
        rename langB _ _ = .ok _ => hB9
        rename Obj.IsDictOf _ _ _ => hd9
        rename OwnOff _ _ => hO8
        rename News _ _ _ _ => N9
        rw [new_key hasc hpi hls hks] at hd9
        refine TurnS.intro (by k_asm) N9 (off_all off hO8) ?_ ⟨_, _, _, ls ++ [(p.1, (_, _))], rfl, fun q hq x hx => by rw [List.mem_singleton.mp hx]; exact off_app hoff hO8 q hq, hd9, List.mem_append_left _ hlf, hp'.mono fun q hq => List.mem_append_left _ hq, hD'.mono fun q hq => List.mem_append_left _ hq,
          LangsIn.snoc (hL9.mono fun q hq => List.mem_append_right _ hq) (hls.mono fun q hq => List.mem_append_left _ hq), ?_, ?_⟩
        · intro z hz
          have hz0 := hz
          simp only [List.contains_cons, List.contains_nil, Bool.or_false, Bool.or_eq_false_iff, beq_eq_false_iff_ne] at hz
          refine xE0_2 hz ?_; (try clear hz); intro z1 z2
          simp +zetaDelta only [if_neg z1, if_neg z2, hz0, Bool.false_eq_true, if_false]
        · rw [take_snoc hpi, List.map_append, List.map_append, hks]; rfl
        · rw [take_snoc hpi]; exact langsB_snoc hB9 hB
      · refine Side.mk fun what pl h => (andE_ok hu).trans ((andE_ok hdf).trans ((andE_ok hr).trans (andE_err (langsB_err_at hpi h hB))))
    · intro h tk u led₁ hJ F N
      refine xE4_9 hJ ?_; (try clear hJ); intro od kvs tl' ls zq4' hoff hod hlf hp' hD' hls hks hB; subst zq4'
      (repeat' (first | ((with_reducible first | refine nextN ?_ | refine nextR ?_); (try dsimp only)) | (k_unfold; (try dsimp only)) | (k_end; kc_close) | ((with_reducible first | show wpAny _ _ (exec _ _) _ _ _ | show wpAny _ _ (eval (Expr.Call ..) _) _ _ _ | show wpAny _ _ (eval (Expr.BinOp ..) _) _ _ _ | show wpAny _ _ (eval (Expr.Subscript ..) _) _ _ _ | show wpAny _ _ (eval (Expr.List ..) _) _ _ _ | show wpAny _ _ (eval (Expr.Tuple ..) _) _ _ _); (fail_if_success (fail_if_success k_fold)); refine (let qk := _; (?_ : wpAny _ _ _ qk _ _))) | ((with_reducible refine execsN ?_); (try k_gentoks)) | ((with_reducible refine args_cons ?_ ?he); (case he => exact rfl)) | walk1 | (dsimp only; walk1) | (dsimp only [mA]; walk1) | (dsimp only [mE]; walk1) | (dsimp only [mA, mE]; walk1) | (leave1; (try dsimp only))))
      rename News _ _ _ _ => N9
      rw [take_all hp'] at hks hB
      have e2 := congrArg List.length hks
      simp only [List.length_map] at e2
      refine ends_ret (by assumption) (by assumption) (P := _) ?_
      exact ⟨_, _, ls, Made.of (by assumption) N9 fun _ h => h, ⟨_, _, _, od, kvs, _, _, _, _, _, _, _, _, rfl, .head _, .tail _ (.head _), .tail _ (.tail _ (.head _)), hod, by assumption, hD'.mono fun p hp => .tail _ (.tail _ (.tail _ hp)), hls.mono fun p hp => .tail _ (.tail _ (.tail _ hp))⟩,
        hks ▸ hasc, by omega, (andE_ok hu).trans ((andE_ok hdf).trans ((andE_ok hr).trans (andE_ok hB)))⟩
  · exact Side.mk fun what pl h => (andE_ok (by assumption)).trans ((andE_ok (by assumption)).trans (andE_err h))
  · exact Side.mk fun what pl h => andE_err h
end
section
open PySem.Calls
noncomputable def nineAt (ks : List Int) (a : Int) : Bool := decide (a.toNat < ks.length ∧ ks.getD a.toNat 0 = 9)
noncomputable def kindB (ks : List Int) (a n : Int) : Str := if nineAt ks a = true then "odd" else Str.ofString "k" ++ Str.ofString (toString n)
theorem nine_iff {B : Array UInt8} : (B.toList == (#[9] : Array UInt8).toList) = true ↔ KBw.bInts B = [9] := by
  obtain ⟨l⟩ := B
  unfold KBw.bInts
  simp only [beq_iff_eq]
  constructor
  · intro h
    have h : l = [9] := h
    subst h; rfl
  · intro h
    cases l with
    | nil => cases h
    | cons x r =>
      cases r with
      | nil =>
        simp only [List.map_cons, List.map_nil, List.cons.injEq, and_true] at h
        have : x.toNat = 9 := by omega
        have : x = 9 := UInt8.toNat_inj.mp this
        rw [this]
      | cons y r => simp at h
theorem one_of {ks : List Int} {a : Int} (h0 : 0 ≤ a) : List.take (clipAt ks.length (a + 1) - clipAt ks.length a) (List.drop (clipAt ks.length a) ks) = if a.toNat < ks.length then [ks.getD a.toNat 0] else [] := by
  by_cases h : a.toNat < ks.length
  · rw [clipAt_in h0 (Int.le_of_lt ((Int.toNat_lt h0).mp h)), clipAt_in (Int.add_nonneg h0 (by decide)) ((Int.toNat_lt h0).mp h), show (a + 1).toNat = a.toNat + 1 from Int.toNat_add_nat h0 1, Nat.add_sub_cancel_left, drop_get h, if_pos h]
    rfl
  · rw [show clipAt ks.length a = ks.length from Int.ofNat.inj ((clipAt_min h0).trans (by
      split
      · rfl
      · rename_i q
        exact Int.le_antisymm (Int.not_lt.mp q) ((Int.le_toNat h0).mp (Nat.not_lt.mp h)))), if_neg h, List.drop_length, List.take_nil]
theorem nine_of {ks : List Int} {a : Int} {B : Array UInt8} {r : Bool} (h0 : 0 ≤ a) (hk : KBw.bInts B = List.take (clipAt ks.length (a + 1) - clipAt ks.length a) (List.drop (clipAt ks.length a) ks)) (h : (B.toList == (#[9] : Array UInt8).toList) = r) : nineAt ks a = r := by
  rw [one_of h0] at hk
  unfold nineAt
  cases r with
  | true =>
    rw [nine_iff.mp h] at hk
    split at hk
    · rename_i h1
      simp only [List.cons.injEq, and_true] at hk
      exact decide_eq_true ⟨h1, hk.symm⟩
    · cases hk
  | false =>
    refine decide_eq_false fun ⟨h1, h2⟩ => ?_
    rw [if_pos h1, h2] at hk
    rw [nine_iff.mpr hk] at h
    cases h
theorem tab_made {s g h : Heap} {L x dx lx T : Addr} {news : List (Addr × Obj)} {its : List Value} {c n' : Nat} {k1 k2 a n : Int} {t1 t2 t3 tk : Tok} {ks fs : List Int} {kind : Str} (hgk : ∀ b o, s.get? b = some o → b ∉ ([] : List (Addr × Obj)).map (·.1) → g.get? b = some o) (N : News g L h news)
    (h0 : (T, ({ cls := .type "tuple", data := .seq #[.str kind tk, .ref x] n' } : Obj)) ∈ news) (h1 : (x, instObj 215 dx) ∈ news) (h2 : (dx, langD k1 k2 t1 t2 t3 a lx) ∈ news) (h3 : (lx, listOf its.toArray c) ∈ news) (hi : IntsAre its fs) (hf : fs = [n]) (hk : kindB ks a n = kind) :
    ∃ T' x tk n' tl, Value.ref T = .ref T' ∧ Made s h ((T', { cls := .type "tuple", data := .seq #[.str (kindB ks a n) tk, .ref x] n' }) :: tl) ∧ LangIn tl (.ref x) a [n] := by
  subst hf hk
  exact xI5_3 T x tk n' [_, _, _] rfl (Made.of hgk N (List.forall_mem_cons.mpr ⟨h0, mem3 h1 h2 h3⟩)) (.made hi)
theorem table_spec {w : World} {b : Array UInt8} {ks : List Int} {a n : Int} {t1 t2 t3 : Tok} (hb : KBw.bInts b = ks) (hz : ks.length ≤ 1000) (ha : 0 ≤ a) (hn : 0 ≤ n ∧ n < 65536) :
    Spec w 361 780 780 [.int n t3, .bytes b t1, .int a t2] []
      (fun h h' v => ∃ T x tk n' tl, v = .ref T ∧ Made h h' ((T, { cls := .type "tuple", data := .seq #[.str (kindB ks a n) tk, .ref x] n' }) :: tl) ∧ LangIn tl (.ref x) a [n]) (fun _ _ => False) := by
  ((refine' enter ?ho ?hcd ?hD ?hb ?hl ?_ ?hc ?c1 ?c2 ?c3; (case ho => exact rfl); (case hcd => exact rfl); (case hD => decide); (case hb => exact fun s'r X'r => BindsTo.of_eq rfl); (case hl => exact locs rfl); (case hc => decide); (case c1 => exact rfl); (case c2 => exact rfl); (case c3 => exact rfl); intro p'r loose'r mean'r mg'r mb'r gd'r l'r s'r Q'r E'r g'r L'r h₁'r F'r N'r B'r X'r T'r hL'r hgk'r hgs'r hfp'r hX'r; (try (refine (let mk := _; (fun (FK : Fr _ _ _ mk) => ?_) F'r); clear F'r)); revert X'r; k_fill; intro X'r; (try dsimp only); (try (refine (let mA := _; let mE := _; (?_ : wpAny _ mA (execs _ mE) _ _ _)))); k_fold))
  (repeat' (first | ((with_reducible first | refine nextN ?_ | refine nextR ?_); (try dsimp only)) | (k_unfold; (try dsimp only)) | (k_end; kc_close) | ((with_reducible first | show wpAny _ _ (exec _ _) _ _ _ | show wpAny _ _ (eval (Expr.Call ..) _) _ _ _ | show wpAny _ _ (eval (Expr.BinOp ..) _) _ _ _ | show wpAny _ _ (eval (Expr.Subscript ..) _) _ _ _ | show wpAny _ _ (eval (Expr.List ..) _) _ _ _ | show wpAny _ _ (eval (Expr.Tuple ..) _) _ _ _); (fail_if_success (fail_if_success k_fold)); refine (let qk := _; (?_ : wpAny _ _ _ qk _ _))) | ((with_reducible refine execsN ?_); (try k_gentoks)) | ((with_reducible refine args_cons ?_ ?he); (case he => exact rfl)) | ((with_reducible show wpAny _ _ (storeName _ _ _) _ _ _); (k_here; k_dflt (refine' storeX_L ?sF ?sN ?_ rfl rfl; (case sF => k_asm); (case sN => k_asm); k_whole; intro hS FS NS; (try k_sweep); refine (let mk := _; (fun (FK : Fr _ _ _ mk) => ?_) FS); clear FS))) | walk1 | (dsimp only; walk1) | (dsimp only [mA]; walk1) | (dsimp only [mE]; walk1) | (dsimp only [mA, mE]; walk1) | (leave1; (try dsimp only))))
  all_goals
    (try k_unfold)
    (try dsimp only)
    rename News _ _ _ _ => N9
    refine ends_ret (by assumption) (by assumption) (P := _) ?_
    refine tab_made (by assumption) N9 (by k_mem) (by k_mem) (by k_mem) (by k_mem) (.cons _ _ .nil) rfl ?_
    rename KBw.bInts (KBy.picked _ _ _) = _ => hk9
    rename (_ == _) = _ => hr9
    unfold kindB
    rw [nine_of ha hk9 hr9]
    rfl
end
section
open PySem.Calls
noncomputable def plLoop (ks : List Int) (at' : Int) : Nat → Int → List Int → Except (Str × Int) (List Int)
  | 0, _, found => .ok found
  | k + 1, pos, found => andE (offB ks pos at') fun p => plLoop ks at' k (pos + 2) (found ++ [p])
noncomputable def tabsB (ks : List Int) (number : Int) : Option Str → List Int → Except (Str × Int) (Option Str)
  | k0, [] => .ok k0
  | none, p :: r => tabsB ks number (some (kindB ks p number)) r
  | some k, p :: r => if kindB ks p number = k then tabsB ks number (some k) r else .error ("a lookup of two kinds", p)
noncomputable def markB (ks : List Int) (a flag : Int) : Except (Str × Int) Int := if Builtin.bitAnd flag 16 = 0 then .ok (-1) else u16 ks a
noncomputable def lookupB (ks : List Int) (a : Int) : Except (Str × Int) (Str × Int × Int × Int × List Int) :=
  andE (u16 ks a) fun number => andE (u16 ks (a + 2)) fun flag => andE (u16 ks (a + 2 + 2)) fun count => if count = 0 then .error ("a lookup without tables", a + 4) else
    andE (plLoop ks a count.toNat (a + 2 + 2 + 2) []) fun ps => andE (markB ks (a + 2 + 2 + 2 + 2 * count) flag) fun ms => andE (tabsB ks number none ps) fun k0 => .ok (k0.getD "", number, flag, ms, ps)
theorem ofS_ok (s : String) : PyData.strOk (Str.ofString s) = true := by
  rw [Str.ofString_eq_toList]
  simp only [PyData.strOk, Array.all_eq_true_iff_forall_mem, List.mem_toArray, decide_eq_true_eq]
  intro x hx
  refine xE1_2 (List.mem_map.mp hx) ?_; intro c _ zq1'; subst zq1'
  have := c.valid
  rcases this with h | ⟨_, h⟩
  · have : c.toNat < 0xd800 := h
    omega
  · exact h
theorem app_ok {a b : Str} (ha : PyData.strOk a = true) (hb : PyData.strOk b = true) : PyData.strOk (a ++ b) = true := by
  show PyData.strOk (a.append b) = true
  unfold PyData.strOk Str.append at *
  simp only [Array.all_eq_true_iff_forall_mem, Array.mem_append] at *
  intro x hx
  exact hx.elim (ha x) (hb x)
theorem kind_ok (ks : List Int) (a n : Int) : PyData.strOk (kindB ks a n) = true := by
  unfold kindB
  split
  · exact ofS_ok _
  · exact app_ok (ofS_ok _) (ofS_ok _)
inductive TabsIn (tl : List (Addr × Obj)) : List Value → List (Int × List Int) → Prop
  | nil : TabsIn tl [] []
  | cons {v : Value} {x : Int × List Int} {vs : List Value} {xs : List (Int × List Int)} : LangIn tl v x.1 x.2 → TabsIn tl vs xs → TabsIn tl (v :: vs) (x :: xs)
theorem TabsIn.mono {tl tl' : List (Addr × Obj)} (hs : ∀ p ∈ tl, p ∈ tl') {vs : List Value} {xs : List (Int × List Int)} (h : TabsIn tl vs xs) : TabsIn tl' vs xs := by
  induction h with
  | nil => exact .nil
  | cons a _ ih => exact .cons (a.mono hs) ih
theorem TabsIn.snoc {tl : List (Addr × Obj)} {v : Value} {x : Int × List Int} (a : LangIn tl v x.1 x.2) {vs : List Value} {xs : List (Int × List Int)} (h : TabsIn tl vs xs) : TabsIn tl (vs ++ [v]) (xs ++ [x]) := by
  induction h with
  | nil => exact .cons a .nil
  | cons b _ ih => exact .cons b ih
theorem TabsIn.length {tl : List (Addr × Obj)} {vs : List Value} {xs : List (Int × List Int)} (h : TabsIn tl vs xs) : vs.length = xs.length := by
  induction h with
  | nil => rfl
  | cons a _ ih => rw [List.length_cons, List.length_cons, ih]
def PlJ (ks : List Int) (a : Int) (c : Nat) (p0 kd ka : Int) (td ta tb : Tok) (b : Array UInt8) (x dx : Addr) (cs : List (Addr × Obj)) (i : Nat) (ys : List Value) (news : List (Addr × Obj)) : Prop :=
  ∃ t' ps, news = (x, instObj 187 dx) :: (dx, srcD kd ka td ta tb t' b (p0 + 2 * (i : Int))) :: cs ∧ IntsAre ys ps ∧ ps.length = i ∧ (∀ p ∈ ps, 0 ≤ p) ∧ plLoop ks a c p0 [] = plLoop ks a (c - i) (p0 + 2 * (i : Int)) ps
theorem pl_next {ks : List Int} {a p0 p : Int} {c i : Nat} {ps : List Int} (hi : i < c) (h : offB ks (p0 + 2 * (i : Int)) a = .ok p) (hl : plLoop ks a c p0 [] = plLoop ks a (c - i) (p0 + 2 * (i : Int)) ps) : plLoop ks a c p0 [] = plLoop ks a (c - (i + 1)) (p0 + 2 * ((i + 1 : Nat) : Int)) (ps ++ [p]) := by
  rw [hl, sub_next hi, mul_next]
  exact andE_ok h
theorem pl_err {ks : List Int} {a p0 : Int} {c i : Nat} {ps : List Int} {e : Str × Int} (hi : i < c) (h : offB ks (p0 + 2 * (i : Int)) a = .error e) (hl : plLoop ks a c p0 [] = plLoop ks a (c - i) (p0 + 2 * (i : Int)) ps) : plLoop ks a c p0 [] = .error e := by
  rw [hl, show c - i = (c - (i + 1)) + 1 by omega]
  exact andE_err h
theorem off_pos {b : Array UInt8} {ks : List Int} {a c p : Int} (hb : KBw.bInts b = ks) (hc : 0 ≤ c) (h : offB ks a c = .ok p) : 0 ≤ p := by
  unfold offB at h
  cases hu : u16 ks a with
  | error e => rw [hu] at h; cases h
  | ok o =>
    rw [hu] at h
    dsimp only at h
    have := u16_lt hb hu
    split at h
    · cases h
    · cases h; omega
structure MarkAt (ks : List Int) (a flag : Int) (led : List (Addr × Obj)) : Prop where
  ok : True
structure MarkMid (g : Heap) (L : Addr) (m : Str → Option Value) (ks : List Int) (a flag : Int) (led : List (Addr × Obj)) (s : Shared) (v : Value) (s' : Shared) : Prop where
  out : ∃ h tk ms t, s' = { s with heap := h, toks := tk } ∧ Fr g L h m ∧ News g L h led ∧ v = .int ms t ∧ markB ks a flag = .ok ms
section
variable {prog : Program} {w : World} {A : Around} {E : Value → Shared → Prop} {s : Shared} {g : Heap} {L a b : Addr} {m : Str → Option Value} {led tl : List (Addr × Obj)} {its r : List Value} {v : Value} {ka kb : Nat} {ds : List Dat} {e : Bool} {Q : Value → Shared → Prop}
theorem ifexp_mark {env : Env} {test body orelse : Expr} {pos : Pos} {ks : List Int} {a flag : Int} (_F : Fr g L s.heap m) (_hu : MarkAt ks a flag led)
    (h1 : wpAny (model prog w) A (isTrue test env (eval test env)) (fun c s₂ => if c then wpAny (model prog w) A (eval body env) (MarkMid g L m ks a flag led s) E s₂ else wpAny (model prog w) A (eval orelse env) (MarkMid g L m ks a flag led s) E s₂) E s)
    (h2 : ∀ h tk ms t, Fr g L h m → News g L h led → markB ks a flag = .ok ms → Q (.int ms t) { s with heap := h, toks := tk }) : wpAny (model prog w) A (eval (.IfExp test body orelse pos) env) Q E s :=
  wpAny_mono (IfExp_ h1) (fun v s' q => by
    refine xE4_5 (q.out) ?_; intro h tk ms t zq2' F N zq3' hB; subst zq2'; subst zq3'
    exact h2 h tk ms t F N hB) fun _ _ e => e
theorem dats_ne (N : News g L s.heap led) (ma : (a, listOf (List.toArray its) ka) ∈ led) (mb : (b, listOf #[] kb) ∈ led) (Da : DatAll tl its ds) (sa : ∀ p ∈ tl, p ∈ led) (ok : ∀ d ∈ ds, kqdOk 8 d = true) (he : ds.isEmpty = e)
    (hu : A.units + 64 < cLine) (h : Q (.bool (!e)) s) : wpAny (model prog w) A (compareOp .NotEq (.ref a) (.ref b)) Q E s := by
  refine kqd_ne (n₂ := []) (ys := []) (es := []) N ma rfl rfl Da sa mb rfl rfl .nil (fun _ hp => nomatch hp) ok (fun _ hd => nomatch hd) hu ?_
  subst he
  cases ds with
  | nil => simpa using h
  | cons r rs => simpa using h
theorem item_head {value slice : PySem.Expr} {l : Addr} {u : Tok} (hl : s.heap.IsList l (List.toArray (v :: r))) (h : Q v s)
    (hs : subscripted slice false (.ref l) (.int 0 u) = operate [.ref l, .int 0 u] (getItem (.ref l) (.int 0 u)) := by with_unfolding_all rfl) :
    wpAny (model prog w) A (subscriptTail value slice (.ref l) (.int 0 u)) Q E s :=
  tail_any hl.typeIs slot_list_getitem.lookup (wpAny_getItem_list (x := v) hl (by decide) (by decide) (by simp) h) hs
end
theorem grow3 {g h₁ h₂ : Heap} {L : Addr} {m : Str → Option Value} {e1 e2 e3 : Addr × Obj} {tl tl2 : List (Addr × Obj)} (M : Made h₁ h₂ tl2) (F : Fr g L h₁ m) (N₁ : News g L h₁ (e1 :: e2 :: e3 :: tl)) (N₂ : News g L h₂ (e1 :: e2 :: e3 :: tl)) (O : OwnOff tl [e1.1, e2.1, e3.1]) :
    ∃ tl9, (∀ p ∈ tl, p ∈ tl9) ∧ (∀ p ∈ tl2, p ∈ tl9) ∧ OwnOff tl9 [e1.1, e2.1, e3.1] ∧ News g L h₂ (e1 :: e2 :: e3 :: tl9) := by
  refine xI1_4 (tl ++ tl2) (fun p hp => List.mem_append_left _ hp) (fun p hp => List.mem_append_right _ hp) (fun p hp q hq => ?_) (M.news F N₂)
  rcases List.mem_append.mp hp with hp | hp
  · exact O p hp q hq
  · refine M.off N₁ p hp q ?_
    simp only [List.mem_cons, List.not_mem_nil, or_false] at hq
    rcases hq with rfl | rfl | rfl <;> simp
theorem made_tup {h h' : Heap} {T : Addr} {a b : Value} {n : Nat} {tl : List (Addr × Obj)} (M : Made h h' ((T, { cls := .type "tuple", data := .seq #[a, b] n }) :: tl)) : IsTup h' T #[a, b] := by exact ⟨_, (M _ (.head _)).1, rfl, n, rfl⟩
theorem nmem2 {C x dx : Addr} {ox od : Obj} (h1 : @Ne Nat C x) (h2 : @Ne Nat C dx) : C ∉ [(x, ox), (dx, od)].map (·.1) := by
  simp only [List.map_cons, List.map_nil, List.mem_cons, List.not_mem_nil, or_false, not_or]
  exact ⟨h1, h2⟩
def KindsAre (kvs : List Value) (i : Nat) : Option Str → Prop
  | none => kvs = [] ∧ i = 0
  | some k => (∃ t r, kvs = .str k t :: r) ∧ kvs.length = i ∧ DatAll [] kvs (List.replicate i (.str k)) ∧ PyData.strOk k = true
theorem KindsAre.first {k : Str} {t : Tok} (h : PyData.strOk k = true) : KindsAre ([] ++ [.str k t]) 1 (some k) := by exact xI0_4 ⟨t, [], rfl⟩ rfl (.cons (.str _ _) .nil) h
theorem KindsAre.snoc {kvs : List Value} {i : Nat} {k k' : Str} {t : Tok} (h : KindsAre kvs i (some k)) (hk : k' = k) : KindsAre (kvs ++ [.str k' t]) (i + 1) (some k) := by
  subst hk
  refine xE0_4 h ?_; (try clear h); intro zq4' hl hd hs; refine xE2_1 zq4' ?_; clear zq4'; intro u r zq5'; subst zq5'
  refine xI0_4 ⟨u, r ++ [.str k' t], rfl⟩ (by rw [List.length_append, hl]; rfl) ?_ hs
  rw [List.replicate_succ']
  exact hd.append (.one (.str _ _))
def TabJ (ks : List Int) (number : Int) (D K Tb : Addr) (ys : List Value) (n : Nat) (ps : List Int) (i : Nat) (led : List (Addr × Obj)) : Prop :=
  ∃ kvs tvs nk nt tl k0, led = (Tb, listOf (List.toArray tvs) nt) :: (K, listOf (List.toArray kvs) nk) :: tl ∧ OwnOff tl [Tb, K] ∧ (D, listOf (List.toArray ys) n) ∈ tl ∧ KindsAre kvs i k0 ∧ TabsIn tl tvs ((ps.take i).map fun p => (p, [number])) ∧ tabsB ks number none ps = tabsB ks number k0 (ps.drop i)
theorem tabJ_mem {ks : List Int} {number : Int} {D K Tb : Addr} {ys : List Value} {n : Nat} {ps : List Int} {i : Nat} {led : List (Addr × Obj)} : TabJ ks number D K Tb ys n ps i led → (D, listOf (List.toArray ys) n) ∈ led := fun h => by
  refine xE6_4 h ?_; (try clear h); intro _ _ _ _ _ _ e _ h _
  exact e ▸ .tail _ (.tail _ h)
noncomputable abbrev lookD (k1 k2 k3 k4 : Int) (t1 t2 t3 t4 t5 t6 t7 : Tok) (kind : Str) (flag ms : Int) (lt : Addr) : Obj := dictOf [⟨k1, .str "kind" t1, .str kind t5⟩, ⟨k2, .str "flag" t2, .int flag t6⟩, ⟨k3, .str "mark_set" t3, .int ms t7⟩, ⟨k4, .str "tables" t4, .ref lt⟩] 4
def LookIn (tl : List (Addr × Obj)) (v : Value) (kind : Str) (flag ms : Int) (ts : List (Int × List Int)) : Prop :=
  ∃ x dx lt tvs n k1 k2 k3 k4 t1 t2 t3 t4 t5 t6 t7, v = .ref x ∧ (x, instObj 85 dx) ∈ tl ∧ (dx, lookD k1 k2 k3 k4 t1 t2 t3 t4 t5 t6 t7 kind flag ms lt) ∈ tl ∧ (lt, listOf (List.toArray tvs) n) ∈ tl ∧ TabsIn tl tvs ts
theorem int_at {ys : List Value} : ∀ {ps : List Int}, IntsAre ys ps → ∀ {i : Nat} {v : Value}, (List.toArray ys)[i]? = some v → ∃ p t, v = .int p t ∧ ps[i]? = some p := by
  intro ps h
  induction h with
  | nil => intro i v hv; simp at hv
  | cons n t r ih =>
    intro i v hv
    cases i with
    | zero => simp only [List.getElem?_toArray, List.getElem?_cons_zero, Option.some.injEq] at hv; subst hv; exact xI2_2 n t rfl rfl
    | succ i =>
      rw [List.getElem?_toArray, List.getElem?_cons_succ, ← List.getElem?_toArray] at hv
      refine xE2_2 (ih hv) ?_; intro p t e hp
      exact xI2_2 p t e hp
theorem drop_at {ps : List Int} {i : Nat} {p : Int} (h : ps[i]? = some p) : ps.drop i = p :: ps.drop (i + 1) := by
  obtain ⟨hi, rfl⟩ := List.getElem?_eq_some_iff.mp h
  exact List.drop_eq_getElem_cons hi
end
section
open PySem.Calls
def Noted (h : Heap) (e T L dx : Addr) (what : Str) (pl : Int) : Prop :=
  ∃ oe vs oT ts, (h.get? e = some oe ∧ oe.cls = .ref 61 ∧ oe.dict = some dx ∧ oe.data = .fields vs ∧ vs[1]? = some (.ref T)) ∧ T ≠ e ∧ h.get? T = some oT ∧ oT.data = .fields ts ∧ ts[3]? = some (rawInt L) ∧ FDict h dx what pl
section
variable {M : Model} {A : Around} {E : Value → Shared → Prop} {s : Shared}
theorem newEntry_N {env : Env} {outer : List Env} {L e dx : Addr} {oe : Obj} {vs : Array Value} {head : Value} {hadNext : Bool} {what : Str} {pl : Int} {Q : Unit → Shared → Prop}
    (hfr : A.frames = some (env :: outer)) (hl : s.heap.FunFrames noHeap (env :: outer)) (hf : env.frame = some L)
    (he : s.heap.get? e = some oe) (hcl : oe.cls = .ref 61) (hdi : oe.dict = some dx) (hd : oe.data = .fields vs) (hsz : 1 < vs.size) (hD : FDict s.heap dx what pl)
    (h : ∀ h' T, Noted h' e T L dx what pl → s.heap.objs.size ≤ T → s.heap.objs.size ≤ h'.objs.size → (∀ b o, s.heap.get? b = some o → b ≠ e → b ∉ frs (env :: outer) → h'.get? b = some o) →
      (∀ b o, s.heap.get? b = some o → b ≠ e → ∃ sl, h'.get? b = some { o with slots := sl }) → Q () { s with heap := h' }) :
    wpAny M A (do let a ← frameOf env; let pl ← entryPlaceOf L hadNext; let b ← EntryCells.newEntry head a .none (rawInt L) .none pl; setField (.ref e) 1 b) Q E s := by
  have hene : e ∉ frs (env :: outer) := fun hm => by
    refine xE1_2 (frs_mem hl hm) ?_; intro o ho hnf
    rw [he] at ho; injection ho with ho; subst ho; exact hnf vs hd
  refine wpAny_bind (wpAny_frameOf_fun hfr hl hf fun h₁ hs₁ => ?_)
  refine wpAny_bind (wpAny_entryPlaceOf fun pl hpl => ?_)
  unfold EntryCells.newEntry newFields
  refine wpAny_bind (wpAny_newObj_type ?_ (hpl.sizeOk5 _ _ _ _ _))
  have he₁ : h₁.get? e = some oe := (hs₁.2.1 e hene).trans he
  have he₂ := Heap.get?_push_of_some (h := h₁) { cls := .type "traceback", dict := none, data := .fields ([head, .ref L, .none, rawInt L, .none] ++ (if pl.isEmpty then List.replicate 6 Value.none else pl)).toArray } he₁
  refine wpAny_setField he₂ hd hsz ?_
  have hTe : h₁.objs.size ≠ e := Nat.ne_of_gt (Heap.lt_size he₁)
  have hd₃ := Obj.data_mapFields hd (·.setIfInBounds 1 (Value.ref h₁.objs.size))
  have he₃ := Heap.get?_update_self (Obj.mapFields (·.setIfInBounds 1 (Value.ref h₁.objs.size))) he₂ (Obj.isFreed_of_fields hd₃)
  have hT₃ := (Heap.get?_update_other (h₁.push { cls := .type "traceback", dict := none, data := .fields ([head, .ref L, .none, rawInt L, .none] ++ (if pl.isEmpty then List.replicate 6 Value.none else pl)).toArray })
    (Obj.mapFields (·.setIfInBounds 1 (Value.ref h₁.objs.size))) (Ne.symm hTe)).trans (Heap.get?_push_size h₁ rfl)
  have keep : ∀ b o, b ≠ e → h₁.get? b = some o →
      ((h₁.push { cls := .type "traceback", dict := none, data := .fields ([head, .ref L, .none, rawInt L, .none] ++ (if pl.isEmpty then List.replicate 6 Value.none else pl)).toArray }).update e (Obj.mapFields (·.setIfInBounds 1 (Value.ref h₁.objs.size)))).get? b = some o := fun b o hbe hb => by
    rw [Heap.get?_update_other _ _ (Ne.symm hbe)]
    exact Heap.get?_push_of_some _ hb
  have hdxe : dx ≠ e := hD.ne he hd
  refine h _ h₁.objs.size ⟨_, _, _, _, ⟨he₃, ?_, ?_, hd₃, by simp [hsz]⟩, hTe, hT₃, rfl, by simp, hD.move fun o ho => ?_⟩ (Nat.le_of_eq hs₁.1.symm) ?_ (fun b o hb hbe hbf => keep b o hbe ((hs₁.2.1 b hbf).trans hb)) (fun b o hb hbe => ?_)
  · rw [Obj.cls_mapFields]; exact hcl
  · (refine (let gk : Prop := _; (?_ : gk)); obtain ⟨a1, a2, a3, a4⟩ := oe <;> k_unfold)
    dsimp only at hd hdi
    subst hd hdi
    rfl
  · refine xE1_1 (hs₁.2.2 dx o ho) ?_; intro sl hs
    exact ⟨sl, keep dx _ hdxe hs⟩
  · rw [Heap.size_after_update, Heap.size_push, hs₁.1]; exact Nat.le_succ _
  · refine xE1_1 (hs₁.2.2 b o hb) ?_; intro sl hs
    exact ⟨sl, keep b _ hbe hs⟩
theorem note_N {env : Env} {outer : List Env} {L e T dx : Addr} {what : Str} {pl : Int} {Q : Unit → Shared → Prop}
    (hfr : A.frames = some (env :: outer)) (hl : s.heap.FunFrames noHeap (env :: outer)) (hf : env.frame = some L) (hF : Fault s.heap e T dx what pl)
    (h : ∀ h' T', Noted h' e T' L dx what pl → s.heap.objs.size ≤ T' → s.heap.objs.size ≤ h'.objs.size → (∀ b o, s.heap.get? b = some o → b ≠ e → b ≠ T → b ∉ frs (env :: outer) → h'.get? b = some o) →
      (∀ b o, s.heap.get? b = some o → b ≠ e → b ≠ T → ∃ sl, h'.get? b = some { o with slots := sl }) → Q () { s with heap := h' }) :
    wpAny M A (noteFrame (.ref e) env) Q E s := by
  refine xE3_3 hF ?_; (try clear hF); intro oe vs tb zq1' ht hD; refine xE0_5 zq1' ?_; clear zq1'; intro he hcl hdi hd h1
  have hsz : 1 < vs.size := (Array.getElem?_eq_some_iff.mp h1).1
  unfold noteFrame
  simp only [hf]
  refine wpAny_bind (wpAny_field he hd h1 ?_)
  (refine (let gk : Prop := _; (?_ : gk)); rcases ht with rfl | ⟨rfl, hTe, oT, ts, hT, hdT, h3⟩ <;> k_unfold)
  · rw [if_neg (by decide)]
    exact newEntry_N hfr hl hf he hcl hdi hd hsz hD fun h' T' a b b' c d => h h' T' a b b' (fun x o q1 q2 _ => c x o q1 q2) fun x o q1 q2 _ => d x o q1 q2
  · rw [if_pos (show (Value.ref T != Value.none) = true from by simp)]
    refine wpAny_bind (wpAny_field hT hdT h3 ?_)
    rw [if_neg (show ¬ ((Value.none == rawInt L) = true) from by simp [rawInt])]
    refine wpAny_bind (wpAny_setField hT hdT (Array.getElem?_eq_some_iff.mp h3).1 ?_)
    have other : ∀ b, b ≠ T → (s.heap.update T (Obj.mapFields (·.setIfInBounds 3 Value.none))).get? b = s.heap.get? b := fun b hb => Heap.get?_update_other _ _ (Ne.symm hb)
    have noRecord : ∀ b o, s.heap.get? b = some o → (∀ vs, o.data ≠ .fields vs) → b ≠ T := fun b o hb hnf q => by
      rw [q, hT] at hb; injection hb with hb; subst hb; exact hnf ts hdT
    refine newEntry_N hfr (hl.of_keeps fun b o hb hnf => ⟨o, (other b (noRecord b o hb hnf)).trans hb, rfl⟩) hf ((other e (Ne.symm hTe)).trans he) hcl hdi hd hsz
      (hD.move fun o ho => ⟨o.slots, (other dx (hD.ne hT hdT)).trans ho⟩) fun h' T' a b b' c d => ?_
    have sz : (s.heap.update T (Obj.mapFields (·.setIfInBounds 3 Value.none))).objs.size = s.heap.objs.size := Heap.size_after_update _ _ _
    exact h h' T' a (sz ▸ b) (sz ▸ b') (fun x o q1 q2 q3 q4 => c x o ((other x q3).trans q1) q2 q4) fun x o q1 q2 q3 => d x o ((other x q3).trans q1) q2
theorem Noted.move {h h' : Heap} {e T L dx : Addr} {what : Str} {pl : Int} (n : Noted h e T L dx what pl) (k : ∀ b o, h.get? b = some o → b = e ∨ b = T ∨ b = dx → h'.get? b = some o) : Noted h' e T L dx what pl := by
  refine xE4_6 n ?_; (try clear n); intro oe vs oT ts zq2' b c1 c2 c3 f; refine xE0_5 zq2' ?_; clear zq2'; intro a1 a2 a3 a4 a5
  exact xI4_6 oe vs oT ts ⟨k _ _ a1 (.inl rfl), a2, a3, a4, a5⟩ b (k _ _ c1 (.inr (.inl rfl))) c2 c3 (f.move fun o ho => ⟨o.slots, k _ _ ho (.inr (.inr rfl))⟩)
theorem flight_N {L e T dx : Addr} {what : Str} {pl : Int} {f : Option Addr} {Q : Unit → Shared → Prop} (n : Noted s.heap e T L dx what pl)
    (h : ∀ h', (∀ b o, s.heap.get? b = some o → b ≠ T → h'.get? b = some o) → h'.objs.size = s.heap.objs.size → (∃ oe vs oT ts, (h'.get? e = some oe ∧ oe.cls = .ref 61 ∧ oe.dict = some dx ∧ oe.data = .fields vs ∧ vs[1]? = some (.ref T)) ∧ T ≠ e ∧ h'.get? T = some oT ∧ oT.data = .fields ts ∧ ts[3]? = some (f.elim .none fun x => rawInt x)) → FDict h' dx what pl → Q () { s with heap := h' }) :
    wpAny M A (setFlight (.ref e) f) Q E s := by
  refine xE4_6 n ?_; (try clear n); intro oe vs oT ts zq3' b c1 c2 c3 fd; refine xE0_5 zq3' ?_; clear zq3'; intro a1 a2 a3 a4 a5
  unfold setFlight
  refine wpAny_bind (wpAny_field a1 a4 a5 ?_)
  rw [if_pos (show (Value.ref T != Value.none) = true from by simp)]
  have h3 : 3 < ts.size := (Array.getElem?_eq_some_iff.mp c3).1
  refine wpAny_setField c1 c2 h3 ?_
  have other : ∀ b, b ≠ T → (s.heap.update T (Obj.mapFields (·.setIfInBounds 3 (f.elim Value.none fun x => rawInt x)))).get? b = s.heap.get? b := fun b hb => Heap.get?_update_other _ _ (Ne.symm hb)
  have hd' := Obj.data_mapFields c2 (·.setIfInBounds 3 (f.elim Value.none fun x => rawInt x))
  refine h _ (fun b o hb hbT => (other b hbT).trans hb) (Heap.size_after_update _ _ _) ⟨oe, vs, _, _, ⟨(other e (Ne.symm b)).trans a1, a2, a3, a4, a5⟩, b, Heap.get?_update_self _ c1 (Obj.isFreed_of_fields hd'), hd', by simp [h3]⟩ (fd.move fun o ho => ⟨o.slots, (other dx (fd.ne c1 c2)).trans ho⟩)
def Held (h : Heap) (e T dx : Addr) (what : Str) (pl : Int) : Prop :=
  ∃ oe vs oT ts y, (h.get? e = some oe ∧ oe.cls = .ref 61 ∧ oe.dict = some dx ∧ oe.data = .fields vs ∧ vs[1]? = some (.ref T)) ∧ T ≠ e ∧ h.get? T = some oT ∧ oT.data = .fields ts ∧ ts[3]? = some y ∧ FDict h dx what pl
theorem leaving_H {env : Env} {outer : List Env} {L e T dx : Addr} {what : Str} {pl : Int} {Q : Unit → Shared → Prop}
    (hfr : A.frames = some (env :: outer)) (hl : s.heap.FunFrames noHeap (env :: outer)) (hf : env.frame = some L) (hF : Held s.heap e T dx what pl)
    (h : ∀ h' T', Fault h' e T' dx what pl → (T' = T ∨ s.heap.objs.size ≤ T') → s.heap.objs.size ≤ h'.objs.size → (∀ b o, s.heap.get? b = some o → b ≠ e → b ≠ T → b ∉ frs (env :: outer) → h'.get? b = some o) →
      (∀ b o, s.heap.get? b = some o → b ≠ e → b ≠ T → ∃ sl, h'.get? b = some { o with slots := sl }) → Q () { s with heap := h' }) :
    wpAny M A (leaving env (.ref e)) Q E s := by
  refine xE5_6 hF ?_; (try clear hF); intro oe vs oT ts y zq4' hTe hT hdT h3 hD; refine xE0_5 zq4' ?_; clear zq4'; intro he hcl hdi hd h1
  have hsz : 1 < vs.size := (Array.getElem?_eq_some_iff.mp h1).1
  have h3' : 3 < ts.size := (Array.getElem?_eq_some_iff.mp h3).1
  unfold leaving noteFrame
  simp only [hf]
  refine wpAny_bind (wpAny_bind (wpAny_field he hd h1 ?_))
  rw [if_pos (show (Value.ref T != Value.none) = true from by simp)]
  refine wpAny_bind (wpAny_field hT hdT h3 ?_)
  have other : ∀ b, b ≠ T → (s.heap.update T (Obj.mapFields (·.setIfInBounds 3 Value.none))).get? b = s.heap.get? b := fun b hb => Heap.get?_update_other _ _ (Ne.symm hb)
  have hd' := Obj.data_mapFields hdT (·.setIfInBounds 3 Value.none)
  have sz : (s.heap.update T (Obj.mapFields (·.setIfInBounds 3 Value.none))).objs.size = s.heap.objs.size := Heap.size_after_update _ _ _
  have hD' : FDict (s.heap.update T (Obj.mapFields (·.setIfInBounds 3 Value.none))) dx what pl := hD.move fun o ho => ⟨o.slots, (other dx (hD.ne hT hdT)).trans ho⟩
  by_cases hy : (y == rawInt L) = true
  · rw [if_pos hy]
    refine wpAny_pure ?_
    unfold setFlight
    refine wpAny_bind (wpAny_field he hd h1 ?_)
    rw [if_pos (show (Value.ref T != Value.none) = true from by simp)]
    refine wpAny_setField hT hdT h3' ?_
    exact h _ T ⟨oe, vs, _, ⟨(other e (Ne.symm hTe)).trans he, hcl, hdi, hd, h1⟩, .inr ⟨rfl, hTe, _, _, Heap.get?_update_self _ hT (Obj.isFreed_of_fields hd'), hd', by simp [h3']⟩, hD'⟩ (.inl rfl) (Nat.le_of_eq sz.symm)
      (fun b o hb _ hbT _ => (other b hbT).trans hb) (fun b o hb _ hbT => ⟨o.slots, (other b hbT).trans hb⟩)
  · rw [if_neg hy]
    refine wpAny_bind (wpAny_setField hT hdT h3' ?_)
    have noRecord : ∀ b o, s.heap.get? b = some o → (∀ vs, o.data ≠ .fields vs) → b ≠ T := fun b o hb hnf q => by
      rw [q, hT] at hb; injection hb with hb; subst hb; exact hnf ts hdT
    refine newEntry_D hfr (hl.of_keeps fun b o hb hnf => ⟨o, (other b (noRecord b o hb hnf)).trans hb, rfl⟩) hf ((other e (Ne.symm hTe)).trans he) hcl hdi hd hsz hD' fun h' T' a b b' c d => ?_
    exact h h' T' a (.inr (sz ▸ b)) (sz ▸ b') (fun x o q1 q2 q3 q4 => c x o ((other x q3).trans q1) q2 q4) fun x o q1 q2 q3 => d x o ((other x q3).trans q1) q2
theorem passOn_H {env : Env} {L e T dx : Addr} {what : Str} {pl : Int} {str : String} {Q : Value → Shared → Prop} (n : Noted s.heap e T L dx what pl)
    (h : ∀ h', Held h' e T dx what pl → (∀ b o, s.heap.get? b = some o → b ≠ T → h'.get? b = some o) → h'.objs.size = s.heap.objs.size → E (.ref e) { s with heap := h' }) : wpAny M A (PySem.passOn str (.ref e) env : Sem Value) Q E s := by
  have n' := n
  refine xE4_6 n ?_; (try clear n); intro oe vs oT ts zq5' b c1 c2 c3 fd; refine xE0_5 zq5' ?_; clear zq5'; intro a1 a2 a3 a4 a5
  unfold PySem.passOn
  refine wpAny_bind (wpAny_field a1 a4 a5 ?_)
  rw [if_neg (by simp)]
  refine wpAny_bind (flight_N n' fun h' k1 k2 k3 k4 => ?_)
  refine xE4_5 k3 ?_; (try clear k3); intro oe vs oT ts x b c1 c2 c3
  exact wpAny_throw (h h' ⟨oe, vs, oT, ts, _, x, b, c1, c2, c3, k4⟩ k1 k2)
end
def ThrownH (l : List Env) (fp : List Addr) (h h' : Heap) (e : Addr) (what : Str) (pl : Int) : Prop :=
  (∀ b o, h.get? b = some o → b ∉ fp → b ∉ frs l → h'.get? b = some o) ∧
  (∀ b o, h.get? b = some o → b ∉ fp → ∃ sl, h'.get? b = some { o with slots := sl }) ∧
  h.objs.size ≤ h'.objs.size ∧
  ∃ T dx, Held h' e T dx what pl ∧ h.objs.size ≤ e ∧ h.objs.size ≤ T
theorem ThrownH.leave {M : Model} {A : Around} {E : Value → Shared → Prop} {s : Shared} {l : List Env} {env : Env} {hc g h₁ : Heap} {fp fp' : List Addr} {L e : Addr} {m : Str → Option Value} {what : Str} {pl : Int} {Q : Unit → Shared → Prop}
    (hA : A.frames = some (env :: l)) (hf : env.frame = some L) (hke : env.scope.kind = .function) (hgf : g.FunFrames noHeap l) (hg : ∀ b o, hc.get? b = some o → b ∉ fp → g.get? b = some o) (hL : hc.objs.size ≤ L)
    (F : Fr g L h₁ m) (hfp : ∀ b ∈ fp', g.get? b = none ∧ b ≠ L) (Th : ThrownH (env :: l) fp' h₁ s.heap e what pl)
    (h : ∀ h', Thrown l fp hc h' e what pl → Q () { s with heap := h' }) : wpAny M A (leaving env (.ref e)) Q E s := by
  refine xE0_4 Th ?_; (try clear Th); intro k1 k2 k3 zq6'; refine xE2_3 zq6' ?_; clear zq6'; intro T dx hF n1 n2
  have hLs : @LT.lt Nat _ L h₁.objs.size := F.ns.lt
  have hL : @LE.le Nat _ hc.objs.size L := hL
  have n1 : @LE.le Nat _ h₁.objs.size e := n1
  have n2 : @LE.le Nat _ h₁.objs.size T := n2
  have hgk : ∀ b o, g.get? b = some o → b ∉ fp' := fun b o q hb => by rw [(hfp b hb).1] at q; cases q
  have hb₁ : ∀ b o, hc.get? b = some o → b ∉ fp → h₁.get? b = some o := fun b o q hb => F.keep b o (hg b o q hb)
  have fr2 : s.heap.FunFrames noHeap (env :: l) := by
    refine xE3_3 (F.ns) ?_; intro oL es ep hoL hd _
    refine xE1_1 (k2 L oL hoL fun hb => (hfp L hb).2 rfl) ?_; intro sl hs
    refine xI0_3 (by rw [hke]; decide) ⟨L, _, hf, rfl, hs, fun vs q => by dsimp only at q; rw [hd] at q; cases q⟩ (hgf.of_keeps fun b o q _ => ?_)
    refine xE1_1 (k2 b o (F.keep b o q) (hgk b o q)) ?_; intro sl hs
    exact xI1_2 _ hs rfl
  refine leaving_H hA fr2 hf hF fun h' T' hF' nT hsz c d => ?_
  have nT : @LE.le Nat _ h₁.objs.size T' := by
    (refine (let gk : Prop := _; (?_ : gk)); rcases nT with rfl | nT <;> k_unfold)
    · exact n2
    · have : @LE.le Nat _ s.heap.objs.size T' := nT
      omega
  refine h h' ⟨fun b o q hb hbl => ?_, fun b o q hb => ?_, by omega, T', dx, hF', (by omega : @LE.le Nat _ hc.objs.size e), (by omega : @LE.le Nat _ hc.objs.size T')⟩
  · have hlt : @LT.lt Nat _ b hc.objs.size := Heap.lt_size q
    have q1 := hb₁ b o q hb
    have hbL : b ∉ frs (env :: l) := by
      intro hm
      unfold frs at hm hbl
      rw [List.filterMap_cons, hf] at hm
      (refine (let gk : Prop := _; (?_ : gk)); rcases List.mem_cons.mp hm with rfl | hm <;> k_unfold)
      · omega
      · exact hbl hm
    exact c b o (k1 b o q1 (hgk b o (hg b o q hb)) hbL) (neN (by omega)) (neN (by omega)) hbL
  · have hlt : @LT.lt Nat _ b hc.objs.size := Heap.lt_size q
    refine xE1_1 (k2 b o (hb₁ b o q hb) (hgk b o (hg b o q hb))) ?_; intro sl hs
    refine xE1_1 (d b _ hs (neN (by omega)) (neN (by omega))) ?_; intro sl2 hs2
    exact ⟨sl2, hs2⟩
end
section
open PySem.Calls
section
variable {prog : Program} {w : World} {A A₀ : Around} {E : Value → Shared → Prop} {s : Shared} {g : Heap} {L : Addr} {m : Str → Option Value} {env : Env} {elt iter : Expr} {x : Str} {px : Pos} {scope : Scope} {cl : List (Str × Addr)} {pos : Pos} {l : List Env} {R : Str → Int → Prop}
open LCg
def EndsH (l : List Env) (env : Env) (g : Heap) (L : Addr) (s : Shared) (R : Str → Int → Prop) (EB : Value → Shared → Prop) : Prop :=
  ∀ e h₁ h' tk' m fp' what pl, Fr g L h₁ m → (∀ b ∈ fp', g.get? b = none ∧ b ≠ L) → ThrownH (env :: l) fp' h₁ h' e what pl → R what pl → EB (.ref e) { s with heap := h', toks := tk' }
def EltE (l : List Env) (env : Env) (g : Heap) (L : Addr) (m : Str → Option Value) (C : Addr) (oC : Obj) (s : Shared) (R : Str → Int → Prop) (E' : Value → Shared → Prop) : Prop :=
  ∀ e h₁ h' tk' what pl fp', Fr g L h₁ m → h₁.get? C = some oC → C ∉ fp' → (∀ b ∈ fp', g.get? b = none ∧ b ≠ L) → Thrown (env :: l) fp' h₁ h' e what pl → R what pl → E' (.ref e) { s with heap := h', toks := tk' }
def RSrc (prog : Program) (w : World) (A : Around) (E : Value → Shared → Prop) (env : Env) (elt iter : Expr) (x : Str) (px : Pos) (scope : Scope) (cl : List (Str × Addr)) (pos : Pos) (use : Option (Value → Sem Unit)) (Q : Value → Shared → Prop) (xv : Value) (s₁ : Shared) : Prop :=
  wpAny (model prog w) A (pyIter xv) (fun it s₂ => wpAny (model prog w) A (newList []) (fun acc s₃ => wpAny (model prog w) A (newFunctionEnv scope env.globals cl [] env.qual none .none (some env)) (fun cenv s₄ =>
    codeAny (model prog w) A (.compStart (.ListComp elt [⟨.Name x px, iter, [], 0⟩] scope pos) 0 it acc { cenv with scope := relabel scope env }) (compPost (model prog w) A E use Q acc cenv.locals) s₄) E s₃) E s₂) E s₁
theorem comp_raises {Q : Value → Shared → Prop} (_F₀ : Fr g L s.heap m)
    (hclos : closureFor scope env = pure cl) (hkind : scope.kind = .function) (hnames : ∀ y ∈ scope.names, y.2 = .local → scope.names.lookup y.1 = some .local)
    (h : wpAny (model prog w) A (eval iter env) (fun xv s₁ => Side (RSrc prog w A E env elt iter x px scope cl pos none Q xv s₁)) E s)
    (hs : ∀ x, foldedSetIterable iter env x = pure x := by intro _; rfl) :
    wpAny (model prog w) A (eval (.ListComp elt [⟨.Name x px, iter, [], 0⟩] scope pos) env) Q E s := by
  rw [eval_ListComp]
  exact wpAny_comprehension_free (use := none) rfl hs hclos hkind hnames (wpAny_mono h (fun xv s₁ h₁ => h₁.out) fun _ _ e => e)
theorem assign_raises {y : Str} {py spos : Pos} {Q : Flow → Shared → Prop} (_F₀ : Fr g L s.heap m)
    (hsw : swapsWith (.ListComp elt [⟨.Name x px, iter, [], 0⟩] scope pos) (some (.Name y py)) spos.line env = pure true)
    (hclos : closureFor scope env = pure cl) (hkind : scope.kind = .function) (hnames : ∀ y ∈ scope.names, y.2 = .local → scope.names.lookup y.1 = some .local)
    (h : wpAny (model prog w) A (eval iter env) (fun xv s₁ => Side (RSrc prog w A E env elt iter x px scope cl pos (some (assign (.Name y py) env)) (fun _ s' => Q .next s') xv s₁)) E s)
    (hs : ∀ x, foldedSetIterable iter env x = pure x := by intro _; rfl) :
    wpAny (model prog w) A (exec (.Assign [.Name y py] (.ListComp elt [⟨.Name x px, iter, [], 0⟩] scope pos) spos) env) Q E s := by
  rw [exec_Assign_Name_used _ _ _ _ hsw]
  refine wpAny_bind (wpAny_standAt (wpAny_bind ?_))
  show wpAny _ A (do let _ ← comprehension (.ListComp elt [⟨.Name x px, iter, [], 0⟩] scope pos) scope env _ (newList []) false (eval iter env) (some (assign (.Name y py) env))) _ _ s
  exact wpAny_bind (wpAny_mono (wpAny_comprehension_free (use := some (assign (.Name y py) env)) (Q := fun _ s' => Q .next s') rfl hs hclos hkind hnames
    (wpAny_mono h (fun xv s₁ h₁ => h₁.out) fun _ _ e => e)) (fun _ s' hq => wpAny_pure (wpAny_pure hq)) fun _ _ e => e)
theorem ns_has {es : List DictEntry} {name : Str} {v : Value} (h : getL name es = some (some v)) : nsFind (List.toArray es) name ≠ none := by
  unfold getL at h
  unfold nsFind findBy
  rw [List.find?_toArray]
  cases e : es.find? (fun x => x.key.isStr name) with
  | none => rw [e] at h; dsimp only at h; split at h <;> cases h
  | some y => simp
theorem FDict.off {h : Heap} {dx C : Addr} {what : Str} {pl : Int} {oC : Obj} {mC : Str → Option Value} (fd : FDict h dx what pl) (hC : h.get? C = some oC) (n : NsObj oC mC) (hw : mC "what" = none) : dx ≠ C := by
  rintro rfl
  refine xE5_4 fd ?_; (try clear fd); intro od es k t1 t2 a b c _
  rw [hC] at a
  cases a
  refine xE2_3 n ?_; (try clear n); intro es' ep hd _ hf
  rw [hd] at b
  cases b
  exact ns_has c ((hf _).trans hw)
theorem elt_noted {C D : Addr} {oC : Obj} {mC : Str → Option Value} {use : Option (Value → Sem Unit)} {Q : Value → Shared → Prop} {s₀ : Shared} (B : Below A₀ noHeap l g) (hA : A.frames = some (env :: l)) (hf : env.frame = some L) (hke : env.scope.kind = .function)
    (hH : EndsH l env g L s₀ R E) (hC : NsObj oC mC) (hw : mC "what" = none) (hC₀ : g.get? C = none) (hCL : C ≠ L) :
    EltE l env g L m C oC s₀ R (notedBy (model prog w) A (compEnvC scope cl C env) fun e s' => compPost (model prog w) A E use Q (.ref D) C (.error e) s') := by
  intro e h₁ h' tk' what pl fp' F hCo hCf hfp Th hR
  refine xE0_4 Th ?_; (try clear Th); intro k1 k2 k3 zq1'; refine xE2_3 zq1' ?_; clear zq1'; intro T dx hF n1 n2
  have hLs : @LT.lt Nat _ L h₁.objs.size := F.ns.lt
  have hCs : @LT.lt Nat _ C h₁.objs.size := Heap.lt_size hCo
  have n1 : @LE.le Nat _ h₁.objs.size e := n1
  have n2 : @LE.le Nat _ h₁.objs.size T := n2
  have k3 : @LE.le Nat _ h₁.objs.size h'.objs.size := k3
  have hgk : ∀ b o, g.get? b = some o → b ∉ fp' := fun b o q hb => by rw [(hfp b hb).1] at q; cases q
  have fr2 : h'.FunFrames noHeap (env :: l) := by
    refine xE3_3 (F.ns) ?_; intro oL es ep hoL hd _
    refine xE1_1 (k2 L oL hoL fun hb => (hfp L hb).2 rfl) ?_; intro sl hs
    refine xI0_3 (by rw [hke]; decide) ⟨L, _, hf, rfl, hs, fun vs q => by dsimp only at q; rw [hd] at q; cases q⟩ (B.frames.of_keeps fun b o q _ => ?_)
    refine xE1_1 (k2 b o (F.keep b o q) (hgk b o q)) ?_; intro sl hs
    exact xI1_2 _ hs rfl
  have hCfr : C ∉ frs (env :: l) := fun hm => by
    unfold frs at hm
    rw [List.filterMap_cons, hf] at hm
    rcases List.mem_cons.mp hm with e | hm
    · exact hCL e
    · refine xE1_2 (frs_mem B.frames hm) ?_; intro o ho _
      rw [hC₀] at ho; cases ho
  have hC' : h'.get? C = some oC := k1 C oC hCo hCf hCfr
  unfold notedBy
  show wpAny (model prog w) A (noteFrame (.ref e) env) _ _ _
  refine note_N (s := { s₀ with heap := h', toks := tk' }) hA fr2 hf hF fun h₂ T' hN nT hsz c d => ?_
  have nT : @LE.le Nat _ h'.objs.size T' := nT
  have hCe : C ≠ e := neN (by omega)
  have hCT : C ≠ T := neN (by omega)
  have hCT' : C ≠ T' := neN (by omega)
  have hC₂ : h₂.get? C = some oC := c C oC hC' hCe hCT hCfr
  have go : ∃ m, h₂.Ns C m ∧ ∀ h₃, Heap.SameBut C h₂ h₃ → ∀ cenv : Env, cenv.locals = C → wpAny (model prog w) A (PySem.passOn "comprehension.variables-let-go" (.ref e) cenv : Sem Value) (fun _ _ => False) E { s₀ with heap := h₃, toks := tk' } := ?_
  · cases use <;> exact go
  refine xI1_2 mC (hC.ns hC₂) (fun h₃ hs₃ cenv _ => ?_)
  obtain ⟨hT'e, hfd⟩ : T' ≠ e ∧ FDict h₂ dx what pl := by
    refine xE4_6 hN ?_; (try clear hN); intro _ _ _ _ _ q _ _ _ fd
    exact ⟨q, fd⟩
  have hdC : dx ≠ C := hfd.off hC₂ hC hw
  have hN₃ : Noted h₃ e T' L dx what pl := hN.move fun b o hb hbb => by
    refine hs₃.extBut b o ?_ hb
    rcases hbb with rfl | rfl | rfl
    · exact Ne.symm hCe
    · exact Ne.symm hCT'
    · exact hdC
  refine passOn_H hN₃ fun h₄ hH₄ k₄ z₄ => ?_
  have z₃ : h₃.objs.size = h₂.objs.size := hs₃.1
  have hsz : @LE.le Nat _ h'.objs.size h₂.objs.size := hsz
  have z₃' : @Eq Nat h₃.objs.size h₂.objs.size := z₃
  have z₄' : @Eq Nat h₄.objs.size h₃.objs.size := z₄
  refine hH e h₁ h₄ tk' m (C :: fp') what pl F (fun b hb => ?_) ⟨fun b o q hb hbl => ?_, fun b o q hb => ?_, (by omega : @LE.le Nat _ _ _), T', dx, hH₄, n1, (by omega : @LE.le Nat _ _ _)⟩ hR
  · rcases List.mem_cons.mp hb with rfl | hb
    · exact ⟨hC₀, hCL⟩
    · exact hfp b hb
  · have hlt : @LT.lt Nat _ b h₁.objs.size := Heap.lt_size q
    have hbC : b ≠ C := fun e' => hb (e' ▸ .head _)
    exact k₄ b o (hs₃.extBut b o hbC (c b o (k1 b o q (fun hm => hb (.tail _ hm)) hbl) (neN (by omega)) (neN (by omega)) hbl)) (neN (by omega))
  · have hlt : @LT.lt Nat _ b h₁.objs.size := Heap.lt_size q
    have hbC : b ≠ C := fun e' => hb (e' ▸ .head _)
    refine xE1_1 (k2 b o q (fun hm => hb (.tail _ hm))) ?_; intro sl q1
    refine xE1_1 (d b _ q1 (neN (by omega)) (neN (by omega))) ?_; intro sl2 q2
    exact ⟨sl2, k₄ b _ (hs₃.extBut b _ hbC q2) (neN (by omega))⟩
theorem block_R {use : Option (Value → Sem Unit)} {r : Addr} {n : Nat} {t u v : Tok} {led : List (Addr × Obj)} {Q : Value → Shared → Prop} (J : Nat → List Value → List (Addr × Obj) → Prop) (B : Below A₀ noHeap l g) (hA : A.frames = some (env :: l)) (hf : env.frame = some L) (hke : env.scope.kind = .function) (hh : A.handled = none)
    (hH : EndsH l env g L s R E) (hcell : ∀ y ∈ scope.names, y.2 ≠ .cell) (hkind : scope.kind = .function) (hx : scope.names.lookup x = some .local) (hxw : x ≠ "what")
    (hr : IsRange s.heap r 0 (n : Int) 1 t u v) (hsm : Builtin.Range.small 0 (n : Int) 1 = true) (hsz : n ≤ sizeLine) (F : Fr g L s.heap m) (N : News g L s.heap led) (hJ : J 0 [] led)
    (turn : ∀ i ys news I oI C oC D m₂ h tk (E' : Value → Shared → Prop), i < n → J i ys news → NsObj oC m₂ → (∃ t, m₂ x = some (.int (i : Int) t)) → Fr g L h m → News g L h ((I, oI) :: (C, oC) :: (D, lst ys) :: news) → Off3 I C D news → ((@Ne Nat I C) ∧ (@Ne Nat I D) ∧ (@Ne Nat C D)) → EltE l env g L m C oC s R E' →
      wpAny (model prog w) A (eval elt (compEnvC scope cl C env)) (CompEnd g L m { s with heap := h, toks := tk } I oI C oC D (lst ys) (fun _ => True) (fun y news' => J (i + 1) (ys ++ [y]) news')) E' { s with heap := h, toks := tk })
    (fin : ∀ D C h tk m' ys news', Fr g L h m → News g L h ((D, lst ys) :: news') → Off1 D news' → h.Ns C m' → g.get? C = none → C ≠ L → C ≠ D → (∀ p ∈ news', p.1 ≠ C) → J n ys news' → compPost (model prog w) A E use Q (.ref D) C (.ok .next) { s with heap := h, toks := tk }) :
    RSrc prog w A E env elt iter x px scope cl pos use Q (.ref r) s := by
  unfold RSrc
  refine wpAny_pyIter_range hr hsm ?_
  rw [rangeSize_nat]
  have W := LCg.range_walks (prog := prog) (w := w) (A := A) (I := s.heap.objs.size) hh 0 n
  have up : ∀ o' b o, s.heap.get? b = some o → (s.heap.push o').get? b = some o := fun o' b o e => Heap.get?_push_of_some _ e
  have hI₀ : g.get? s.heap.objs.size = none := fresh_top F
  have hIL : L ≠ s.heap.objs.size := Nat.ne_of_lt F.ns.lt
  have offI : ∀ p ∈ led, p.1 ≠ s.heap.objs.size := fun p hp => Nat.ne_of_lt (Heap.lt_size (N p hp).1)
  refine wpAny_newObj_type (wpAny_newFunctionEnv hcell (by intro y hy; simp at hy) (fun h₁ hns₁ hsb₁ => ?_) hkind)
  dsimp only at hns₁ hsb₁ ⊢
  generalize hH1 : s.heap.push { cls := .type "range_iterator", data := .fields #[rawInt 0, rawInt ((((n : Int) - 0).toNat : Nat) : Int), rawInt 1] } = H1 at hns₁ hsb₁ ⊢
  have hDz : @Eq Nat H1.objs.size (s.heap.objs.size + 1) := by rw [← hH1, Heap.size_push]
  have hI1 : H1.get? s.heap.objs.size = some { cls := .type "range_iterator", data := .fields #[rawInt 0, rawInt ((((n : Int) - 0).toNat : Nat) : Int), rawInt 1] } := hH1 ▸ Heap.get?_push_size _ rfl
  have old1 : ∀ b o, s.heap.get? b = some o → H1.get? b = some o := fun b o e => hH1 ▸ up _ b o e
  generalize hH2 : H1.push { cls := .type "list", data := .seq #[] } = H2 at hns₁ hsb₁ ⊢
  have hCz : @Eq Nat H2.objs.size (H1.objs.size + 1) := by rw [← hH2, Heap.size_push]
  generalize hIe : s.heap.objs.size = I at *
  generalize hDe : H1.objs.size = D at *
  generalize hCe : H2.objs.size = C at *
  have hDz : @Eq Nat D (I + 1) := hDz
  have hCz : @Eq Nat C (D + 1) := hCz
  have hIC : @Ne Nat I C := by omega
  have hID : @Ne Nat I D := by omega
  have hCD : @Ne Nat C D := by omega
  have hCD' : C ≠ D := hCD
  have sub : ∀ b o, H2.get? b = some o → b ≠ C → h₁.get? b = some o := fun b o e hb => hsb₁.extBut b o hb (Heap.get?_push_of_some _ e)
  have hI₁ : h₁.get? I = some { cls := .type "range_iterator", data := .fields #[rawInt 0, rawInt ((((n : Int) - 0).toNat : Nat) : Int), rawInt 1] } := sub _ _ (hH2 ▸ Heap.get?_push_of_some _ hI1) hIC
  have hD₁ : h₁.get? D = some (lst []) := sub _ _ (hH2 ▸ hDe ▸ Heap.get?_push_size _ rfl) (Ne.symm hCD')
  have lts : ∀ b o, s.heap.get? b = some o → @LT.lt Nat _ b I := fun b o e => hIe ▸ Heap.lt_size e
  have old : ∀ b o, s.heap.get? b = some o → h₁.get? b = some o := fun b o e => sub _ _ (hH2 ▸ Heap.get?_push_of_some _ (old1 b o e)) (neN (by have := lts b o e; omega))
  have fresh₀ : ∀ a, @LE.le Nat _ I a → g.get? a = none := fun a ha => by
    cases e : g.get? a with
    | none => rfl
    | some o' => have := lts a o' (F.keep a o' e); omega
  have hLI : @LT.lt Nat _ L I := hIe ▸ F.ns.lt
  have hC₀ := fresh₀ C (by omega)
  have hD₀ := fresh₀ D (by omega)
  have hCL : C ≠ L := neN (by omega)
  have hDL : D ≠ L := neN (by omega)
  have offled : Off3 I C D led := Off3.of fun p hp => by have := lts _ _ (N p hp).1; exact xI0_3 (neN (by omega)) (neN (by omega)) (neN (by omega))
  have st0 : IsRangeIter h₁ I (0 + ((0 : Nat) : Int) * 1) ((n : Int) - ((0 : Nat) : Int)) 1 := by
    show h₁.get? I = _
    rw [hI₁]
    congr 4
  have loop : ∀ s₃ : Shared, s₃ = { s with heap := h₁, toks := s.toks + ([] : List (Str × Value)).length } →
      codeAny (model prog w) A (.compLoop (.ListComp elt [⟨.Name x px, iter, [], 0⟩] scope pos) 0 (.ref I) (.ref D) (compEnvC scope cl C env)) (compPost (model prog w) A E use Q (.ref D) C) s₃ := by
    rintro s₃ rfl
    refine codeAny_compLoop_tests
      (fun k s' => ∃ h' tk i ys m' news', s' = { s with heap := h', toks := tk } ∧ i ≤ n ∧ k = n + 1 - i ∧ ys.length = i ∧ IsRangeIter h' I (0 + (i : Int) * 1) ((n : Int) - (i : Int)) 1 ∧ Fr g L h' m ∧ h'.Ns C m' ∧ m' "what" = none ∧ News g L h' ((D, lst ys) :: news') ∧
        Off3 I C D news' ∧ J i ys news') ?_ (n + 1)
      ⟨h₁, _, 0, [], _, led, rfl, Nat.zero_le _, rfl, rfl, st0, F.keeps old, hns₁, rfl, fun p hp => ?_, offled, hJ⟩
    · rintro k s' ⟨h', tk, i, ys, m', news', rfl, hi, rfl, hyl, hst', F', hn', hw', N', off', hJ'⟩
      by_cases hlt : i < n
      · refine W.item i _ _ _ hlt hst' fun v h₂ tk₂ hPv hst₂ hk₂ => ?_
        refine xE1_1 hPv ?_; (try clear hPv); intro tv zq2'; subst zq2'
        rw [Int.zero_add]
        refine wpAny_assign_Name (wpAny_storeName_local (lookup_relabel_local hx) (hn'.at' fun o e => hk₂ _ o (by simpa using Ne.symm hIC) e) (fun h₃ hn₃ hs₃ => ?_) (by simp [compEnvC, relabel, hkind]))
        refine wpAny_tests_nil ?_
        simp only [if_true]
        have hst₃ : IsRangeIter h₃ I (0 + ((i + 1 : Nat) : Int) * 1) ((n : Int) - ((i + 1 : Nat) : Int)) 1 := W.frame _ _ _ hst₂ fun b hb o e => hs₃.extBut b o (fun q => hIC ((List.mem_singleton.mp hb).symm.trans q)) e
        refine xE1_2 (ns_obj hn₃) ?_; intro oC heC hoC
        have F₃ : Fr g L h₃ m := (fr_but F' hk₂ hIL hI₀).change hs₃ hCL hC₀
        have off3 := off'.mem
        have N₂ : News g L h₂ ((D, lst ys) :: news') := news_but N' hk₂ fun p hp => by
          rcases List.mem_cons.mp hp with rfl | hp
          · exact Ne.symm hID
          · exact (off3 p hp).1
        have N₃ : News g L h₃ ((I, _) :: (C, oC) :: (D, lst ys) :: news') := fun p hp => by
          rcases List.mem_cons.mp hp with rfl | hp
          · exact xI0_3 hst₃ (Ne.symm hIL) hI₀
          · rcases List.mem_cons.mp hp with rfl | hp
            · exact xI0_3 heC hCL hC₀
            · have z := N₂ p hp
              refine ⟨hs₃.extBut _ _ ?_ z.1, z.2⟩
              rcases List.mem_cons.mp hp with rfl | hp
              · exact Ne.symm hCD'
              · exact (off3 p hp).2.1
        have hEl := elt_noted (prog := prog) (w := w) (cl := cl) (scope := scope) (m := m) (D := D) (use := use) (Q := Q) B hA hf hke hH hoC (by rw [if_neg (Ne.symm hxw)]; exact hw') hC₀ hCL
        refine wpAny_mono (turn i ys news' I _ C oC D _ h₃ _ _ hlt hJ' hoC ⟨tv, by simp⟩ F₃ N₃ off' ⟨hIC, hID, hCD⟩ hEl) (fun y s₄ h₄ => ?_) fun _ _ e => e
        refine xE3_6 h₄ ?_; (try clear h₄); intro h₄ tk₄ news₄ zq3' F₄ N₄ off₄ _ hJ₄; subst zq3'
        have zI := (N₄ (I, _) List.mem_cons_self).1
        have zC := (N₄ (C, oC) (List.mem_cons_of_mem _ List.mem_cons_self)).1
        have zD := (N₄ (D, lst ys) (List.mem_cons_of_mem _ (List.mem_cons_of_mem _ List.mem_cons_self))).1
        have N₄' : News g L h₄ news₄ := fun p hp => N₄ p (List.mem_cons_of_mem _ (List.mem_cons_of_mem _ (List.mem_cons_of_mem _ hp)))
        refine append_at (hsz := by show ys.toArray.size ≤ sizeLine; rw [List.size_toArray, hyl]; exact Nat.le_trans hi hsz) zD fun h₅ hs₅ hD₅ => ?_
        have off4 := off₄.mem
        refine ⟨n + 1 - (i + 1), by omega, h₅, tk₄, i + 1, ys ++ [y], _, news₄, rfl, hlt, rfl, by rw [List.length_append, List.length_singleton, hyl], hs₅.extBut _ _ hID zI, F₄.change hs₅ hDL hD₀,
          (hoC.ns zC).sameBut hs₅ hCD', (by rw [if_neg (Ne.symm hxw)]; exact hw'), fun p hp => ?_, off₄, hJ₄⟩
        rcases List.mem_cons.mp hp with rfl | hp
        · exact xI0_3 (hD₅.trans (congrArg some (lst_snoc ys y))) hDL hD₀
        · exact ⟨hs₅.extBut _ _ (off4 p hp).2.2 (N₄' p hp).1, (N₄' p hp).2⟩
      · obtain rfl : i = n := Nat.le_antisymm hi (Nat.not_lt.mp hlt)
        refine W.done _ _ _ hst' fun h₂ tk₂ hk₂ => ?_
        have off3 := off'.mem
        have N₂ : News g L h₂ ((D, lst ys) :: news') := news_but N' hk₂ fun p hp => by
          rcases List.mem_cons.mp hp with rfl | hp
          · exact Ne.symm hID
          · exact (off3 p hp).1
        exact fin D C h₂ tk₂ m' ys news' (fr_but F' hk₂ hIL hI₀) N₂ off'.one (hn'.at' fun o e => hk₂ _ o (by simpa using Ne.symm hIC) e) hC₀ hCL hCD' (fun p hp => (off3 p hp).2.1) hJ'
    · rcases List.mem_cons.mp hp with rfl | hp
      · exact xI0_3 hD₁ hDL hD₀
      · exact ⟨old _ _ (N p hp).1, (N p hp).2⟩
  exact codeAny_compStart_list (loop _ rfl) (W.self 0 _ _ _ st0 (loop _ rfl))
theorem post_assign {y : Str} {py : Pos} {Q : Flow → Shared → Prop} {D C : Addr} {h : Heap} {tk : Nat} {m' : Str → Option Value} {ys : List Value} {news' : List (Addr × Obj)} (hLe : env.locals = L) (hy : env.kindOf y = some .local) (hp : (env.scope.kind == .class || (env.scope.kind == .module && env.locals != env.globals)) = false)
    (F' : Fr g L h m) (N' : News g L h ((D, lst ys) :: news')) (hn : h.Ns C m') (hC₀ : g.get? C = none) (hCL : C ≠ L) (hCD : C ≠ D) (offC : ∀ p ∈ news', p.1 ≠ C)
    (fin : ∀ h₂, Fr g L h₂ (fun z => if z = y then some (.ref D) else m z) → News g L h₂ ((D, lst ys) :: news') → Q .next { s with heap := h₂, toks := tk + 1 }) :
    compPost (model prog w) A E (some (assign (.Name y py) env)) (fun _ s' => Q .next s') (.ref D) C (.ok .next) { s with heap := h, toks := tk } := by
  subst hLe
  show wpAny _ A (assign (.Name y py) env (.ref D)) _ _ _
  refine wpAny_assign_Name (wpAny_storeName_local hy F'.ns (fun h₂ hn₂ hs₂ => ?_) hp)
  have hL₀ : g.get? env.locals = none := Heap.get?_none_of_le F'.above
  have F₂ : Fr g env.locals h₂ (fun z => if z = y then some (.ref D) else m z) := ⟨hn₂, fun b o e => hs₂.extBut b o (fun q => by rw [q, hL₀] at e; cases e) (F'.keep b o e), F'.above⟩
  refine xI1_2 m' (hn.sameBut hs₂ hCL) (fun h'' hs'' => fin h'' (F₂.change hs'' hCL hC₀) fun p hp => ?_)
  have z : h₂.get? p.1 = some p.2 := hs₂.extBut _ _ (N' p hp).2.1 (N' p hp).1
  refine ⟨hs''.extBut _ _ ?_ z, (N' p hp).2⟩
  rcases List.mem_cons.mp hp with rfl | hp
  · exact Ne.symm hCD
  · exact offC p hp
end
end
section
open PySem.Calls
section
variable {w : World} {D U : Nat} {f : Addr} {vs : List Value} {fp : List (Addr × Obj)} {P : Heap → Heap → Value → Prop} {R : Str → Int → Prop}
theorem enterH {name qual : Str} {params : Arguments} {body : List Stmt} {scope : Scope} {dV kV doc pm cdv ct oc : Value} {an od : Option Addr} {osl : Array (Option Value)} {binds : List (Str × Value)}
    (ho : (KK w.params).lookup f = some ⟨oc, od, .func (fnOf name qual params body scope dV kV doc pm an cdv ct), osl⟩) (hcd : codeIn (KK w.params) cdv qual = true) (hD : D < recursionLimit)
    (hbind : ∀ s : Shared, (KK w.params).In s.heap → BindsTo s (fnOf name qual params body scope dV kV doc pm an cdv ct) ⟨vs, []⟩ binds)
    (hkind : (binds.all fun y => scope.names.lookup y.1 == some .local || scope.names.lookup y.1 == some .cell) = true) (hnd : ((cellsFrom 0 scope.names []).map (·.1)).Nodup)
    (h : ∀ {p : Program} {loose : List Str} {mean : ExcName → Option Value} {mg mb : Str → Option Value} {gd : Option (List Code)} {l : List Env} {s : Shared} {Q E : Value → Shared → Prop} (g : Heap) (L : Addr) (h₁ : Heap) (tk : Nat) (cells : List (Addr × Obj)),
      Fr g L h₁ (bindL (envOfC qual scope L f cdv).kindOf binds fun _ => none) → News g L h₁ (cells ++ fp) → CellsAre (bindC (envOfC qual scope L f cdv).kindOf binds fun _ => none) (cellsFrom (L + 1) scope.names []) cells →
      Below (Aat D U gd l) noHeap l g → (KK w.params).In g → Top p loose mean mg mb g → s.heap.objs.size ≤ L → (∀ b o, s.heap.get? b = some o → b ∉ fp.map (·.1) → g.get? b = some o) →
      (∀ b o, g.get? b = some o → s.heap.get? b = some o) → (∀ q ∈ fp, s.heap.get? q.1 = some q.2) → (∀ q ∈ fp, q.1 < L) →
      Ends l (envOfC qual scope L f cdv) g L s P R Q (fun e s' => wpAny (model rw_pb0183_01.row.prog w) ((Aat D U gd l).deeper (envOfC qual scope L f cdv)) (leaving (envOfC qual scope L f cdv) e) (fun _ s'' => E e s'') (fun e' s'' => E e' s'') s') →
      EndsH l (envOfC qual scope L f cdv) g L s R (fun e s' => wpAny (model rw_pb0183_01.row.prog w) ((Aat D U gd l).deeper (envOfC qual scope L f cdv)) (leaving (envOfC qual scope L f cdv) e) (fun _ s'' => E e s'') (fun e' s'' => E e' s'') s') →
      wpAny (model rw_pb0183_01.row.prog w) ((Aat D U gd l).deeper (envOfC qual scope L f cdv)) (execs body (envOfC qual scope L f cdv))
        (fun fl s' => Q (match fl with | .ret v => v | _ => .none) s')
        (fun e s' => wpAny (model rw_pb0183_01.row.prog w) ((Aat D U gd l).deeper (envOfC qual scope L f cdv)) (leaving (envOfC qual scope L f cdv) e) (fun _ s'' => E e s'') (fun e' s'' => E e' s'') s')
        { s with heap := h₁, toks := tk })
    (hco : scope.isCoroutine = false := by rfl) (hgen : scope.isGenerator = false := by rfl) (hk : scope.kind = .function := by rfl) : Spec w f D U vs fp P R := by
  intro p loose mean mg mb H A l s Q E S hfp hret hexc
  obtain ⟨hd, dp, fr, gd, un⟩ := A
  obtain ⟨X, T, st, zq1', zq2', dep, unn, fs⟩ := S; subst zq1'; subst zq2'
  dsimp only at dep unn
  refine wpAny_up (B := Aat D U gd l) ?_ rfl dep rfl rfl unn
  have Xs : (KK w.params).In s.heap := X.keeps st
  have stg : H.StaysIn (hideAll s.heap (fp.map (·.1))) := fun b o q => hideAll_get _ (st b o q) fun hm => by
    refine xE1_2 (List.mem_map.mp hm) ?_; intro x hx zq3'; subst zq3'
    rw [(hfp x hx).2.1] at q; cases q
  have hgk : ∀ b o, s.heap.get? b = some o → b ∉ fp.map (·.1) → (hideAll s.heap (fp.map (·.1))).get? b = some o := fun b o q hb => hideAll_get _ q hb
  have BF : (hideAll s.heap (fp.map (·.1))).FunFrames noHeap l := funFrames_hideAll fs fun env he b hb hf => by
    refine xE1_2 (List.mem_map.mp hb) ?_; intro x hx zq4'; subst zq4'
    exact (hfp x hx).2.2 (List.mem_filterMap.mpr ⟨env, he, hf⟩)
  refine wpAny_call (codeAny_call_function hD (Xs _ _ ho) rfl hco hgen rfl (codeRec_of Xs hcd) (hbind s Xs _ _ _ _ ?_))
  refine wpAny_newFunctionEnv_cells hk (kindsX hkind _) fun env' he s' x => ?_
  subst he
  refine ⟨(T.nolimit.keeps st).keeps x.toInCall.keep, codeAny_func ?_⟩
  refine xE2_2 (x.done) ?_; intro h₁ tk zq5' _; subst zq5'
  have hk₁ := x.toInCall.keep
  refine xE1_2 (Cl.news (h₀ := s.heap) (Nat.le_refl _) fun n c hm => ⟨x.cell n c (lookup_of_mem_nodup (cellsFrom_names scope.names 0 (s.heap.objs.size + 1) [] [] rfl ▸ hnd) hm), x.above n c hm⟩) ?_; intro cells NC Y
  have F : Fr (hideAll s.heap (fp.map (·.1))) s.heap.objs.size h₁ _ := ⟨x.toInCall.ns, fun b o e => hk₁ b o (of_hideAll _ e), Nat.le_of_eq (hideAll_size _ _)⟩
  refine h (gd := gd) (l := l) (s := s) (Q := Q) (E := E) _ s.heap.objs.size h₁ tk cells F (fun q hq => ?_) Y ⟨rfl, fun b o q => (by cases q), BF⟩ (X.keeps stg) (T.keeps stg) (Nat.le_refl _) hgk (fun b o q => of_hideAll _ q) (fun q hq => (hfp q hq).1) (fun q hq => Heap.lt_size (hfp q hq).1) ⟨fun v h' tk' m F' hP => ?_, fun e h₂ h' tk' m fp' what pl F' hf' hT hR => ?_⟩ fun e h₂ h' tk' m fp' what pl F' hf' hT hR => ?_
  · rcases List.mem_append.mp hq with hq | hq
    · refine xI0_3 ((NC q hq).1) ((NC q hq).2.1) ?_
      cases z : (hideAll s.heap (fp.map (·.1))).get? q.1 with
      | none => rfl
      | some o => have := of_hideAll _ z; rw [(NC q hq).2.2] at this; cases this
    · exact xI0_3 (hk₁ _ _ (hfp q hq).1) (Nat.ne_of_lt (Heap.lt_size (hfp q hq).1)) (hideAll_none _ (List.mem_map_of_mem hq))
  · exact hret v h' tk' ⟨fun b o q hb => F'.keep b o (hgk b o q hb), Nat.le_of_lt F'.ns.lt⟩ hP
  · exact Thrown.leave (s := { s with heap := h', toks := tk' }) (A := (Aat D U gd l).deeper (envOfC qual scope s.heap.objs.size f cdv)) rfl rfl hk BF hgk (Nat.le_refl _) F' hf' hT fun h₃ hT' => hexc e h₃ tk' what pl hT' hR
  · exact ThrownH.leave (s := { s with heap := h', toks := tk' }) (A := (Aat D U gd l).deeper (envOfC qual scope s.heap.objs.size f cdv)) rfl rfl hk BF hgk (Nat.le_refl _) F' hf' hT fun h₃ hT' => hexc e h₃ tk' what pl hT' hR
end
theorem Spec.elt {w : World} {A A₀ : Around} {p : Program} {loose : List Str} {mean : ExcName → Option Value} {mg mb : Str → Option Value} {l : List Env} {env : Env} {g h : Heap} {L C : Addr} {oC : Obj} {s₀ : Shared} {R : Str → Int → Prop} {Q₂ E : Value → Shared → Prop} {tk : Nat} {m : Str → Option Value}
    {f : Addr} {D U : Nat} {vs : List Value} {fp : List (Addr × Obj)} {P₂ : Heap → Heap → Value → Prop} {R₂ : Str → Int → Prop}
    (S : Spec w f D U vs fp P₂ R₂) (hX : EltE l env g L m C oC s₀ R E) (B : Below A₀ noHeap l g) (F : Fr g L h m) (X : (KK w.params).In g) (T : Top p loose mean mg mb g) (hA : A.frames = some (env :: l)) (hf : env.frame = some L) (hke : env.scope.kind = .function)
    (hh : A.handled = none) (hd : A.depth ≤ D) (hu : A.units ≤ U) (N : News g L h fp) (hC : h.get? C = some oC) (hCf : C ∉ fp.map (·.1)) (hR : Side (∀ what pl, R₂ what pl → R what pl))
    (hret : ∀ v h' tk', Fr g L h' m → Back (fp.map (·.1)) h h' → P₂ h h' v → Q₂ v { s₀ with heap := h', toks := tk' }) :
    wpAny (model rw_pb0183_01.row.prog w) A (call (.ref f) vs) Q₂ E { s₀ with heap := h, toks := tk } :=
  Spec.use (s := { s₀ with heap := h, toks := tk }) S B F X T hA hf hke hh hd hu N hret fun e h' tk' what pl hf' Th hr => hX e h h' tk' what pl _ F hC hCf hf' Th (hR.out _ _ hr)
end
section
open PySem.Calls
theorem mark_of {ks : List Int} {a a' flag : Int} {led : List (Addr × Obj)} (_hu : u16 ks a' = .ok flag) : MarkAt ks a flag led := ⟨trivial⟩
theorem mark_here {g h : Heap} {L : Addr} {m : Str → Option Value} {ks : List Int} {a flag ms : Int} {e : Addr × Obj} {led : List (Addr × Obj)} {s : Shared} {tk : Nat} {t : Tok} (F : Fr g L h m) (N : News g L h led) (he : e ∈ led) (hB : markB ks a flag = .ok ms) : MarkMid g L m ks a flag [e] s (.int ms t) { s with heap := h, toks := tk } :=
  by exact ⟨h, tk, ms, t, rfl, F, fun p hp => N p (List.mem_singleton.mp hp ▸ he), rfl, hB⟩
theorem mark_yes {ks : List Int} {a flag ms : Int} (h : Builtin.bitAnd flag 16 ≠ 0) (hu : u16 ks a = .ok ms) : markB ks a flag = .ok ms := (if_neg h).trans hu
theorem mark_no {ks : List Int} {a flag : Int} (h : Builtin.bitAnd flag 16 = 0) : markB ks a flag = .ok (-1) := if_pos h
theorem mark_err {ks : List Int} {a flag : Int} {e : Str × Int} (h : Builtin.bitAnd flag 16 ≠ 0) (hu : u16 ks a = .error e) : markB ks a flag = .error e := (if_neg h).trans hu
theorem tabJ0 {ks : List Int} {a number : Int} {D K Tb : Addr} {ys : List Value} {n : Nat} {ps : List Int} (_hu : u16 ks a = .ok number) (h1 : @Ne Nat D Tb) (h2 : @Ne Nat D K) : TabJ ks number D K Tb ys n ps 0 [(Tb, listOf #[] 0), (K, listOf #[] 0), (D, listOf (List.toArray ys) n)] :=
  ⟨[], [], 0, 0, _, none, rfl, fun p hp q hq => by
    rw [List.mem_singleton.mp hp]
    rcases List.mem_cons.mp hq with rfl | hq
    · exact h1
    · rw [List.mem_singleton.mp hq]; exact h2, .head _, ⟨rfl, rfl⟩, .nil, rfl⟩
theorem tab_next {ks : List Int} {number p : Int} {D K Tb I : Addr} {ys kvs tvs : List Value} {n nk nt i : Nat} {ps : List Int} {tl tl9 : List (Addr × Obj)} {v kv : Value} {k0 k1 : Option Str} (hs : ∀ q ∈ tl, q ∈ tl9) (O : OwnOff tl9 [I, Tb, K]) (hL : LangIn tl9 v p [number]) (hD : (D, listOf (List.toArray ys) n) ∈ tl)
    (ht : TabsIn tl tvs ((ps.take i).map fun p => (p, [number]))) (hpi : ps[i]? = some p) (hK : KindsAre (kvs ++ [kv]) (i + 1) k1) (htb : tabsB ks number none ps = tabsB ks number k0 (ps.drop i)) (hk : tabsB ks number k0 (p :: ps.drop (i + 1)) = tabsB ks number k1 (ps.drop (i + 1))) :
    TabJ ks number D K Tb ys n ps (i + 1) ((Tb, listOf (List.toArray (tvs ++ [v])) nt) :: (K, listOf (List.toArray (kvs ++ [kv])) nk) :: tl9) := by
  refine xI6_6 _ _ _ _ tl9 k1 rfl (fun q hq x hx => O q hq x (.tail _ hx)) (hs _ hD) hK ?_ ?_
  · rw [take_snoc hpi, List.map_append]
    exact TabsIn.snoc (x := (p, [number])) hL (ht.mono hs)
  · rw [htb, drop_at hpi, hk]
theorem tab_off {I Tb K : Addr} {o1 o2 : Obj} {tl9 : List (Addr × Obj)} (n1 : @Ne Nat Tb I) (n2 : @Ne Nat K I) (O : OwnOff tl9 [I, Tb, K]) : ∀ q ∈ (Tb, o1) :: (K, o2) :: tl9, q.1 ≠ I := fun q hq => by
  rcases List.mem_cons.mp hq with rfl | hq
  · exact n1
  rcases List.mem_cons.mp hq with rfl | hq
  · exact n2
  · exact O q hq I (.head _)
theorem own3 {tl : List (Addr × Obj)} {I Tb K : Addr} {o1 o2 : Obj} (off : ∀ q ∈ (Tb, o1) :: (K, o2) :: tl, q.1 ≠ I) (O : OwnOff tl [Tb, K]) : OwnOff tl [I, Tb, K] := fun p hp q hq => by
  rcases List.mem_cons.mp hq with rfl | hq
  · exact off p (.tail _ (.tail _ hp))
  · exact O p hp q hq
theorem KindsAre.len {kvs : List Value} {i : Nat} : {k0 : Option Str} → KindsAre kvs i k0 → kvs.length = i
  | none, h => by rw [h.1, h.2]; rfl
  | some _, h => h.2.1
theorem rep_ok {k : Str} {i : Nat} (h : PyData.strOk k = true) : ∀ d ∈ List.replicate i (Dat.str k), kqdOk 8 d = true := fun d hd => by
  rw [List.eq_of_mem_replicate hd]; simpa [kqdOk] using h
theorem tabs_err {ks : List Int} {number p : Int} {k : Str} {r : List Int} (h : (kindB ks p number != k) = true) : tabsB ks number (some k) (p :: r) = .error ("a lookup of two kinds", p) := if_neg (by simpa using h)
theorem kind_eq {a k : Str} (h : (a != k) = false) : a = k := by simpa using h
theorem tabs_ok {ks : List Int} {number p : Int} {k : Str} {r : List Int} (h : (kindB ks p number != k) = false) : tabsB ks number (some k) (p :: r) = tabsB ks number (some k) r := if_pos (kind_eq h)
theorem look_made {s g h : Heap} {L x dx lt : Addr} {news : List (Addr × Obj)} {tvs : List Value} {n : Nat} {k1 k2 k3 k4 flag ms : Int} {t1 t2 t3 t4 t5 t6 t7 : Tok} {kind : Str} {ts : List (Int × List Int)} (hgk : ∀ b o, s.get? b = some o → b ∉ ([] : List (Addr × Obj)).map (·.1) → g.get? b = some o) (N : News g L h news)
    (h1 : (x, instObj 85 dx) ∈ news) (h2 : (dx, lookD k1 k2 k3 k4 t1 t2 t3 t4 t5 t6 t7 kind flag ms lt) ∈ news) (h3 : (lt, listOf (List.toArray tvs) n) ∈ news) (ht : TabsIn news tvs ts) : Made s h news ∧ LookIn news (.ref x) kind flag ms ts :=
  by exact ⟨Made.of hgk N fun _ h => h, x, dx, lt, tvs, n, k1, k2, k3, k4, t1, t2, t3, t4, t5, t6, t7, rfl, h1, h2, h3, ht⟩
section
variable {prog : Program} {w : World} {A : Around} {E : Value → Shared → Prop} {s : Shared} {g : Heap} {L : Addr} {m : Str → Option Value} {env : Env}
theorem post_assignP {y : Str} {py : Pos} {Q : Shared → Prop} {D C : Addr} {h : Heap} {tk : Nat} {m' : Str → Option Value} {ys : List Value} {news' : List (Addr × Obj)} (hLe : env.locals = L) (hy : env.kindOf y = some .local) (hp : (env.scope.kind == .class || (env.scope.kind == .module && env.locals != env.globals)) = false)
    (F' : Fr g L h m) (N' : News g L h ((D, LCg.lst ys) :: news')) (hn : h.Ns C m') (hC₀ : g.get? C = none) (hCL : C ≠ L) (hCD : C ≠ D) (offC : ∀ p ∈ news', p.1 ≠ C)
    (fin : ∀ h₂, Fr g L h₂ (fun z => if z = y then some (.ref D) else m z) → News g L h₂ ((D, LCg.lst ys) :: news') → Q { s with heap := h₂, toks := tk + 1 }) :
    compPost (model prog w) A E (some (assign (.Name y py) env)) (fun _ s' => Q s') (.ref D) C (.ok .next) { s with heap := h, toks := tk } :=
  post_assign (Q := fun _ s' => Q s') hLe hy hp F' N' hn hC₀ hCL hCD offC fin
end
theorem lookup_spec {w : World} {b : Array UInt8} {ks : List Int} {a : Int} {t1 t2 : Tok} (hb : KBw.bInts b = ks) (hz : ks.length ≤ 1000) (ha : 0 ≤ a) :
    Spec w 313 760 760 [.bytes b t1, .int a t2, .ref 361] []
      (fun h h' v => ∃ tl kind number flag ms ps, Made h h' tl ∧ LookIn tl v kind flag ms (ps.map fun p => (p, [number])) ∧ PyData.strOk kind = true ∧ ps ≠ [] ∧ ps.length < 65536 ∧ lookupB ks a = .ok (kind, number, flag, ms, ps)) (fun what pl => lookupB ks a = .error (what, pl)) := by
  refine xE1_2 (u16_nat (ks := ks) (a := a + 2 + 2) hb) ?_; intro c hc1 hc2
  ((refine' enterH ?ho ?hcd ?hD ?hb ?hkd ?hnd ?_ ?c1 ?c2 ?c3; (case ho => exact rfl); (case hcd => exact rfl); (case hD => decide); (case hb => exact fun s'r X'r => BindsTo.of_eq rfl); (case hkd => exact rfl); (case hnd => decide +kernel); (case c1 => exact rfl); (case c2 => exact rfl); (case c3 => exact rfl); intro p'r loose'r mean'r mg'r mb'r gd'r l'r s'r Q'r E'r g'r L'r h₁'r tk'r cells'r F'r N'r Y'r B'r X'r T'r hL'r hgk'r hgs'r hfp'r l1'r hX'r hH'r; (try (refine (let mk := _; (fun (FK : Fr _ _ _ mk) => ?_) F'r); clear F'r)); revert X'r; k_fill; intro X'r; (try k_lt l1'r); k_cells Y'r; (try simp only [List.cons_append, List.nil_append] at N'r); (try dsimp only); (try (refine (let mA := _; let mE := _; (?_ : wpAny _ mA (execs _ mE) _ _ _)))); (try k_fold)))
  (repeat' (first | ((with_reducible first | refine nextN ?_ | refine nextR ?_); (try dsimp only)) | (k_unfold; (try dsimp only)) | (k_end; kc_close) | ((with_reducible first | show wpAny _ _ (exec _ _) _ _ _ | show wpAny _ _ (eval (Expr.Call ..) _) _ _ _ | show wpAny _ _ (eval (Expr.BinOp ..) _) _ _ _ | show wpAny _ _ (eval (Expr.Subscript ..) _) _ _ _ | show wpAny _ _ (eval (Expr.List ..) _) _ _ _ | show wpAny _ _ (eval (Expr.Tuple ..) _) _ _ _); (fail_if_success (fail_if_success k_fold)); refine (let qk := _; (?_ : wpAny _ _ _ qk _ _))) | ((with_reducible refine execsN ?_); (try k_gentoks)) | ((with_reducible refine args_cons ?_ ?he); (case he => exact rfl)) | ((with_reducible show wpAny _ _ (exec (Stmt.Assign (List.cons _ _) (Expr.ListComp ..) ..) _) _ _ _); (k_here; k_dflt (refine assign_raises (by k_asm) (by with_unfolding_all rfl) (by with_unfolding_all rfl) (by rfl) (by decide) ?_))) | ((with_reducible show wpAny _ _ (exec (Stmt.Raise ..) _) _ _ _); (k_here; (with_reducible show wpAny _ _ (exec (Stmt.Raise (some (Expr.Call (Expr.Name _ _) _ _ _)) none _) _) _ _ _); k_dflt (refine raise_of (by exact rfl) ?_))) | ((with_reducible show wpAny _ _ (call (Value.ref _) _ _) _ _ _); first | ((k_here; (try ((fail_if_success (fail_if_success k_fold)); refine (let qk := _; (?_ : wpAny _ _ _ qk _ _)))); (try dsimp only); k_dflt (refine' Spec.here (u16_spec (by kba_ints) (by assumption) (by assumption)) ?hX ?B ?F ?X ?T rfl rfl rfl rfl (Nat.le_of_ble_eq_true rfl) (Nat.le_of_ble_eq_true rfl) ?N ?_ ?_; ((case hX => assumption); (case B => assumption); (case F => k_asm); (case X => k_asm); (case T => k_asm)); (case N => exact news2 (by assumption) (by k_mem) (by k_mem)); rotate_left; intro v'r h'r tk'r F'r hb'r hP'r; (try simp only [List.map_cons, List.map_nil] at hb'r); refine xE3_4 hP'r ?_; clear hP'r; intro n'r u'r t'r e'r hP1 hP2 hP3; subst e'r; (have N'r := news_back2 (by assumption) hb'r (by k_mem) (by k_upd) hP2 hP3); (have hB'r := u16_lt (by kba_ints) hP1); (try k_sweep)))) | ((k_here; k_dflt (refine' fault_here ?hX ?F ?X ?T ?D ?_; (case hX => assumption); (case F => k_asm); (case X => k_asm); (case T => k_asm); (case D => exact Nat.le_of_ble_eq_true rfl))))) | ((with_reducible show wpAny _ _ (storeName _ _ _) _ _ _); (k_here; k_dflt (refine' storeX_L ?sF ?sN ?_ rfl rfl; (case sF => k_asm); (case sN => k_asm); k_whole; intro hS FS NS; (try k_sweep); refine (let mk := _; (fun (FK : Fr _ _ _ mk) => ?_) FS); clear FS))) | walk1 | (dsimp only; walk1) | (dsimp only [mA]; walk1) | (dsimp only [mE]; walk1) | (dsimp only [mA, mE]; walk1) | (leave1; (try dsimp only))))
  · exact Side.mk ((andE_ok (by assumption)).trans ((andE_ok (by assumption)).trans ((andE_ok (by assumption)).trans (if_pos (by assumption)))))
  · rename u16 ks (a + 2 + 2) = .ok _ => hu3
    rename u16 ks (a + 2) = .ok _ => hu2
    rename u16 ks a = .ok _ => hu1
    have hc3 := hc2 _ hu3
    subst hc3
    rename News _ _ _ _ => N9
    refine Side.mk (block_R (PlJ ks a c (a + 2 + 2 + 2) _ _ _ _ _ b _ _ _) (by assumption) rfl rfl rfl rfl (by assumption) (by decide) (by rfl) (by rfl) (by decide) (by assumption) (small_one (by omega) (by omega) (by omega) (by omega)) (by rw [sizeLine_eq]; omega) (by assumption) N9
      ⟨_, [], by rw [show a + 2 + 2 + 2 + 2 * ((0 : Nat) : Int) = a + 2 + 2 + 2 by omega], .nil, rfl, (fun _ h => nomatch h), by rw [show a + 2 + 2 + 2 + 2 * ((0 : Nat) : Int) = a + 2 + 2 + 2 by omega]; rfl⟩ ?_ ?_)
    · intro i ys news I oI C oC D m₂ h tk E' hi hJ hC hx F N off ne hE
      refine xE2_5 hJ ?_; (try clear hJ); intro t' ps zq1' hys hlen hpos hloop; subst zq1'
      refine xE1_1 hx ?_; (try clear hx); intro t9 hx
      simp only [LCg.Off3, and_true] at off
      (repeat' (first | ((with_reducible first | refine nextN ?_ | refine nextR ?_); (try dsimp only)) | (k_unfold; (try dsimp only)) | (k_end; kc_close) | ((with_reducible first | show wpAny _ _ (exec _ _) _ _ _ | show wpAny _ _ (eval (Expr.Call ..) _) _ _ _ | show wpAny _ _ (eval (Expr.BinOp ..) _) _ _ _ | show wpAny _ _ (eval (Expr.Subscript ..) _) _ _ _ | show wpAny _ _ (eval (Expr.List ..) _) _ _ _ | show wpAny _ _ (eval (Expr.Tuple ..) _) _ _ _); (fail_if_success (fail_if_success k_fold)); refine (let qk := _; (?_ : wpAny _ _ _ qk _ _))) | ((with_reducible refine execsN ?_); (try k_gentoks)) | ((with_reducible refine args_cons ?_ ?he); (case he => exact rfl)) | ((with_reducible show wpAny _ _ (call (Value.ref _) _ _) _ _ _); (k_here; (try ((fail_if_success (fail_if_success k_fold)); refine (let qk := _; (?_ : wpAny _ _ _ qk _ _)))); k_dflt (refine' Spec.elt (offset_spec (by kba_ints) (by assumption) (by assumption)) ?hX ?B ?F ?X ?T ?hA ?hf ?hke ?hh ?hd ?hu ?N ?hC ?hCf ?_ ?_; (((case hX => assumption); (case B => assumption); (case F => k_asm); (case X => k_asm); (case T => k_asm); (case hA => exact rfl); (case hf => exact rfl); (case hke => exact rfl); (case hh => exact rfl); (case hd => exact Nat.le_of_ble_eq_true rfl); (case hu => exact Nat.le_of_ble_eq_true rfl))); (case N => exact news2 (by assumption) (by k_mem) (by k_mem)); (case hC => exact News.get (by k_asm) (by k_mem)); (case hCf => exact nmem2 (by k_ne) (by k_ne)); rotate_left; intro v'r h'r tk'r F'r hb'r hP'r; (try simp only [List.map_cons, List.map_nil] at hb'r); refine xE3_4 hP'r ?_; clear hP'r; intro n'r u'r t'r e'r hP1 hP2 hP3; subst e'r; (have N'r := news_back2 (by assumption) hb'r (by k_mem) (by k_upd) hP2 hP3); (try k_sweep)))) | walk1 | (dsimp only; walk1) | (dsimp only [mA]; walk1) | (dsimp only [mE]; walk1) | (dsimp only [mA, mE]; walk1) | (leave1; (try dsimp only))))
      · exact ⟨_, _, by rw [show a + 2 + 2 + 2 + 2 * ((i + 1 : Nat) : Int) = a + 2 + 2 + 2 + 2 * (i : Int) + 2 by omega], IntsAre.snoc _ hys, by rw [List.length_append, hlen]; rfl,
          fun p hp => (List.mem_append.mp hp).elim (hpos p) fun hp => by rw [List.mem_singleton.mp hp]; exact off_pos hb ha (by assumption), pl_next hi (by assumption) hloop⟩
      · exact Side.mk fun what pl h => (andE_ok hu1).trans ((andE_ok hu2).trans ((andE_ok hu3).trans ((if_neg (by assumption)).trans (andE_err (by rw [Int.toNat_natCast]; exact pl_err hi h hloop)))))
    · intro D C h tk m' ys news' F N o1 hn hC₀ hCL hCD offC hJ
      refine xE2_5 hJ ?_; (try clear hJ); intro t' ps zq2' hys hlen hpos hloop; subst zq2'
      refine post_assignP rfl (by with_unfolding_all rfl) (by rfl) F N hn hC₀ hCL hCD offC fun h₂ F₂ N₂ => ?_
      (try dsimp only)
      simp only [LCg.Off1, and_true] at o1
      have hpl : plLoop ks a c (a + 2 + 2 + 2) [] = .ok ps := by rw [hloop, Nat.sub_self]; rfl
      have hmk := mark_of (ks := ks) (a := a + 2 + 2 + 2 + 2 * (c : Int)) (led := [(D, LCg.lst ys)]) hu2
      (repeat' (first | ((with_reducible first | refine nextN ?_ | refine nextR ?_); (try dsimp only)) | (k_unfold; (try dsimp only)) | (k_end; kc_close) | ((with_reducible first | show wpAny _ _ (exec _ _) _ _ _ | show wpAny _ _ (eval (Expr.Call ..) _) _ _ _ | show wpAny _ _ (eval (Expr.BinOp ..) _) _ _ _ | show wpAny _ _ (eval (Expr.Subscript ..) _) _ _ _ | show wpAny _ _ (eval (Expr.List ..) _) _ _ _ | show wpAny _ _ (eval (Expr.Tuple ..) _) _ _ _); (fail_if_success (fail_if_success k_fold)); refine (let qk := _; (?_ : wpAny _ _ _ qk _ _))) | ((with_reducible refine execsN ?_); (try k_gentoks)) | ((with_reducible refine args_cons ?_ ?he); (case he => exact rfl)) | ((with_reducible show wpAny _ _ (exec (Stmt.For (Expr.Name ..) (Expr.Name ..) ..) _) _ _ _); (k_here; k_dflt (refine for_sideT (by k_asm) ?_))) | ((with_reducible show wpAny _ _ (eval (Expr.IfExp ..) _) _ _ _); (k_here; k_dflt (refine ifexp_mark (by k_asm) (by assumption) ?_ ?_); rotate_left; intro h'r tk'r ms'r t'r F'r N'r hP'r; (try k_sweep); rotate_right)) | ((with_reducible show wpAny _ _ (call (Value.ref _) _ _) _ _ _); (k_here; (try ((fail_if_success (fail_if_success k_fold)); refine (let qk := _; (?_ : wpAny _ _ _ qk _ _)))); (try dsimp only); k_dflt (refine' Spec.here (u16_spec (by kba_ints) (by assumption) (by assumption)) ?hX ?B ?F ?X ?T rfl rfl rfl rfl (Nat.le_of_ble_eq_true rfl) (Nat.le_of_ble_eq_true rfl) ?N ?_ ?_; ((case hX => assumption); (case B => assumption); (case F => k_asm); (case X => k_asm); (case T => k_asm)); (case N => exact news2 (by assumption) (by k_mem) (by k_mem)); rotate_left; intro v'r h'r tk'r F'r hb'r hP'r; (try simp only [List.map_cons, List.map_nil] at hb'r); refine xE3_4 hP'r ?_; clear hP'r; intro n'r u'r t'r e'r hP1 hP2 hP3; subst e'r; (have N'r := news_back2 (by assumption) hb'r (by k_mem) (by k_upd) hP2 hP3); (have hB'r := u16_lt (by kba_ints) hP1); (try k_sweep)))) | ((with_reducible show wpAny _ _ (storeName _ _ _) _ _ _); (k_here; k_dflt (refine' storeX_L ?sF ?sN ?_ rfl rfl; (case sF => k_asm); (case sN => k_asm); k_whole; intro hS FS NS; (try k_sweep); refine (let mk := _; (fun (FK : Fr _ _ _ mk) => ?_) FS); clear FS))) | walk1 | (dsimp only; walk1) | (dsimp only [mA]; walk1) | (dsimp only [mE]; walk1) | (dsimp only [mA, mE]; walk1) | (leave1; (try dsimp only))))
      · exact mark_here (by assumption) (by assumption) (by k_mem) (mark_yes (by assumption) (by assumption))
      · exact Side.mk fun what pl h => (andE_ok hu1).trans ((andE_ok hu2).trans ((andE_ok hu3).trans ((if_neg (by assumption)).trans ((andE_ok (by rw [Int.toNat_natCast]; exact hpl)).trans (andE_err (mark_err (by assumption) h))))))
      · exact mark_here (by assumption) (by assumption) (by k_mem) (mark_no (by assumption))
      · rename News _ _ _ _ => N8
        rename markB _ _ _ = .ok _ => hmB
        refine Side.mk (loop_listS (lf := D) (its := List.toArray ys) (n := ys.length) ["begun", "kind", "table"] (TabJ ks _ D _ _ ys ys.length ps) rfl (by assumption) N8 (tabJ0 hu1 (by k_ne) (by k_ne)) (fun i led hJ => tabJ_mem hJ) ?_ ?_)
        · intro i v u led₁ I oI h tk hv hJ off F N
          refine xE6_6 hJ ?_; (try clear hJ); intro kvs tvs nk nt tl k0 zq3' hoff hD hk ht htb; subst zq3'
          refine xE2_2 (int_at hys hv) ?_; intro p tp zq4' hpi; subst zq4'
          have hp0 : 0 ≤ p := hpos p (List.mem_of_getElem? hpi)
          have n1 : @Ne Nat _ I := off _ (.head _)
          have n2 : @Ne Nat _ I := off _ (.tail _ (.head _))
          have hoff3 := own3 off hoff
          clear hoff
          have hip := (List.getElem?_eq_some_iff.mp hpi).1
          have hZ1 : (List.toArray kvs).size ≤ sizeLine := by
            have := hk.len
            rw [List.size_toArray, sizeLine_eq]; omega
          have hZ2 : (List.toArray tvs).size ≤ sizeLine := by
            have := ht.length
            rw [List.length_map, List.length_take] at this
            rw [List.size_toArray, sizeLine_eq]; omega
          have hnb := u16_lt hb hu1
          cases k0 with
          | none =>
            refine xE0_2 hk ?_; (try clear hk); intro zq5' zq6'; subst zq5'; subst zq6'
            have hda : DatAll [] ([] : List Value) [] := .nil
            have hemp : ([] : List Dat).isEmpty = true := rfl
            have hok : ∀ d ∈ ([] : List Dat), kqdOk 8 d = true := fun _ h => nomatch h
            (repeat' (first | ((with_reducible first | refine nextN ?_ | refine nextR ?_); (try dsimp only)) | (k_unfold; (try dsimp only)) | (k_end; kc_close) | ((with_reducible first | show wpAny _ _ (exec _ _) _ _ _ | show wpAny _ _ (eval (Expr.Call ..) _) _ _ _ | show wpAny _ _ (eval (Expr.BinOp ..) _) _ _ _ | show wpAny _ _ (eval (Expr.Subscript ..) _) _ _ _ | show wpAny _ _ (eval (Expr.List ..) _) _ _ _ | show wpAny _ _ (eval (Expr.Tuple ..) _) _ _ _); (fail_if_success (fail_if_success k_fold)); refine (let qk := _; (?_ : wpAny _ _ _ qk _ _))) | ((with_reducible refine execsN ?_); (try k_gentoks)) | ((with_reducible refine args_cons ?_ ?he); (case he => exact rfl)) | ((with_reducible show wpAny _ _ (compareOp CmpOp.NotEq (Value.ref _) (Value.ref _)) _ _ _); (k_here; k_dflt (refine' dats_ne ?N ?ma ?mb ?Da ?sa ?ok ?he ?hu ?_; (case Da => assumption); (case N => k_asm); (case ma => k_mem); (case mb => k_mem); (case ok => assumption); (case he => assumption); (case hu => exact Nat.le_of_ble_eq_true rfl); (case sa => exact fun _ h => nomatch h)))) | ((with_reducible show wpAny _ _ (call (Value.builtin "list.append") _ _) _ _ _); (k_here; k_dflt (refine' append_K ?k1 ?k2 ?k3 ?_ ?z; (case k1 => k_asm); (case k2 => k_asm); (case k3 => k_upd); (case z => assumption)); intro h'r F'r N'r)) | ((with_reducible show wpAny _ _ (call (Value.ref _) _ _) _ _ _); (k_here; (try ((fail_if_success (fail_if_success k_fold)); refine (let qk := _; (?_ : wpAny _ _ _ qk _ _)))); (try dsimp only); k_dflt (refine' Spec.here (table_spec (by kba_ints) (by assumption) (by assumption) (by assumption)) ?hX ?B ?F ?X ?T rfl rfl rfl rfl (Nat.le_of_ble_eq_true rfl) (Nat.le_of_ble_eq_true rfl) ?N ?_ ?_; ((case hX => assumption); (case B => assumption); (case F => k_asm); (case X => k_asm); (case T => k_asm)); (case N => exact News.nil); rotate_left; intro v'r h'r tk'r F'r hb'r hP'r; (try simp only [List.map_cons, List.map_nil] at hb'r); refine xE5_3 hP'r ?_; clear hP'r; intro T'r x'r tk9'r n9'r tl'r e'r hM'r hL'r; subst e'r; (rename News _ _ _ _ => N8'r); (have hU'r := made_tup hM'r); (refine xE1_4 (grow3 hM'r (by assumption) N8'r (news_back0 N8'r hb'r) (by assumption)) ?_; intro tl9'r hs1'r hs2'r O'r N'r); (clear N8'r); (have hL9'r := LangIn.mono (fun p hp => hs2'r p (List.mem_cons_of_mem _ hp)) hL'r); (try k_sweep)))) | ((with_reducible show wpAny _ _ (storeName _ _ _) _ _ _); (k_here; k_dflt (refine' storeX_L ?sF ?sN ?_ rfl rfl; (case sF => k_asm); (case sN => k_asm); k_whole; intro hS FS NS; (try k_sweep); refine (let mk := _; (fun (FK : Fr _ _ _ mk) => ?_) FS); clear FS))) | walk1 | (dsimp only; walk1) | (dsimp only [mA]; walk1) | (dsimp only [mE]; walk1) | (dsimp only [mA, mE]; walk1) | (leave1; (try dsimp only))))
            · rename News _ _ _ _ => N9
              rename LangIn _ _ _ _ => hL8
              rename OwnOff _ _ => hO8
              simp only [List.push_toArray] at N9
              refine TurnS.intro (by k_asm) (fun q hq => N9 q (.tail _ hq)) (tab_off n1 n2 hO8) ?_ (tab_next (by assumption) hO8 hL8 hD ht hpi (KindsAre.first (kind_ok _ _ _)) htb rfl)
              intro z hz
              have hz0 := hz
              simp only [List.contains_cons, List.contains_nil, Bool.or_false, Bool.or_eq_false_iff, beq_eq_false_iff_ne] at hz
              refine xE0_3 hz ?_; (try clear hz); intro z1 z2 z3
              simp +zetaDelta only [if_neg z1, if_neg z2, if_neg z3, hz0, Bool.false_eq_true, if_false]
            · exact Side.mk fun _ _ h => h.elim
          | some k =>
            refine xE0_4 hk ?_; (try clear hk); intro zq7' hkl hda hks; refine xE2_1 zq7' ?_; clear zq7'; intro tk0 r zq8'; subst zq8'
            have hok := rep_ok (i := i) hks
            have hemp : (List.replicate i (Dat.str k)).isEmpty = false := by
              cases i with
              | zero => cases hkl
              | succ i => rfl
            (repeat' (first | ((with_reducible first | refine nextN ?_ | refine nextR ?_); (try dsimp only)) | (k_unfold; (try dsimp only)) | (k_end; kc_close) | ((with_reducible first | show wpAny _ _ (exec _ _) _ _ _ | show wpAny _ _ (eval (Expr.Call ..) _) _ _ _ | show wpAny _ _ (eval (Expr.BinOp ..) _) _ _ _ | show wpAny _ _ (eval (Expr.Subscript ..) _) _ _ _ | show wpAny _ _ (eval (Expr.List ..) _) _ _ _ | show wpAny _ _ (eval (Expr.Tuple ..) _) _ _ _); (fail_if_success (fail_if_success k_fold)); refine (let qk := _; (?_ : wpAny _ _ _ qk _ _))) | ((with_reducible refine execsN ?_); (try k_gentoks)) | ((with_reducible refine args_cons ?_ ?he); (case he => exact rfl)) | ((with_reducible show wpAny _ _ (subscriptTail (Expr.Name ..) (Expr.Constant ..) (Value.ref _) (Value.int ..)) _ _ _); (k_here; k_dflt (refine item_head (News.isList (by k_asm) (by k_mem)) ?_))) | ((with_reducible show wpAny _ _ (compareOp CmpOp.NotEq (Value.ref _) (Value.ref _)) _ _ _); (k_here; k_dflt (refine' dats_ne ?N ?ma ?mb ?Da ?sa ?ok ?he ?hu ?_; (case Da => assumption); (case N => k_asm); (case ma => k_mem); (case mb => k_mem); (case ok => assumption); (case he => assumption); (case hu => exact Nat.le_of_ble_eq_true rfl); (case sa => exact fun _ h => nomatch h)))) | ((with_reducible show wpAny _ _ (exec (Stmt.Raise ..) _) _ _ _); (k_here; (with_reducible show wpAny _ _ (exec (Stmt.Raise (some (Expr.Call (Expr.Name _ _) _ _ _)) none _) _) _ _ _); k_dflt (refine raise_of (by exact rfl) ?_))) | ((with_reducible show wpAny _ _ (call (Value.builtin "list.append") _ _) _ _ _); (k_here; k_dflt (refine' append_K ?k1 ?k2 ?k3 ?_ ?z; (case k1 => k_asm); (case k2 => k_asm); (case k3 => k_upd); (case z => assumption)); intro h'r F'r N'r)) | ((with_reducible show wpAny _ _ (call (Value.ref _) _ _) _ _ _); first | ((k_here; (try ((fail_if_success (fail_if_success k_fold)); refine (let qk := _; (?_ : wpAny _ _ _ qk _ _)))); (try dsimp only); k_dflt (refine' Spec.here (table_spec (by kba_ints) (by assumption) (by assumption) (by assumption)) ?hX ?B ?F ?X ?T rfl rfl rfl rfl (Nat.le_of_ble_eq_true rfl) (Nat.le_of_ble_eq_true rfl) ?N ?_ ?_; ((case hX => assumption); (case B => assumption); (case F => k_asm); (case X => k_asm); (case T => k_asm)); (case N => exact News.nil); rotate_left; intro v'r h'r tk'r F'r hb'r hP'r; (try simp only [List.map_cons, List.map_nil] at hb'r); refine xE5_3 hP'r ?_; clear hP'r; intro T'r x'r tk9'r n9'r tl'r e'r hM'r hL'r; subst e'r; (rename News _ _ _ _ => N8'r); (have hU'r := made_tup hM'r); (refine xE1_4 (grow3 hM'r (by assumption) N8'r (news_back0 N8'r hb'r) (by assumption)) ?_; intro tl9'r hs1'r hs2'r O'r N'r); (clear N8'r); (have hL9'r := LangIn.mono (fun p hp => hs2'r p (List.mem_cons_of_mem _ hp)) hL'r); (try k_sweep)))) | ((k_here; k_dflt (refine' fault_here ?hX ?F ?X ?T ?D ?_; (case hX => assumption); (case F => k_asm); (case X => k_asm); (case T => k_asm); (case D => exact Nat.le_of_ble_eq_true rfl))))) | ((with_reducible show wpAny _ _ (storeName _ _ _) _ _ _); (k_here; k_dflt (refine' storeX_L ?sF ?sN ?_ rfl rfl; (case sF => k_asm); (case sN => k_asm); k_whole; intro hS FS NS; (try k_sweep); refine (let mk := _; (fun (FK : Fr _ _ _ mk) => ?_) FS); clear FS))) | walk1 | (dsimp only; walk1) | (dsimp only [mA]; walk1) | (dsimp only [mE]; walk1) | (dsimp only [mA, mE]; walk1) | (leave1; (try dsimp only))))
            · exact Side.mk ((andE_ok hu1).trans ((andE_ok hu2).trans ((andE_ok hu3).trans ((if_neg (by assumption)).trans ((andE_ok (by rw [Int.toNat_natCast]; exact hpl)).trans ((andE_ok hmB).trans (andE_err (by rw [htb, drop_at hpi]; exact tabs_err (by assumption)))))))))
            · rename News _ _ _ _ => N9
              rename LangIn _ _ _ _ => hL8
              rename OwnOff _ _ => hO8
              simp only [List.push_toArray] at N9
              refine TurnS.intro (by k_asm) (fun q hq => N9 q (.tail _ hq)) (tab_off n1 n2 hO8) ?_ (tab_next (by assumption) hO8 hL8 hD ht hpi (KindsAre.snoc ⟨⟨tk0, r, rfl⟩, hkl, hda, hks⟩ (kind_eq (by assumption))) htb (tabs_ok (by assumption)))
              intro z hz
              have hz0 := hz
              simp only [List.contains_cons, List.contains_nil, Bool.or_false, Bool.or_eq_false_iff, beq_eq_false_iff_ne] at hz
              refine xE0_3 hz ?_; (try clear hz); intro z1 z2 z3
              simp +zetaDelta only [if_neg z1, if_neg z2, if_neg z3, hz0, Bool.false_eq_true, if_false]
            · exact Side.mk fun _ _ h => h.elim
        · intro h tk u led₁ hJ F N
          refine xE6_6 hJ ?_; (try clear hJ); intro kvs tvs nk nt tl k0 zq9' hoff hD hk ht htb; subst zq9'
          have hyl := hys.length
          have e9 : (List.toArray ys).size = ps.length := by rw [List.size_toArray, hyl]
          rw [e9, List.take_length] at ht
          rw [e9, List.drop_length] at htb
          rw [e9] at hk
          have hc0 : ¬ ((c : Int) = 0) := by assumption
          cases k0 with
          | none => exact absurd hk.2 (by omega)
          | some k =>
            refine xE0_4 hk ?_; (try clear hk); intro zq10' hkl hda hks; refine xE2_1 zq10' ?_; clear zq10'; intro tk0 r zq11'; subst zq11'
            (repeat' (first | ((with_reducible first | refine nextN ?_ | refine nextR ?_); (try dsimp only)) | (k_unfold; (try dsimp only)) | (k_end; kc_close) | ((with_reducible first | show wpAny _ _ (exec _ _) _ _ _ | show wpAny _ _ (eval (Expr.Call ..) _) _ _ _ | show wpAny _ _ (eval (Expr.BinOp ..) _) _ _ _ | show wpAny _ _ (eval (Expr.Subscript ..) _) _ _ _ | show wpAny _ _ (eval (Expr.List ..) _) _ _ _ | show wpAny _ _ (eval (Expr.Tuple ..) _) _ _ _); (fail_if_success (fail_if_success k_fold)); refine (let qk := _; (?_ : wpAny _ _ _ qk _ _))) | ((with_reducible refine execsN ?_); (try k_gentoks)) | ((with_reducible refine args_cons ?_ ?he); (case he => exact rfl)) | ((with_reducible show wpAny _ _ (subscriptTail (Expr.Name ..) (Expr.Constant ..) (Value.ref _) (Value.int ..)) _ _ _); (k_here; k_dflt (refine item_head (News.isList (by k_asm) (by k_mem)) ?_))) | walk1 | (dsimp only; walk1) | (dsimp only [mA]; walk1) | (dsimp only [mE]; walk1) | (dsimp only [mA, mE]; walk1) | (leave1; (try dsimp only))))
            rename News _ _ _ _ => N9
            refine xE0_2 (look_made (by assumption) N9 (by k_mem) (by k_mem) (by k_mem) (ht.mono fun q hq => .tail _ (.tail _ (.tail _ (.tail _ hq))))) ?_; intro hM8 hL8
            refine ends_ret (by assumption) (by assumption) (P := _) ?_
            exact xI6_6 _ k _ _ _ ps hM8 hL8 hks (fun e => by rw [e] at hlen; simp only [List.length_nil] at hlen; omega) (by omega) ((andE_ok hu1).trans ((andE_ok hu2).trans ((andE_ok hu3).trans ((if_neg (by assumption)).trans ((andE_ok (by rw [Int.toNat_natCast]; exact hpl)).trans ((andE_ok hmB).trans ((andE_ok htb).trans rfl)))))))
  · exact Side.mk fun what pl h => (andE_ok (by assumption)).trans ((andE_ok (by assumption)).trans (andE_err h))
  · exact Side.mk fun what pl h => (andE_ok (by assumption)).trans (andE_err h)
  · exact Side.mk fun what pl h => andE_err h
end
section
open PySem.Calls
def Kept (fp : List (Addr × Obj)) (h' : Heap) : Prop := ∀ q ∈ fp, h'.get? q.1 = some q.2
theorem Kept.of {g h : Heap} {L : Addr} {news fp : List (Addr × Obj)} (N : News g L h news) (hs : ∀ p ∈ fp, p ∈ news) : Kept fp h := fun q hq => (N q (hs q hq)).1
theorem news_kept {g h h' : Heap} {L : Addr} {led fp : List (Addr × Obj)} (N : News g L h led) (hb : Back (fp.map (·.1)) h h') (hk : Kept fp h') (hf : ∀ q ∈ fp, h.get? q.1 = some q.2) : News g L h' led := fun p hp => by
  refine ⟨?_, (N p hp).2⟩
  by_cases hm : p.1 ∈ fp.map (·.1)
  · refine xE1_2 (List.mem_map.mp hm) ?_; intro q hq e
    have e1 := hf q hq
    have e2 := (N p hp).1
    rw [e, e2] at e1
    have := hk q hq
    rw [e, ← Option.some.inj e1] at this
    exact this
  · exact hb.keep _ _ (N p hp).1 hm
theorem news_cls {g h : Heap} {L : Addr} {news : List (Addr × Obj)} {p q : Addr × Obj} (N : News g L h news) (hp : p ∈ news) (hq : q ∈ news) (hc : p.2.cls = .type "tuple") (hc' : q.2.cls ≠ .type "tuple") : p.1 ≠ q.1 := fun e => by
  have e1 := (N p hp).1
  have e2 := (N q hq).1
  rw [e, e2] at e1
  exact hc' (by rw [Option.some.inj e1]; exact hc)
def NoTup (fp : List (Addr × Obj)) : Prop := ∀ q ∈ fp, q.2.cls ≠ .type "tuple"
def Tups (tl : List (Addr × Obj)) : Prop := ∀ q ∈ tl, q.2.cls = .type "tuple"
theorem Made.ofF {s g h : Heap} {L : Addr} {news tl fp : List (Addr × Obj)} (hgk : ∀ b o, s.get? b = some o → b ∉ fp.map (·.1) → g.get? b = some o) (N : News g L h news) (hs : ∀ p ∈ tl, p ∈ news) (hf : ∀ p ∈ fp, p ∈ news) (hc : Tups tl) (hc' : NoTup fp) : Made s h tl :=
  fun p hp => ⟨N.get (hs _ hp), fresh_of (fp := fp) hgk N (hs _ hp) fun hm => by
    refine xE1_2 (List.mem_map.mp hm) ?_; intro q hq e
    exact news_cls N (hs _ hp) (hf _ hq) (hc _ hp) (hc' _ hq) e.symm⟩
theorem ints_dat {tl : List (Addr × Obj)} {vs : List Value} {ns : List Int} (h : IntsAre vs ns) : DatAll tl vs (ns.map .int) := by
  induction h with
  | nil => exact .nil
  | cons n t _ ih => exact .cons (.int n t) ih
theorem tups2 {a b : Addr × Obj} (h1 : a.2.cls = .type "tuple") (h2 : b.2.cls = .type "tuple") : Tups [a, b] := List.forall_mem_cons.mpr ⟨h1, List.forall_mem_cons.mpr ⟨h2, fun _ h => nomatch h⟩⟩
theorem notup3 {a b c : Addr × Obj} (h1 : a.2.cls ≠ .type "tuple") (h2 : b.2.cls ≠ .type "tuple") (h3 : c.2.cls ≠ .type "tuple") : NoTup [a, b, c] := List.forall_mem_cons.mpr ⟨h1, List.forall_mem_cons.mpr ⟨h2, List.forall_mem_cons.mpr ⟨h3, fun _ h => nomatch h⟩⟩⟩
theorem mem2 {α : Type} {a b : α} {l : List α} (h1 : a ∈ l) (h2 : b ∈ l) : ∀ p ∈ [a, b], p ∈ l := List.forall_mem_cons.mpr ⟨h1, List.forall_mem_cons.mpr ⟨h2, fun _ h => nomatch h⟩⟩
noncomputable abbrev langFp (x dx lx : Addr) (k1 k2 : Int) (t1 t2 t3 : Tok) (r : Int) (its : List Value) (c : Nat) : List (Addr × Obj) := [(x, instObj 215 dx), (dx, langD k1 k2 t1 t2 t3 r lx), (lx, listOf its.toArray c)]
theorem langFp_no {x dx lx : Addr} {k1 k2 : Int} {t1 t2 t3 : Tok} {r : Int} {its : List Value} {c : Nat} : NoTup (langFp x dx lx k1 k2 t1 t2 t3 r its c) := notup3 (fun h => nomatch h) (by show (Value.type "dict") ≠ Value.type "tuple"; simp) (by show (Value.type "list") ≠ Value.type "tuple"; simp)
noncomputable def langDat (r : Int) (fs : List Int) : Dat := .tuple [.int r, .tuple (fs.map .int)]
theorem lang_told {w : World} {x dx lx : Addr} {its : List Value} {c : Nat} {k1 k2 r : Int} {t1 t2 t3 : Tok} {fs : List Int} (hi : IntsAre its fs) (hz : its.toArray.size ≤ sizeLine) :
    Spec w 212 820 820 [.ref x] (langFp x dx lx k1 k2 t1 t2 t3 r its c)
      (fun h h' v => ∃ tl, Made h h' tl ∧ Tups tl ∧ Kept (langFp x dx lx k1 k2 t1 t2 t3 r its c) h' ∧ DatIn tl v (langDat r fs)) (fun _ _ => False) := by
  ((refine' enter ?ho ?hcd ?hD ?hb ?hl ?_ ?hc ?c1 ?c2 ?c3; (case ho => exact rfl); (case hcd => exact rfl); (case hD => decide); (case hb => exact fun s'r X'r => BindsTo.of_eq rfl); (case hl => exact locs rfl); (case hc => decide); (case c1 => exact rfl); (case c2 => exact rfl); (case c3 => exact rfl); intro p'r loose'r mean'r mg'r mb'r gd'r l'r s'r Q'r E'r g'r L'r h₁'r F'r N'r B'r X'r T'r hL'r hgk'r hgs'r hfp'r hX'r; (try (refine (let mk := _; (fun (FK : Fr _ _ _ mk) => ?_) F'r); clear F'r)); revert X'r; k_fill; intro X'r; (try dsimp only); (try (refine (let mA := _; let mE := _; (?_ : wpAny _ mA (execs _ mE) _ _ _)))); k_fold))
  (repeat' (first | ((with_reducible first | refine nextN ?_ | refine nextR ?_); (try dsimp only)) | (k_unfold; (try dsimp only)) | (k_end; kc_close) | ((with_reducible first | show wpAny _ _ (exec _ _) _ _ _ | show wpAny _ _ (eval (Expr.Call ..) _) _ _ _ | show wpAny _ _ (eval (Expr.BinOp ..) _) _ _ _ | show wpAny _ _ (eval (Expr.Subscript ..) _) _ _ _ | show wpAny _ _ (eval (Expr.List ..) _) _ _ _ | show wpAny _ _ (eval (Expr.Tuple ..) _) _ _ _); (fail_if_success (fail_if_success k_fold)); refine (let qk := _; (?_ : wpAny _ _ _ qk _ _))) | ((with_reducible refine execsN ?_); (try k_gentoks)) | ((with_reducible refine args_cons ?_ ?he); (case he => exact rfl)) | walk1 | (dsimp only; walk1) | (dsimp only [mA]; walk1) | (dsimp only [mE]; walk1) | (dsimp only [mA, mE]; walk1) | (leave1; (try dsimp only))))
  (try k_unfold)
  (try dsimp only)
  rename News _ _ _ _ => N9
  refine ends_ret (by assumption) (by assumption) (P := _) ?_
  exact ⟨[_, _], Made.ofF (by assumption) N9 (mem2 (.head _) (.tail _ (.head _))) (mem3 (by k_mem) (by k_mem) (by k_mem)) (tups2 rfl rfl) langFp_no, tups2 rfl rfl, Kept.of N9 (mem3 (by k_mem) (by k_mem) (by k_mem)),
    .tuple (vs := [_, _]) (.head _) (.cons (.int _ _) (.cons (.tuple (.tail _ (.head _)) (ints_dat hi)) .nil))⟩
end
section
open PySem.Calls
noncomputable abbrev featFp (x dx lx : Addr) (k1 k2 : Int) (t1 t2 t3 : Tok) (tag : Str) (its : List Value) (c : Nat) : List (Addr × Obj) := [(x, instObj 269 dx), (dx, featD k1 k2 t1 t2 t3 tag lx), (lx, listOf its.toArray c)]
theorem featFp_no {x dx lx : Addr} {k1 k2 : Int} {t1 t2 t3 : Tok} {tag : Str} {its : List Value} {c : Nat} : NoTup (featFp x dx lx k1 k2 t1 t2 t3 tag its c) := notup3 (fun h => nomatch h) (by show (Value.type "dict") ≠ Value.type "tuple"; simp) (by show (Value.type "list") ≠ Value.type "tuple"; simp)
noncomputable def featDat (tag : Str) (fs : List Int) : Dat := .tuple [.str tag, .tuple (fs.map .int)]
theorem feat_told {w : World} {x dx lx : Addr} {its : List Value} {c : Nat} {k1 k2 : Int} {t1 t2 t3 : Tok} {tag : Str} {fs : List Int} (hi : IntsAre its fs) (hz : its.toArray.size ≤ sizeLine) :
    Spec w 266 820 820 [.ref x] (featFp x dx lx k1 k2 t1 t2 t3 tag its c)
      (fun h h' v => ∃ tl, Made h h' tl ∧ Tups tl ∧ Kept (featFp x dx lx k1 k2 t1 t2 t3 tag its c) h' ∧ DatIn tl v (featDat tag fs)) (fun _ _ => False) := by
  ((refine' enter ?ho ?hcd ?hD ?hb ?hl ?_ ?hc ?c1 ?c2 ?c3; (case ho => exact rfl); (case hcd => exact rfl); (case hD => decide); (case hb => exact fun s'r X'r => BindsTo.of_eq rfl); (case hl => exact locs rfl); (case hc => decide); (case c1 => exact rfl); (case c2 => exact rfl); (case c3 => exact rfl); intro p'r loose'r mean'r mg'r mb'r gd'r l'r s'r Q'r E'r g'r L'r h₁'r F'r N'r B'r X'r T'r hL'r hgk'r hgs'r hfp'r hX'r; (try (refine (let mk := _; (fun (FK : Fr _ _ _ mk) => ?_) F'r); clear F'r)); revert X'r; k_fill; intro X'r; (try dsimp only); (try (refine (let mA := _; let mE := _; (?_ : wpAny _ mA (execs _ mE) _ _ _)))); k_fold))
  (repeat' (first | ((with_reducible first | refine nextN ?_ | refine nextR ?_); (try dsimp only)) | (k_unfold; (try dsimp only)) | (k_end; kc_close) | ((with_reducible first | show wpAny _ _ (exec _ _) _ _ _ | show wpAny _ _ (eval (Expr.Call ..) _) _ _ _ | show wpAny _ _ (eval (Expr.BinOp ..) _) _ _ _ | show wpAny _ _ (eval (Expr.Subscript ..) _) _ _ _ | show wpAny _ _ (eval (Expr.List ..) _) _ _ _ | show wpAny _ _ (eval (Expr.Tuple ..) _) _ _ _); (fail_if_success (fail_if_success k_fold)); refine (let qk := _; (?_ : wpAny _ _ _ qk _ _))) | ((with_reducible refine execsN ?_); (try k_gentoks)) | ((with_reducible refine args_cons ?_ ?he); (case he => exact rfl)) | walk1 | (dsimp only; walk1) | (dsimp only [mA]; walk1) | (dsimp only [mE]; walk1) | (dsimp only [mA, mE]; walk1) | (leave1; (try dsimp only))))
  (try k_unfold)
  (try dsimp only)
  rename News _ _ _ _ => N9
  refine ends_ret (by assumption) (by assumption) (P := _) ?_
  exact ⟨[_, _], Made.ofF (by assumption) N9 (mem2 (.head _) (.tail _ (.head _))) (mem3 (by k_mem) (by k_mem) (by k_mem)) (tups2 rfl rfl) featFp_no, tups2 rfl rfl, Kept.of N9 (mem3 (by k_mem) (by k_mem) (by k_mem)),
    .tuple (vs := [_, _]) (.head _) (.cons (.str _ _) (.cons (.tuple (.tail _ (.head _)) (ints_dat hi)) .nil))⟩
end
section
open PySem.Calls
noncomputable def heldB (flag ms : Int) : Int := if Builtin.bitAnd flag 16 = 0 then -1 else ms
noncomputable def lookDat (kind : Str) (flag ms : Int) (ts : List (Int × List Int)) : Dat := .tuple [.str kind, .int flag, .int (heldB flag ms), .tuple (ts.map fun x => langDat x.1 x.2)]
structure IntAt (val : Int) (led : List (Addr × Obj)) : Prop where
  ok : True
structure IntMid (g : Heap) (L : Addr) (m : Str → Option Value) (val : Int) (led : List (Addr × Obj)) (s : Shared) (v : Value) (s' : Shared) : Prop where
  out : ∃ h tk t, s' = { s with heap := h, toks := tk } ∧ Fr g L h m ∧ News g L h led ∧ v = .int val t
theorem ifexp_int {prog : Program} {w : World} {A : Around} {E : Value → Shared → Prop} {s : Shared} {g : Heap} {L : Addr} {m : Str → Option Value} {led : List (Addr × Obj)} {val : Int} {Q : Value → Shared → Prop} {env : Env} {test body orelse : Expr} {pos : Pos} (_F : Fr g L s.heap m) (_hu : IntAt val led)
    (h1 : wpAny (model prog w) A (isTrue test env (eval test env)) (fun c s₂ => if c then wpAny (model prog w) A (eval body env) (IntMid g L m val led s) E s₂ else wpAny (model prog w) A (eval orelse env) (IntMid g L m val led s) E s₂) E s)
    (h2 : ∀ h tk t, Fr g L h m → News g L h led → Q (.int val t) { s with heap := h, toks := tk }) : wpAny (model prog w) A (eval (.IfExp test body orelse pos) env) Q E s :=
  wpAny_mono (IfExp_ h1) (fun v s' q => by
    refine xE3_4 (q.out) ?_; intro h tk t zq1' F N zq2'; subst zq1'; subst zq2'
    exact h2 h tk t F N) fun _ _ e => e
theorem int_here {g h : Heap} {L : Addr} {m : Str → Option Value} {val v : Int} {led led' : List (Addr × Obj)} {s : Shared} {tk : Nat} {t : Tok} (F : Fr g L h m) (N : News g L h led') (hs : ∀ p ∈ led, p ∈ led') (hv : v = val) : IntMid g L m val led s (.int v t) { s with heap := h, toks := tk } :=
  by exact ⟨h, tk, t, rfl, F, fun p hp => N p (hs p hp), by rw [hv]⟩
theorem growK {g h₁ h₂ : Heap} {L : Addr} {m : Str → Option Value} {e1 e2 e3 : Addr × Obj} {fp tl tl2 : List (Addr × Obj)} (M : Made h₁ h₂ tl2) (F : Fr g L h₁ m) (N₁ : News g L h₁ (e1 :: e2 :: e3 :: tl)) (hk : Kept fp h₂) (hb : Back (fp.map (·.1)) h₁ h₂) (hs : ∀ p ∈ fp, p ∈ tl) (O : OwnOff tl [e1.1, e2.1, e3.1]) :
    ∃ tl9, (∀ p ∈ tl, p ∈ tl9) ∧ (∀ p ∈ tl2, p ∈ tl9) ∧ OwnOff tl9 [e1.1, e2.1, e3.1] ∧ News g L h₂ (e1 :: e2 :: e3 :: tl9) :=
  grow3 M F N₁ (news_kept N₁ hb hk fun q hq => (N₁ q (.tail _ (.tail _ (.tail _ (hs q hq))))).1) O
theorem news_sub3 {g h : Heap} {L : Addr} {e1 e2 e3 : Addr × Obj} {fp tl : List (Addr × Obj)} (N : News g L h (e1 :: e2 :: e3 :: tl)) (hs : ∀ p ∈ fp, p ∈ tl) : News g L h fp := fun p hp => N p (.tail _ (.tail _ (.tail _ (hs p hp))))
theorem TabsIn.at {tl : List (Addr × Obj)} {vs : List Value} {xs : List (Int × List Int)} (h : TabsIn tl vs xs) : ∀ {i : Nat} {v : Value}, (List.toArray vs)[i]? = some v → ∃ x, xs[i]? = some x ∧ LangIn tl v x.1 x.2 := by
  induction h with
  | nil => intro i v hv; simp at hv
  | cons a r ih =>
    intro i v hv
    cases i with
    | zero => simp only [List.getElem?_toArray, List.getElem?_cons_zero, Option.some.injEq] at hv; subst hv; exact xI1_2 _ rfl a
    | succ i =>
      rw [List.getElem?_toArray, List.getElem?_cons_succ, ← List.getElem?_toArray] at hv
      refine xE1_2 (ih hv) ?_; intro p e hp
      exact xI1_2 p e hp
open LCg in
theorem src_list {prog : Program} {w : World} {A : Around} {h₀ : Heap} {L ax : Addr} {m : Str → Option Value} {env : Env} {elt : Expr} {x : Str} {scope : Scope} {cl : List (Str × Addr)} {Fin : Shared → List Value → List (Addr × Obj) → Prop} {s₁ : Shared} {its : Array Value} {n : Nat} {news : List (Addr × Obj)}
    (hh : A.handled = none) (F : Fr h₀ L s₁.heap m) (N : News h₀ L s₁.heap news) (hm : (ax, listOf its n) ∈ news) (hsz : its.size ≤ sizeLine)
    (h : ∀ g, CompRest prog w A h₀ L m env elt x scope cl { s₁ with heap := g } (SrcAt h₀ ax its) (fun i v => its[i]? = some v) (Fin { s₁ with heap := g }) its.size 0 [] news) :
    CompSrc prog w A h₀ L m env elt x scope cl Fin (.ref ax) s₁ := .inl ⟨ax, its, news, rfl, hh, F, N, .inr ⟨_, hm, rfl, n, rfl⟩, hsz, fun _ ⟨g, e⟩ => e ▸ h g⟩
theorem done_res {s g h : Heap} {L : Addr} {p1 p2 p3 : Addr × Obj} {news tlr fp : List (Addr × Obj)} (hgk : ∀ b o, s.get? b = some o → b ∉ fp.map (·.1) → g.get? b = some o) (N : News g L h (p1 :: p2 :: p3 :: news)) (c1 : p1.2.cls = .type "tuple") (c2 : p2.2.cls = .type "tuple") (hf : ∀ p ∈ fp, p ∈ news) (hno : NoTup fp) (hr : ∀ p ∈ tlr, p ∈ news) (ht : Tups tlr) : Made s h (p1 :: p2 :: tlr) ∧ Tups (p1 :: p2 :: tlr) := by
  have hT : Tups (p1 :: p2 :: tlr) := List.forall_mem_cons.mpr ⟨c1, List.forall_mem_cons.mpr ⟨c2, ht⟩⟩
  refine ⟨Made.ofF hgk N (fun p hp => ?_) (fun p hp => .tail _ (.tail _ (.tail _ (hf p hp)))) hT hno, hT⟩
  rcases List.mem_cons.mp hp with rfl | hp
  · exact .head _
  rcases List.mem_cons.mp hp with rfl | hp
  · exact .tail _ (.head _)
  · exact .tail _ (.tail _ (.tail _ (hr p hp)))
def ResJ (fp : List (Addr × Obj)) (ds : List Dat) (i : Nat) (ys : List Value) (news : List (Addr × Obj)) : Prop :=
  ∃ tlr, (∀ p ∈ fp, p ∈ news) ∧ (∀ p ∈ tlr, p ∈ news) ∧ Tups tlr ∧ DatAll tlr ys (ds.take i)
theorem ResJ.next {fp news tl9 tl2 : List (Addr × Obj)} {ds : List Dat} {i : Nat} {ys : List Value} {v : Value} {d : Dat} (h : ResJ fp ds i ys news) (h1 : ∀ p ∈ news, p ∈ tl9) (h2 : ∀ p ∈ tl2, p ∈ tl9) (ht : Tups tl2) (hd : DatIn tl2 v d) (hi : ds[i]? = some d) : ResJ fp ds (i + 1) (ys ++ [v]) tl9 := by
  refine xE1_4 h ?_; (try clear h); intro tlr a b c e
  refine xI1_4 (tlr ++ tl2) (fun p hp => h1 p (a p hp)) (fun p hp => (List.mem_append.mp hp).elim (fun q => h1 p (b p q)) (h2 p)) (fun p hp => (List.mem_append.mp hp).elim (c p) (ht p)) ?_
  rw [take_snoc hi]
  exact (e.mono fun p hp => List.mem_append_left _ hp).append (.one (hd.mono fun p hp => List.mem_append_right _ hp))
theorem own_of3 {I C D : Addr} {tl : List (Addr × Obj)} (off : LCg.Off3 I C D tl) : OwnOff tl [I, C, D] := fun p hp q hq => by
  have := off.mem p hp
  simp only [List.mem_cons, List.not_mem_nil, or_false] at hq
  rcases hq with rfl | rfl | rfl
  · exact this.1
  · exact this.2.1
  · exact this.2.2
theorem off3_of {I C D : Addr} {tl : List (Addr × Obj)} (O : OwnOff tl [I, C, D]) : LCg.Off3 I C D tl := LCg.Off3.of fun p hp => ⟨O p hp _ (.head _), O p hp _ (.tail _ (.head _)), O p hp _ (.tail _ (.tail _ (.head _)))⟩
theorem news_add {g h : Heap} {L : Addr} {e1 e2 e3 : Addr × Obj} {fp tl : List (Addr × Obj)} (N : News g L h (e1 :: e2 :: e3 :: tl)) (hs : ∀ p ∈ fp, p ∈ tl) : News g L h (e1 :: e2 :: e3 :: (fp ++ tl)) := fun p hp => by
  rcases List.mem_cons.mp hp with rfl | hp
  · exact N _ (.head _)
  rcases List.mem_cons.mp hp with rfl | hp
  · exact N _ (.tail _ (.head _))
  rcases List.mem_cons.mp hp with rfl | hp
  · exact N _ (.tail _ (.tail _ (.head _)))
  rcases List.mem_append.mp hp with hp | hp
  · exact N _ (.tail _ (.tail _ (.tail _ (hs p hp))))
  · exact N _ (.tail _ (.tail _ (.tail _ hp)))
theorem own_add {fp tl : List (Addr × Obj)} {adr : List Addr} (O : OwnOff tl adr) (hs : ∀ p ∈ fp, p ∈ tl) : OwnOff (fp ++ tl) adr := fun p hp => (List.mem_append.mp hp).elim (fun q => O p (hs p q)) (O p)
theorem look_told {w : World} {x dx lt : Addr} {tvs : List Value} {n : Nat} {k1 k2 k3 k4 flag ms : Int} {t1 t2 t3 t4 t5 t6 t7 : Tok} {kind : Str} {tl0 : List (Addr × Obj)} {ts : List (Int × List Int)} (ht : TabsIn tl0 tvs ts) (hlen : ∀ x ∈ ts, x.2.length ≤ 1000) (hz : tvs.toArray.size ≤ sizeLine) (hno : NoTup tl0) :
    Spec w 82 800 800 [.ref x] ((x, instObj 85 dx) :: (dx, lookD k1 k2 k3 k4 t1 t2 t3 t4 t5 t6 t7 kind flag ms lt) :: (lt, listOf (List.toArray tvs) n) :: tl0)
      (fun h h' v => ∃ tl, Made h h' tl ∧ Tups tl ∧ DatIn tl v (lookDat kind flag ms ts)) (fun _ _ => False) := by
  have hat : IntAt (heldB flag ms) ((x, instObj 85 dx) :: (dx, lookD k1 k2 k3 k4 t1 t2 t3 t4 t5 t6 t7 kind flag ms lt) :: (lt, listOf (List.toArray tvs) n) :: tl0) := ⟨trivial⟩
  ((refine' enter ?ho ?hcd ?hD ?hb ?hl ?_ ?hc ?c1 ?c2 ?c3; (case ho => exact rfl); (case hcd => exact rfl); (case hD => decide); (case hb => exact fun s'r X'r => BindsTo.of_eq rfl); (case hl => exact locs rfl); (case hc => decide); (case c1 => exact rfl); (case c2 => exact rfl); (case c3 => exact rfl); intro p'r loose'r mean'r mg'r mb'r gd'r l'r s'r Q'r E'r g'r L'r h₁'r F'r N'r B'r X'r T'r hL'r hgk'r hgs'r hfp'r hX'r; (try (refine (let mk := _; (fun (FK : Fr _ _ _ mk) => ?_) F'r); clear F'r)); revert X'r; k_fill; intro X'r; (try dsimp only); (try (refine (let mA := _; let mE := _; (?_ : wpAny _ mA (execs _ mE) _ _ _)))); k_fold))
  (repeat' (first | ((with_reducible first | refine nextN ?_ | refine nextR ?_); (try dsimp only)) | (k_unfold; (try dsimp only)) | (k_end; kc_close) | ((with_reducible first | show wpAny _ _ (exec _ _) _ _ _ | show wpAny _ _ (eval (Expr.Call ..) _) _ _ _ | show wpAny _ _ (eval (Expr.BinOp ..) _) _ _ _ | show wpAny _ _ (eval (Expr.Subscript ..) _) _ _ _ | show wpAny _ _ (eval (Expr.List ..) _) _ _ _ | show wpAny _ _ (eval (Expr.Tuple ..) _) _ _ _); (fail_if_success (fail_if_success k_fold)); refine (let qk := _; (?_ : wpAny _ _ _ qk _ _))) | ((with_reducible refine execsN ?_); (try k_gentoks)) | ((with_reducible refine args_cons ?_ ?he); (case he => exact rfl)) | ((with_reducible show wpAny _ _ (eval (Expr.IfExp ..) _) _ _ _); (k_here; k_dflt (refine ifexp_int (by k_asm) (by assumption) ?_ ?_); rotate_left; intro h'r tk'r t'r F'r N'r; (try k_sweep); rotate_right)) | ((with_reducible show wpAny _ _ (eval (Expr.ListComp ..) _) _ _ _); (k_here; k_dflt (refine comp_held (by k_asm) (by with_unfolding_all rfl) (by decide) (by rfl) (by decide) (by rfl) ?_))) | ((with_reducible show wpAny _ _ (storeName _ _ _) _ _ _); (k_here; k_dflt (refine' storeX_L ?sF ?sN ?_ rfl rfl; (case sF => k_asm); (case sN => k_asm); k_whole; intro hS FS NS; (try k_sweep); refine (let mk := _; (fun (FK : Fr _ _ _ mk) => ?_) FS); clear FS))) | walk1 | (dsimp only; walk1) | (dsimp only [mA]; walk1) | (dsimp only [mE]; walk1) | (dsimp only [mA, mE]; walk1) | (leave1; (try dsimp only))))
  · refine int_here (by assumption) (by assumption) (fun _ h => h) (if_neg (by assumption)).symm
  · refine int_here (by assumption) (by assumption) (fun _ h => h) (if_pos (by assumption)).symm
  · rename News _ _ _ _ => N9
    rename Fr _ _ _ _ => F9
    refine Side.mk (src_list (by rfl) F9 N9 (by k_mem) hz fun g' => ?_)
    refine comp_turns (ResJ ((x, instObj 85 dx) :: (dx, lookD k1 k2 k3 k4 t1 t2 t3 t4 t5 t6 t7 kind flag ms lt) :: (lt, listOf (List.toArray tvs) n) :: tl0) (ts.map fun x => langDat x.1 x.2)) ?_ ?_ _ 0 [] _ (Nat.zero_add _) ⟨[], fun _ h => h, (fun _ h => nomatch h), (fun _ h => nomatch h), .nil⟩
    · intro i v ys news I oI C oC D m₂ h tk E' hi hv hJ hC hx F N off ne
      refine xE1_2 (ht.at hv) ?_; intro q hqi zq3'; refine xE10_5 zq3' ?_; clear zq3'; intro x' dx' lx' its' c' q1 q2 u1 u2 u3 zq4' m1 m2 m3 hi'; subst zq4'
      have hfp : ∀ p ∈ langFp x' dx' lx' q1 q2 u1 u2 u3 q.1 its' c', p ∈ news := by
        refine xE1_2 hJ ?_; (try clear hJ); intro tlr a _
        exact fun p hp => a p (.tail _ (.tail _ (.tail _ (mem3 m1 m2 m3 p hp))))
      have hz' : its'.toArray.size ≤ sizeLine := by
        have h1 := hi'.length
        have h2 := hlen q (List.mem_of_getElem? hqi)
        rw [List.size_toArray, sizeLine_eq]; omega
      have hO := own_add (own_of3 off) hfp
      have N := news_add N hfp
      have hfp2 : ∀ p ∈ langFp x' dx' lx' q1 q2 u1 u2 u3 q.1 its' c', p ∈ langFp x' dx' lx' q1 q2 u1 u2 u3 q.1 its' c' ++ news := fun p hp => List.mem_append_left _ hp
      have hfp1 : ∀ p ∈ news, p ∈ langFp x' dx' lx' q1 q2 u1 u2 u3 q.1 its' c' ++ news := fun p hp => List.mem_append_right _ hp
      simp only [langFp, List.cons_append, List.nil_append] at N hO hfp1 hfp2
      clear off hfp
      (repeat' (first | ((with_reducible first | refine nextN ?_ | refine nextR ?_); (try dsimp only)) | (k_unfold; (try dsimp only)) | (k_end; kc_close) | ((with_reducible first | show wpAny _ _ (exec _ _) _ _ _ | show wpAny _ _ (eval (Expr.Call ..) _) _ _ _ | show wpAny _ _ (eval (Expr.BinOp ..) _) _ _ _ | show wpAny _ _ (eval (Expr.Subscript ..) _) _ _ _ | show wpAny _ _ (eval (Expr.List ..) _) _ _ _ | show wpAny _ _ (eval (Expr.Tuple ..) _) _ _ _); (fail_if_success (fail_if_success k_fold)); refine (let qk := _; (?_ : wpAny _ _ _ qk _ _))) | ((with_reducible refine execsN ?_); (try k_gentoks)) | ((with_reducible refine args_cons ?_ ?he); (case he => exact rfl)) | ((with_reducible show wpAny _ _ (call (Value.ref _) _ _) _ _ _); (k_here; (try ((fail_if_success (fail_if_success k_fold)); refine (let qk := _; (?_ : wpAny _ _ _ qk _ _)))); k_dflt (refine' Spec.calm (lang_told (by assumption) (by assumption)) ?B ?F ?X ?T rfl rfl rfl rfl (Nat.le_of_ble_eq_true rfl) (Nat.le_of_ble_eq_true rfl) ?N ?hR ?_; ((case B => assumption); (case F => k_asm); (case X => k_asm); (case T => k_asm)); (case N => exact news_sub3 (by assumption) (by assumption)); (case hR => exact fun _ _ h => h); intro v'r h'r tk'r F'r hb'r hP'r; (try simp only [List.map_cons, List.map_nil] at hb'r); refine xE1_4 hP'r ?_; clear hP'r; intro tl'r hM'r hT'r hK'r hD'r; (rename News _ _ _ _ => N8'r); (refine xE1_4 (growK hM'r (by assumption) N8'r hK'r hb'r (by assumption) (by assumption)) ?_; intro tl9'r hs1'r hs2'r O'r N'r); (clear N8'r); (try k_sweep)))) | walk1 | (dsimp only; walk1) | (dsimp only [mA]; walk1) | (dsimp only [mE]; walk1) | (dsimp only [mA, mE]; walk1) | (leave1; (try dsimp only))))
      rename News _ _ _ _ => N9
      rename OwnOff _ _ => hO9
      rename Tups _ => hT9
      rename DatIn _ _ _ => hD9
      have ha := hJ
      refine xE1_2 ha ?_; (try clear ha); intro tlr ha _
      exact ⟨_, _, _, rfl, by assumption, N9, off3_of hO9, .inr ⟨_, (by assumption : ∀ p ∈ _, p ∈ _) _ (hfp1 _ (ha _ (.tail _ (.tail _ (.head _))))), rfl, n, rfl⟩,
        ResJ.next hJ (fun p hp => (by assumption : ∀ p ∈ _, p ∈ _) p (hfp1 p hp)) (by assumption) hT9 hD9 (by rw [List.getElem?_map, hqi]; rfl)⟩
    · intro ys news hJ
      refine xE1_4 hJ ?_; (try clear hJ); intro tlr ha hb9 hc9 hd9
      intro D h tk F N o1
      have hz9 : ys.length ≤ sizeLine := by
        have h1 := hd9.length
        have h2 : tvs.length ≤ sizeLine := hz
        rw [List.length_take, List.size_toArray] at h1
        omega
      (repeat' (first | ((with_reducible first | refine nextN ?_ | refine nextR ?_); (try dsimp only)) | (k_unfold; (try dsimp only)) | (k_end; kc_close) | ((with_reducible first | show wpAny _ _ (exec _ _) _ _ _ | show wpAny _ _ (eval (Expr.Call ..) _) _ _ _ | show wpAny _ _ (eval (Expr.BinOp ..) _) _ _ _ | show wpAny _ _ (eval (Expr.Subscript ..) _) _ _ _ | show wpAny _ _ (eval (Expr.List ..) _) _ _ _ | show wpAny _ _ (eval (Expr.Tuple ..) _) _ _ _); (fail_if_success (fail_if_success k_fold)); refine (let qk := _; (?_ : wpAny _ _ _ qk _ _))) | ((with_reducible refine execsN ?_); (try k_gentoks)) | ((with_reducible refine args_cons ?_ ?he); (case he => exact rfl)) | ((with_reducible show wpAny _ _ (call (Value.type "tuple") _ _) _ _ _); (k_here; (with_reducible show wpAny _ _ (call (Value.type _) [Value.ref _]) _ _ _); k_dflt (refine' tuple_ofL ?F ?N ?hl ?_ ?z; (case F => k_asm); (case N => k_asm); (case hl => exact News.isList (by k_asm) (by k_mem)); (case z => assumption)); intro D'r h'r F'r N'r a'r)) | walk1 | (dsimp only; walk1) | (dsimp only [mA]; walk1) | (dsimp only [mE]; walk1) | (dsimp only [mA, mE]; walk1) | (leave1; (try dsimp only))))
      (try k_unfold)
      (try dsimp only)
      rename News _ _ _ _ => N9
      have hsz9 : (List.toArray tvs).size = (ts.map fun x => langDat x.1 x.2).length := by rw [List.size_toArray, ht.length, List.length_map]
      rw [hsz9, List.take_length] at hd9
      refine ends_ret (by assumption) (by assumption) (P := _) ?_
      refine xE0_2 (done_res (by assumption) N9 rfl rfl ha (List.forall_mem_cons.mpr ⟨fun h => (nomatch h), List.forall_mem_cons.mpr ⟨(by show (Value.type "dict") ≠ Value.type "tuple"; simp), List.forall_mem_cons.mpr ⟨(by show (Value.type "list") ≠ Value.type "tuple"; simp), hno⟩⟩⟩) hb9 hc9) ?_; intro hM8 hT8
      exact xI1_3 _ hM8 hT8 (.tuple (vs := [_, _, _, _]) (.head _) (.cons (.str _ _) (.cons (.int _ _) (.cons (.int _ _) (.cons (.tuple (.tail _ (.head _)) (hd9.mono fun p hp => .tail _ (.tail _ hp))) .nil)))))
end
section
open PySem.Calls
theorem risingS_all : ∀ {l : List Str} {p : Str}, risingS p l = true → ∀ x ∈ l, p.cps.toList ≤ x.cps.toList
  | [], _, _, _, hx => nomatch hx
  | y :: r, p, h, x, hx => by
    have h : (!PySem.Spec.ltCps y.cps.toList p.cps.toList && risingS y r) = true := h
    rw [Bool.and_eq_true, Bool.not_eq_true', ltCps_eq, decide_eq_false_iff_not] at h
    have h1 : p.cps.toList ≤ y.cps.toList := h.1
    rcases List.mem_cons.mp hx with rfl | hx
    · exact h1
    · exact List.le_trans h1 (risingS_all h.2 x hx)
theorem risingS_tail : ∀ {l : List Str} {p : Str}, risingS p l = true → sortedS l = true
  | [], _, _ => rfl
  | y :: r, p, h => by
    have h : (!PySem.Spec.ltCps y.cps.toList p.cps.toList && risingS y r) = true := h
    rw [Bool.and_eq_true] at h
    exact h.2
theorem sorted_same : ∀ {a b : List Str}, a.Perm b → sortedS a = true → Asc b → a = b
  | [], b, p, _, _ => by rw [p.nil_eq]
  | x :: r, b, p, ha, hb => by
    cases b with
    | nil => exact absurd p.length_eq (by simp)
    | cons y t =>
      have hx : x ∈ y :: t := p.mem_iff.mp (.head _)
      have hy : y ∈ x :: r := p.mem_iff.mpr (.head _)
      have e : x = y := by
        rcases List.mem_cons.mp hx with h | h
        · exact h
        · rcases List.mem_cons.mp hy with h' | h'
          · exact h'.symm
          · have a1 := risingS_all (p := x) ha y h'
            have a2 : strLt y x := (List.pairwise_cons.mp hb).1 x h
            exact absurd a2 a1
      subst e
      rw [sorted_same (List.Perm.cons_inv p) (risingS_tail (p := x) ha) (List.pairwise_cons.mp hb).2]
section
variable {prog : Program} {w : World} {A : Around} {E : Value → Shared → Prop} {s : Shared} {g : Heap} {L D : Addr} {m : Str → Option Value} {news : List (Addr × Obj)} {n : Nat} {vs : List Value} {ss : List Str}
theorem strs_sort {Q : Value → Shared → Prop} (F : Fr g L s.heap m) (N : News g L s.heap ((D, listOf vs.toArray n) :: news)) (off : ∀ p ∈ news, p.1 ≠ D) (hS : StrsAre vs ss) (h64 : vs.length < 64) (hasc : Asc ss)
    (h : ∀ vs' h' n', StrsAre vs' ss → Fr g L h' m → News g L h' ((D, listOf vs'.toArray n') :: news) → Q .none { s with heap := h' }) : wpAny (model prog w) A (call (.builtin "list.sort") [.ref D]) Q E s := by
  have z := N (D, listOf vs.toArray n) (.head _)
  refine wpAny_call_entry PyProof.Rows.slot_list_sort ⟨_, z.1, rfl⟩ PyProof.Rows.entry_list_sort (list_sort_treeK strKind_oneLt (n := n) (vs := vs) z.1 hS.keysOf (fun v₁ v₂ rest e => keyKind_strs (by rw [← e]; exact hS)) h64 fun st' hp hs => ⟨.none, rfl, ?_⟩) (PyProof.Rows.args_list_sort _)
  refine xE1_3 (sorted_out_str hS hp hs) ?_; intro ss' h1 h2 h3
  obtain rfl := sorted_same h2 h3 hasc
  generalize (arrOf st').map (·.2) = out at h1
  have F1 : Fr g L (s.heap.update D (Obj.mapSeq fun _ => (#[] : Array Value))) m := F.change (Heap.SameBut.update ..) z.2.1 z.2.2
  have N1 := ki_turn (pre := []) (fun _ => (#[] : Array Value)) (its' := #[]) N (fun _ h => nomatch h) off rfl rfl
  have N2 := News.grown N1 fun _ _ e => Heap.get?_push_of_some (seqObj "tuple" vs.toArray 0) e
  have N3 := News.grown N2 fun _ _ e => Heap.get?_push_of_some (seqObj "list" #[] 0) e
  have N4 := ki_turn (pre := []) (fun _ => out) (its' := out) N3 (fun _ h => nomatch h) off rfl rfl
  have F4 : Fr g L ((((s.heap.update D (Obj.mapSeq fun _ => (#[] : Array Value))).push (seqObj "tuple" vs.toArray 0)).push (seqObj "list" #[] 0)).update D (Obj.mapSeq fun _ => out)) m :=
    ((F1.push (seqObj "tuple" vs.toArray 0)).push (seqObj "list" #[] 0)).change (Heap.SameBut.update ..) z.2.1 z.2.2
  rw [← Array.toArray_toList (xs := out)] at N4
  exact h out.toList _ _ h1 (by rw [Array.toArray_toList] at *; exact F4) N4
theorem strs_of : ∀ {vs : List Value} {ss : List Str}, vs.length = ss.length → (∀ (j : Nat) (v : Value), vs[j]? = some v → ∃ k t, ss[j]? = some k ∧ v = .str k t) → StrsAre vs ss
  | [], [], _, _ => .nil
  | [], _ :: _, h, _ => nomatch h
  | _ :: _, [], h, _ => nomatch h
  | v :: vs, k :: ss, h, hf => by
    refine xE2_2 (hf 0 v rfl) ?_; intro k' t e zq1'; subst zq1'
    cases e
    exact .cons k t (strs_of (Nat.succ.inj h) fun j u hu => by
      refine xE2_2 (hf (j + 1) u (by simpa using hu)) ?_; intro k2 t2 e2 e3
      exact xI2_2 k2 t2 (by simpa using e2) e3)
theorem sorted_keys {d : Addr} {od : Obj} {kvs : List (Str × Value)} {Q : Value → Shared → Prop} (hh : A.handled = none) (F : Fr g L s.heap m) (N : News g L s.heap news) (hm : (d, od) ∈ news) (hd : od.IsDictOf (PySem.strKind prog w) kvs) (lo : (d == sysModules) = false) (h64 : kvs.length < 64) (hasc : Asc (kvs.map (·.1)))
    (h : ∀ D h' tk vs n, Fr g L h' m → News g L h' ((D, listOf (List.toArray vs) n) :: news) → (∀ q ∈ news, q.1 < D) → StrsAre vs (kvs.map (·.1)) → Q (.ref D) { s with heap := h', toks := tk }) : wpAny (model prog w) A (call (.builtin "sorted") [.ref d]) Q E s := by
  have hD := kda_dict N hm hd
  refine xE1_1 (hD.dictAt) ?_; intro ep hat
  refine kdu_sorted (kdl_dict (knd := PySem.strKind prog w) (kvs := kvs) (ep := ep) lo) hh F N hat (by rw [sizeLine_eq]; omega) fun B h' tk vs F' N' l1 hl hv => ?_
  have hS : StrsAre vs (kvs.map (·.1)) := strs_of (by rw [hl, List.length_map]) fun j u hu => by
    refine xE2_2 (hv j u hu) ?_; intro k x hx hk
    have hf : PyProof.V.Flat u (PyData.str k) := kdl_flat_str hk
    refine xE1_1 (PyProof.V.Flat.str_inv hf) ?_; intro t zq2'; subst zq2'
    exact xI2_2 k t (by rw [List.getElem?_map, hx]; rfl) rfl
  refine strs_sort F' N' (fun p hp => Nat.ne_of_lt (l1 p hp)) hS (by omega) hasc fun vs' h'' n' hS' F'' N'' => ?_
  exact h B h'' _ vs' n' F'' N'' l1 hS'
end
end
section
open PySem.Calls
noncomputable def defDat : Option (Int × List Int) → Dat
  | none => .none
  | some x => langDat x.1 x.2
noncomputable def langsDat (ls : List (Str × (Int × List Int))) : List Dat := ls.map fun p => .tuple [.str p.1, langDat p.2.1 p.2.2]
noncomputable def scriptDat (tag : Str) (d : Option (Int × List Int)) (ls : List (Str × (Int × List Int))) : Dat := .tuple [.str tag, defDat d, .tuple (langsDat ls)]
theorem news3 {g h : Heap} {L : Addr} {led : List (Addr × Obj)} {a b c : Addr × Obj} (N : News g L h led) (h1 : a ∈ led) (h2 : b ∈ led) (h3 : c ∈ led) : News g L h [a, b, c] := fun p hp => N p (mem3 h1 h2 h3 p hp)
theorem growT {g h₁ h₂ : Heap} {L : Addr} {m : Str → Option Value} {a b c : Addr × Obj} {led tl2 : List (Addr × Obj)} (M : Made h₁ h₂ tl2) (F : Fr g L h₁ m) (N₁ : News g L h₁ led) (hk : Kept [a, b, c] h₂) (hb : Back ([a, b, c].map (·.1)) h₁ h₂) (h1 : a ∈ led) (h2 : b ∈ led) (h3 : c ∈ led) : News g L h₂ (led ++ tl2) :=
  M.news F (news_kept N₁ hb hk fun q hq => (N₁ q (mem3 h1 h2 h3 q hq)).1)
theorem mem7 {α : Type} {a b c d e f g : α} {l : List α} (h1 : a ∈ l) (h2 : b ∈ l) (h3 : c ∈ l) (h4 : d ∈ l) (h5 : ∀ p ∈ [e, f, g], p ∈ l) : ∀ p ∈ [a, b, c, d, e, f, g], p ∈ l :=
  List.forall_mem_cons.mpr ⟨h1, List.forall_mem_cons.mpr ⟨h2, List.forall_mem_cons.mpr ⟨h3, List.forall_mem_cons.mpr ⟨h4, h5⟩⟩⟩⟩
theorem mem4 {α : Type} {a b c d : α} {l : List α} (h1 : a ∈ l) (h2 : b ∈ l) (h3 : c ∈ l) (h4 : d ∈ l) : ∀ p ∈ [a, b, c, d], p ∈ l :=
  List.forall_mem_cons.mpr ⟨h1, mem3 h2 h3 h4⟩
theorem sub7 {α : Type} {a b c d e f g : α} {l : List α} (_h : ∀ p ∈ [a, b, c, d, e, f, g], p ∈ l) : ∀ p ∈ [e, f, g], p ∈ a :: b :: c :: d :: e :: f :: g :: l := mem3 (.tail _ (.tail _ (.tail _ (.tail _ (.head _))))) (.tail _ (.tail _ (.tail _ (.tail _ (.tail _ (.head _)))))) (.tail _ (.tail _ (.tail _ (.tail _ (.tail _ (.tail _ (.head _)))))))
theorem news_add1 {g h : Heap} {L : Addr} {e1 : Addr × Obj} {fp tl : List (Addr × Obj)} (N : News g L h (e1 :: tl)) (hs : ∀ p ∈ fp, p ∈ tl) : News g L h (e1 :: (fp ++ tl)) := fun p hp => by
  rcases List.mem_cons.mp hp with rfl | hp
  · exact N _ (.head _)
  rcases List.mem_append.mp hp with hp | hp
  · exact N _ (.tail _ (hs p hp))
  · exact N _ (.tail _ hp)
theorem strs_at {vs : List Value} {ss : List Str} (h : StrsAre vs ss) : ∀ {i : Nat} {v : Value}, (List.toArray vs)[i]? = some v → ∃ k t, v = .str k t ∧ ss[i]? = some k := by
  induction h with
  | nil => intro i v hv; simp at hv
  | cons k t r ih =>
    intro i v hv
    cases i with
    | zero => simp only [List.getElem?_toArray, List.getElem?_cons_zero, Option.some.injEq] at hv; subst hv; exact xI2_2 k t rfl rfl
    | succ i =>
      rw [List.getElem?_toArray, List.getElem?_cons_succ, ← List.getElem?_toArray] at hv
      refine xE2_2 (ih hv) ?_; intro p u e hp
      exact xI2_2 p u e hp
theorem LangsIn.at {tl : List (Addr × Obj)} {kvs : List (Str × Value)} {ls : List (Str × (Int × List Int))} (h : LangsIn tl kvs ls) : ∀ {i : Nat} {k : Str}, (kvs.map (·.1))[i]? = some k → ∃ u q, kvs[i]? = some (k, u) ∧ ls[i]? = some (k, q) ∧ LangIn tl u q.1 q.2 := by
  induction h with
  | nil => intro i k hk; simp at hk
  | cons a r ih =>
    intro i k hk
    cases i with
    | zero => simp at hk; subst hk; exact xI2_3 _ _ rfl rfl a
    | succ i => exact ih hk
theorem valueAt_at {kvs : List (Str × Value)} : ∀ {i : Nat} {k : Str} {u : Value}, Asc (kvs.map (·.1)) → kvs[i]? = some (k, u) → valueAt kvs k = some u := by
  induction kvs with
  | nil => intro i k u _ h; simp at h
  | cons p r ih =>
    intro i k u hasc h
    unfold valueAt
    cases i with
    | zero => simp at h; subst h; simp
    | succ i =>
      have hr : r[i]? = some (k, u) := by simpa using h
      have hk : k ∈ r.map (·.1) := List.mem_map.mpr ⟨_, List.mem_of_getElem? hr, rfl⟩
      have hlt : strLt p.1 k := (List.pairwise_cons.mp hasc).1 k hk
      have hne : ¬ p.1 = k := fun e => strLt_irrefl k (e ▸ hlt)
      rw [List.find?_cons, decide_eq_false hne]
      exact ih (List.pairwise_cons.mp hasc).2 hr
theorem perm4 {g h : Heap} {L : Addr} {a b c d : Addr × Obj} {tl : List (Addr × Obj)} (N : News g L h (a :: b :: c :: d :: tl)) : News g L h (b :: c :: d :: a :: tl) := fun p hp => by
  rcases List.mem_cons.mp hp with rfl | hp
  · exact N _ (.tail _ (.head _))
  rcases List.mem_cons.mp hp with rfl | hp
  · exact N _ (.tail _ (.tail _ (.head _)))
  rcases List.mem_cons.mp hp with rfl | hp
  · exact N _ (.tail _ (.tail _ (.tail _ (.head _))))
  rcases List.mem_cons.mp hp with rfl | hp
  · exact N _ (.head _)
  · exact N _ (.tail _ (.tail _ (.tail _ (.tail _ hp))))
theorem dict_no {prog : Program} {w : World} {od : Obj} {kvs : List (Str × Value)} (h : od.IsDictOf (PySem.strKind prog w) kvs) : od.cls ≠ .type "tuple" := by
  refine xE2_2 h ?_; (try clear h); intro _ _ zq1' _; refine xE0_2 zq1' ?_; clear zq1'; intro h _
  rw [h]; simp
theorem get_key {prog : Program} {w : World} {A : Around} {E : Value → Shared → Prop} {s : Shared} {g : Heap} {L d : Addr} {news : List (Addr × Obj)} {o : Obj} {kvs : List (Str × Value)} {k : Str} {t : Tok} {v : Value} {Q : Value → Shared → Prop} (N : News g L s.heap news) (hp : (d, o) ∈ news) (hd : o.IsDictOf (PySem.strKind prog w) kvs) (hl : valueAt kvs k = some v) (h : Q v { s with toks := s.toks + 1 }) :
    wpAny (model prog w) A (getItem (.ref d) (.str k t)) Q E s := wpAny_getItem_of (strKind_is _ _ _ _) (kda_dict N hp hd).mapOf hl h
theorem dat_all {tl : List (Addr × Obj)} {vs ys : List Value} {kvs : List (Str × Value)} {ls : List (Str × (Int × List Int))} (hS : StrsAre vs (kvs.map (·.1))) (hkl : kvs.length = ls.length) (h : DatAll tl ys ((langsDat ls).take (List.toArray vs).size)) : DatAll tl ys (langsDat ls) := by
  have e : (List.toArray vs).size = (langsDat ls).length := by
    rw [List.size_toArray, hS.length, List.length_map, hkl]; unfold langsDat; rw [List.length_map]
  rw [e, List.take_length] at h
  exact h
theorem ResJ.pair {fp news tl9 tl2 : List (Addr × Obj)} {ds : List Dat} {i nn : Nat} {ys : List Value} {T2 : Addr} {k : Str} {t : Tok} {v : Value} {d : Dat} (h : ResJ fp ds i ys news) (ht : Tups tl2) (hd : DatIn tl2 v d) (h2 : ∀ p ∈ tl2, p ∈ tl9) (h1 : ∀ p ∈ news, p ∈ tl9) (hi : ds[i]? = some (.tuple [.str k, d])) :
    ResJ fp ds (i + 1) (ys ++ [.ref T2]) ((T2, { cls := .type "tuple", data := .seq #[.str k t, v] nn }) :: tl9) :=
  ResJ.next (tl2 := (T2, { cls := .type "tuple", data := .seq #[.str k t, v] nn }) :: tl2) h (fun p hp => .tail _ (h1 p hp)) (List.forall_mem_cons.mpr ⟨.head _, fun p hp => .tail _ (h2 p hp)⟩) (List.forall_mem_cons.mpr ⟨rfl, ht⟩)
    (.tuple (vs := [_, _]) (.head _) (.cons (.str _ _) (.cons (hd.mono fun p hp => .tail _ hp) .nil))) hi
theorem done_res2 {s g h : Heap} {L : Addr} {p1 p2 : Addr × Obj} {rest tlr fp : List (Addr × Obj)} (hgk : ∀ b o, s.get? b = some o → b ∉ fp.map (·.1) → g.get? b = some o) (N : News g L h (p1 :: p2 :: rest)) (c1 : p1.2.cls = .type "tuple") (c2 : p2.2.cls = .type "tuple") (hno : NoTup fp) (ht : Tups tlr) (hf : ∀ p ∈ fp, p ∈ rest) (hr : ∀ p ∈ tlr, p ∈ rest) : Made s h (p1 :: p2 :: tlr) ∧ Tups (p1 :: p2 :: tlr) := by
  have hT : Tups (p1 :: p2 :: tlr) := List.forall_mem_cons.mpr ⟨c1, List.forall_mem_cons.mpr ⟨c2, ht⟩⟩
  refine ⟨Made.ofF hgk N (fun p hp => ?_) (fun p hp => .tail _ (.tail _ (hf p hp))) hT hno, hT⟩
  rcases List.mem_cons.mp hp with rfl | hp
  · exact .head _
  rcases List.mem_cons.mp hp with rfl | hp
  · exact .tail _ (.head _)
  · exact .tail _ (.tail _ (hr p hp))
theorem Tups.app {a b : List (Addr × Obj)} (ha : Tups a) (hb : Tups b) : Tups (a ++ b) := fun p hp => (List.mem_append.mp hp).elim (ha p) (hb p)
theorem script_told {w : World} {x dx lg : Addr} {od : Obj} {kvs : List (Str × Value)} {vd : Value} {k1 k2 k3 : Int} {t1 t2 t3 t4 : Tok} {tag : Str} {d : Option (Int × List Int)} {ls : List (Str × (Int × List Int))} {tl0 : List (Addr × Obj)} (hod : od.IsDictOf (strKind rw_pb0183_01.row.prog w) kvs) (lo : (lg == sysModules) = false) (hD : DefIn tl0 vd d) (hL : LangsIn tl0 kvs ls)
    (hasc : Asc (ls.map (·.1))) (h64 : ls.length < 64) (hlen : ∀ x ∈ ls, x.2.2.length ≤ 1000) (hdl : ∀ x, d = some x → x.2.length ≤ 1000) (hno : NoTup tl0) :
    Spec w 238 800 800 [.ref x] ((x, instObj 241 dx) :: (dx, scriptD k1 k2 k3 t1 t2 t3 t4 tag vd lg) :: (lg, od) :: tl0)
      (fun h h' v => ∃ tl, Made h h' tl ∧ Tups tl ∧ DatIn tl v (scriptDat tag d ls)) (fun _ _ => False) := by
  have hkl : kvs.length = ls.length := by have := congrArg List.length hL.keys; simpa using this
  have hka : Asc (kvs.map (·.1)) := by rw [hL.keys]; exact hasc
  have hk64 : kvs.length < 64 := by omega
  ((refine' enterC ?ho ?hcd ?hD ?hb ?hkd ?hnd ?_ ?c1 ?c2 ?c3; (case ho => exact rfl); (case hcd => exact rfl); (case hD => decide); (case hb => exact fun s'r X'r => BindsTo.of_eq rfl); (case hkd => exact rfl); (case hnd => decide +kernel); (case c1 => exact rfl); (case c2 => exact rfl); (case c3 => exact rfl); intro p'r loose'r mean'r mg'r mb'r gd'r l'r s'r Q'r E'r g'r L'r h₁'r tk'r cells'r F'r N'r Y'r B'r X'r T'r hL'r hgk'r hgs'r hfp'r l1'r hX'r; (try (refine (let mk := _; (fun (FK : Fr _ _ _ mk) => ?_) F'r); clear F'r)); revert X'r; k_fill; intro X'r; (try k_lt l1'r); k_cells Y'r; (try simp only [List.cons_append, List.nil_append] at N'r); (try dsimp only); (try (refine (let mA := _; let mE := _; (?_ : wpAny _ mA (execs _ mE) _ _ _)))); (try k_fold)))
  (repeat' (first | ((with_reducible first | refine nextN ?_ | refine nextR ?_); (try dsimp only)) | (k_unfold; (try dsimp only)) | (k_end; kc_close) | ((with_reducible first | show wpAny _ _ (exec _ _) _ _ _ | show wpAny _ _ (eval (Expr.Call ..) _) _ _ _ | show wpAny _ _ (eval (Expr.BinOp ..) _) _ _ _ | show wpAny _ _ (eval (Expr.Subscript ..) _) _ _ _ | show wpAny _ _ (eval (Expr.List ..) _) _ _ _ | show wpAny _ _ (eval (Expr.Tuple ..) _) _ _ _); (fail_if_success (fail_if_success k_fold)); refine (let qk := _; (?_ : wpAny _ _ _ qk _ _))) | ((with_reducible refine execsN ?_); (try k_gentoks)) | ((with_reducible refine args_cons ?_ ?he); (case he => exact rfl)) | ((with_reducible show wpAny _ _ (call (Value.builtin "sorted") _ _) _ _ _); (k_here; (with_reducible show wpAny _ _ (call (Value.builtin "sorted") [Value.ref _]) _ _ _); k_dflt (refine' sorted_keys ?hh ?F ?N ?hm ?hd ?lo ?h64 ?ha ?_; (case hh => exact rfl); (case F => k_asm); (case N => k_asm); (case hm => k_mem); (case hd => assumption); (case lo => assumption); (case h64 => assumption); (case ha => assumption)); intro D'r h'r tk'r vs'r n'r F'r N'r l1 hS'r)) | ((with_reducible show wpAny _ _ (eval (Expr.ListComp ..) _) _ _ _); (k_here; k_dflt (refine comp_held (by k_asm) (by with_unfolding_all rfl) (by decide) (by rfl) (by decide) (by rfl) ?_))) | walk1 | (dsimp only; walk1) | (dsimp only [mA]; walk1) | (dsimp only [mE]; walk1) | (dsimp only [mA, mE]; walk1) | (leave1; (try dsimp only))))
  rename News _ _ _ _ => N9
  rename Fr _ _ _ _ => F9
  rename StrsAre _ _ => hS9
  have hvl := hS9.length
  rw [List.length_map] at hvl
  refine Side.mk (src_list (by rfl) F9 N9 (.head _) (by rw [List.size_toArray, sizeLine_eq]; omega) fun g' => ?_)
  refine comp_turns (ResJ _ (langsDat ls)) ?_ ?_ _ 0 [] _ (Nat.zero_add _) ⟨[], fun _ h => h, (fun _ h => nomatch h), (fun _ h => nomatch h), .nil⟩
  · intro i v ys news I oI C oC D m₂ h tk E' hi hv hJ hC hx F N off ne
    refine xE2_2 (strs_at hS9 hv) ?_; intro k tt zq2' hk; subst zq2'
    refine xE2_3 (hL.at hk) ?_; intro u q hku hq zq3'; refine xE10_5 zq3' ?_; clear zq3'; intro x' dx' lx' its' c' q1 q2 u1 u2 u3 zq4' m1 m2 m3 hi'; subst zq4'
    have hva := valueAt_at hka hku
    have ha := hJ
    refine xE1_2 ha ?_; (try clear ha); intro tlr ha _
    have hfp0 : ∀ p ∈ langFp x' dx' lx' q1 q2 u1 u2 u3 q.1 its' c', p ∈ news := fun p hp => ha p (.tail _ (.tail _ (.tail _ (.tail _ (.tail _ (mem3 m1 m2 m3 p hp))))))
    have hfp := mem7 (ha _ (.tail _ (.head _))) (ha _ (.tail _ (.tail _ (.head _)))) (ha _ (.tail _ (.tail _ (.tail _ (.head _))))) (ha _ (.tail _ (.tail _ (.tail _ (.tail _ (.head _)))))) hfp0
    have hz' : its'.toArray.size ≤ sizeLine := by
      have h1 := hi'.length
      have h2 := hlen _ (List.mem_of_getElem? hq)
      rw [List.size_toArray, sizeLine_eq]
      dsimp only at h2
      omega
    have hO := own_add (own_of3 off) hfp
    have N := news_add N hfp
    have hfp2 := sub7 hfp
    simp only [langFp, List.cons_append, List.nil_append] at N hO hfp2
    clear off hfp hfp0
    (repeat' (first | ((with_reducible first | refine nextN ?_ | refine nextR ?_); (try dsimp only)) | (k_unfold; (try dsimp only)) | (k_end; kc_close) | ((with_reducible first | show wpAny _ _ (exec _ _) _ _ _ | show wpAny _ _ (eval (Expr.Call ..) _) _ _ _ | show wpAny _ _ (eval (Expr.BinOp ..) _) _ _ _ | show wpAny _ _ (eval (Expr.Subscript ..) _) _ _ _ | show wpAny _ _ (eval (Expr.List ..) _) _ _ _ | show wpAny _ _ (eval (Expr.Tuple ..) _) _ _ _); (fail_if_success (fail_if_success k_fold)); refine (let qk := _; (?_ : wpAny _ _ _ qk _ _))) | ((with_reducible refine execsN ?_); (try k_gentoks)) | ((with_reducible refine args_cons ?_ ?he); (case he => exact rfl)) | ((with_reducible show wpAny _ _ (getItem (Value.ref _) _) _ _ _); (k_here; k_dflt (refine get_key (by k_asm) (by k_mem) (by assumption) (by assumption) ?_))) | ((with_reducible show wpAny _ _ (call (Value.ref _) _ _) _ _ _); (k_here; (try ((fail_if_success (fail_if_success k_fold)); refine (let qk := _; (?_ : wpAny _ _ _ qk _ _)))); k_dflt (refine' Spec.calm (lang_told (by assumption) (by assumption)) ?B ?F ?X ?T rfl rfl rfl rfl (Nat.le_of_ble_eq_true rfl) (Nat.le_of_ble_eq_true rfl) ?N ?hR ?_; ((case B => assumption); (case F => k_asm); (case X => k_asm); (case T => k_asm)); (case N => exact news_sub3 (by assumption) (by assumption)); (case hR => exact fun _ _ h => h); intro v'r h'r tk'r F'r hb'r hP'r; (try simp only [List.map_cons, List.map_nil] at hb'r); refine xE1_4 hP'r ?_; clear hP'r; intro tl'r hM'r hT'r hK'r hD'r; (rename News _ _ _ _ => N8'r); (refine xE1_4 (growK hM'r (by assumption) N8'r hK'r hb'r (by assumption) (by assumption)) ?_; intro tl9'r hs1'r hs2'r O'r N'r); (clear N8'r); (try k_sweep)))) | walk1 | (dsimp only; walk1) | (dsimp only [mA]; walk1) | (dsimp only [mE]; walk1) | (dsimp only [mA, mE]; walk1) | (leave1; (try dsimp only))))
    (try k_unfold)
    (try dsimp only)
    rename News _ _ _ _ => N9
    rename OwnOff _ _ => hO9
    rename Tups _ => hT9
    rename DatIn _ _ _ => hD9
    exact ⟨_, _, _, rfl, by assumption, perm4 N9, ⟨⟨by k_ne, by k_ne, by k_ne⟩, off3_of hO9⟩, .inr ⟨_, .tail _ ((by assumption : ∀ p ∈ _ :: _ :: _ :: _ :: _ :: _ :: _ :: news, p ∈ _) _ (.tail _ (.tail _ (.tail _ (.tail _ (.tail _ (.tail _ (.tail _ (ha _ (.head _)))))))))), rfl, _, rfl⟩,
      ResJ.pair hJ hT9 hD9 (by assumption) (fun p hp => (by assumption : ∀ p ∈ _ :: _ :: _ :: _ :: _ :: _ :: _ :: news, p ∈ _) p (.tail _ (.tail _ (.tail _ (.tail _ (.tail _ (.tail _ (.tail _ (hp))))))))) (by unfold langsDat; rw [List.getElem?_map, hq]; rfl)⟩
  · intro ys news hJ
    refine xE1_4 hJ ?_; (try clear hJ); intro tlr ha hb9 hc9 hd9
    intro D h tk F N o1
    have hz9 : ys.length ≤ sizeLine := by
      have h1 := hd9.length
      rw [List.length_take, List.size_toArray] at h1
      rw [sizeLine_eq]
      omega
    cases d with
    | none =>
      have hD : vd = .none := hD
      subst hD
      have hfp := mem4 (ha _ (.tail _ (.head _))) (ha _ (.tail _ (.tail _ (.head _)))) (ha _ (.tail _ (.tail _ (.tail _ (.head _))))) (ha _ (.tail _ (.tail _ (.tail _ (.tail _ (.head _))))))
      have N := news_add1 N hfp
      simp only [List.cons_append, List.nil_append] at N
      (repeat' (first | ((with_reducible first | refine nextN ?_ | refine nextR ?_); (try dsimp only)) | (k_unfold; (try dsimp only)) | (k_end; kc_close) | ((with_reducible first | show wpAny _ _ (exec _ _) _ _ _ | show wpAny _ _ (eval (Expr.Call ..) _) _ _ _ | show wpAny _ _ (eval (Expr.BinOp ..) _) _ _ _ | show wpAny _ _ (eval (Expr.Subscript ..) _) _ _ _ | show wpAny _ _ (eval (Expr.List ..) _) _ _ _ | show wpAny _ _ (eval (Expr.Tuple ..) _) _ _ _); (fail_if_success (fail_if_success k_fold)); refine (let qk := _; (?_ : wpAny _ _ _ qk _ _))) | ((with_reducible refine execsN ?_); (try k_gentoks)) | ((with_reducible refine args_cons ?_ ?he); (case he => exact rfl)) | ((with_reducible show wpAny _ _ (call (Value.type "tuple") _ _) _ _ _); (k_here; (with_reducible show wpAny _ _ (call (Value.type _) [Value.ref _]) _ _ _); k_dflt (refine' tuple_ofL ?F ?N ?hl ?_ ?z; (case F => k_asm); (case N => k_asm); (case hl => exact News.isList (by k_asm) (by k_mem)); (case z => assumption)); intro D'r h'r F'r N'r a'r)) | ((with_reducible show wpAny _ _ (storeName _ _ _) _ _ _); (k_here; k_dflt (refine' storeX_L ?sF ?sN ?_ rfl rfl; (case sF => k_asm); (case sN => k_asm); k_whole; intro hS FS NS; (try k_sweep); refine (let mk := _; (fun (FK : Fr _ _ _ mk) => ?_) FS); clear FS))) | walk1 | (dsimp only; walk1) | (dsimp only [mA]; walk1) | (dsimp only [mE]; walk1) | (dsimp only [mA, mE]; walk1) | (leave1; (try dsimp only))))
      (try k_unfold)
      (try dsimp only)
      rename News _ _ _ _ => N9
      have hd9 := dat_all hS9 hkl hd9
      have hnoF : NoTup ((x, instObj 241 dx) :: (dx, scriptD k1 k2 k3 t1 t2 t3 t4 tag .none lg) :: (lg, od) :: tl0) := List.forall_mem_cons.mpr ⟨fun h => (nomatch h), List.forall_mem_cons.mpr ⟨(by show (Value.type "dict") ≠ Value.type "tuple"; simp), List.forall_mem_cons.mpr ⟨dict_no hod, hno⟩⟩⟩
      refine ends_ret (by assumption) (by assumption) (P := _) ?_
      refine xE0_2 (done_res2 (by assumption) N9 rfl rfl hnoF hc9 (fun p hp => .tail _ (.tail _ (.tail _ (.tail _ (.tail _ (ha p (.tail _ (.tail _ hp)))))))) (fun p hp => .tail _ (.tail _ (.tail _ (.tail _ (.tail _ (hb9 p hp))))))) ?_; intro hM8 hT8
      exact xI1_3 _ hM8 hT8 (.tuple (vs := [_, _, _]) (.head _) (.cons (.str _ _) (.cons .none (.cons (.tuple (.tail _ (.head _)) (hd9.mono fun p hp => .tail _ (.tail _ hp))) .nil))))
    | some q =>
      refine xE10_5 hD ?_; (try clear hD); intro x' dx' lx' its' c' q1 q2 u1 u2 u3 zq5' m1 m2 m3 hi'; subst zq5'
      have hfp0 : ∀ p ∈ langFp x' dx' lx' q1 q2 u1 u2 u3 q.1 its' c', p ∈ news := fun p hp => ha p (.tail _ (.tail _ (.tail _ (.tail _ (.tail _ (mem3 m1 m2 m3 p hp))))))
      have hfp := mem7 (ha _ (.tail _ (.head _))) (ha _ (.tail _ (.tail _ (.head _)))) (ha _ (.tail _ (.tail _ (.tail _ (.head _))))) (ha _ (.tail _ (.tail _ (.tail _ (.tail _ (.head _)))))) hfp0
      have hz' : its'.toArray.size ≤ sizeLine := by
        have h1 := hi'.length
        have h2 := hdl q rfl
        rw [List.size_toArray, sizeLine_eq]
        omega
      have N := news_add1 N hfp
      simp only [List.cons_append, List.nil_append] at N
      (repeat' (first | ((with_reducible first | refine nextN ?_ | refine nextR ?_); (try dsimp only)) | (k_unfold; (try dsimp only)) | (k_end; kc_close) | ((with_reducible first | show wpAny _ _ (exec _ _) _ _ _ | show wpAny _ _ (eval (Expr.Call ..) _) _ _ _ | show wpAny _ _ (eval (Expr.BinOp ..) _) _ _ _ | show wpAny _ _ (eval (Expr.Subscript ..) _) _ _ _ | show wpAny _ _ (eval (Expr.List ..) _) _ _ _ | show wpAny _ _ (eval (Expr.Tuple ..) _) _ _ _); (fail_if_success (fail_if_success k_fold)); refine (let qk := _; (?_ : wpAny _ _ _ qk _ _))) | ((with_reducible refine execsN ?_); (try k_gentoks)) | ((with_reducible refine args_cons ?_ ?he); (case he => exact rfl)) | ((with_reducible show wpAny _ _ (call (Value.ref _) _ _) _ _ _); (k_here; (try ((fail_if_success (fail_if_success k_fold)); refine (let qk := _; (?_ : wpAny _ _ _ qk _ _)))); k_dflt (refine' Spec.calm (lang_told (by assumption) (by assumption)) ?B ?F ?X ?T rfl rfl rfl rfl (Nat.le_of_ble_eq_true rfl) (Nat.le_of_ble_eq_true rfl) ?N ?hR ?_; ((case B => assumption); (case F => k_asm); (case X => k_asm); (case T => k_asm)); (case N => exact news3 (by k_asm) (by k_mem) (by k_mem) (by k_mem)); (case hR => exact fun _ _ h => h); intro v'r h'r tk'r F'r hb'r hP'r; (try simp only [List.map_cons, List.map_nil] at hb'r); refine xE1_4 hP'r ?_; clear hP'r; intro tl'r hM'r hT'r hK'r hD'r; (rename News _ _ _ _ => N8'r); (have N'r := growT hM'r (by assumption) N8'r hK'r hb'r (by k_mem) (by k_mem) (by k_mem)); (clear N8'r); (try simp only [List.cons_append, List.nil_append] at N'r); (try k_sweep)))) | ((with_reducible show wpAny _ _ (call (Value.type "tuple") _ _) _ _ _); (k_here; (with_reducible show wpAny _ _ (call (Value.type _) [Value.ref _]) _ _ _); k_dflt (refine' tuple_ofL ?F ?N ?hl ?_ ?z; (case F => k_asm); (case N => k_asm); (case hl => exact News.isList (by k_asm) (by k_mem)); (case z => assumption)); intro D'r h'r F'r N'r a'r)) | ((with_reducible show wpAny _ _ (storeName _ _ _) _ _ _); (k_here; k_dflt (refine' storeX_L ?sF ?sN ?_ rfl rfl; (case sF => k_asm); (case sN => k_asm); k_whole; intro hS FS NS; (try k_sweep); refine (let mk := _; (fun (FK : Fr _ _ _ mk) => ?_) FS); clear FS))) | walk1 | (dsimp only; walk1) | (dsimp only [mA]; walk1) | (dsimp only [mE]; walk1) | (dsimp only [mA, mE]; walk1) | (leave1; (try dsimp only))))
      (try k_unfold)
      (try dsimp only)
      rename News _ _ _ _ => N9
      have hd9 := dat_all hS9 hkl hd9
      have hnoF : NoTup ((x, instObj 241 dx) :: (dx, scriptD k1 k2 k3 t1 t2 t3 t4 tag (.ref x') lg) :: (lg, od) :: tl0) := List.forall_mem_cons.mpr ⟨fun h => (nomatch h), List.forall_mem_cons.mpr ⟨(by show (Value.type "dict") ≠ Value.type "tuple"; simp), List.forall_mem_cons.mpr ⟨dict_no hod, hno⟩⟩⟩
      refine ends_ret (by assumption) (by assumption) (P := _) ?_
      rename Tups _ => hT9
      rename DatIn _ _ _ => hD9
      refine xE0_2 (done_res2 (by assumption) N9 rfl rfl hnoF (Tups.app hc9 hT9) (fun p hp => .tail _ (.tail _ (.tail _ (.tail _ (.tail _ (.tail _ (.tail _ (.tail _ (List.mem_append_left _ (ha p (.tail _ (.tail _ hp)))))))))))) (fun p hp => (List.mem_append.mp hp).elim (fun hp => .tail _ (.tail _ (.tail _ (.tail _ (.tail _ (.tail _ (.tail _ (.tail _ (List.mem_append_left _ (hb9 p hp)))))))))) (fun hp => .tail _ (.tail _ (.tail _ (.tail _ (.tail _ (.tail _ (.tail _ (.tail _ (List.mem_append_right _ hp))))))))))) ?_; intro hM8 hT8
      exact xI1_3 _ hM8 hT8 (.tuple (vs := [_, _, _]) (.head _) (.cons (.str _ _) (.cons (hD9.mono fun p hp => .tail _ (.tail _ (List.mem_append_right _ hp))) (.cons (.tuple (.tail _ (.head _)) (hd9.mono fun p hp => .tail _ (.tail _ (List.mem_append_left _ hp)))) .nil))))
end
section
open PySem.Calls
def SpecR (w : World) (f : Addr) (D U : Nat) (vs : List Value) (ro : List (Addr × Obj)) (P : Heap → Heap → Value → Prop) (R : Str → Int → Prop) : Prop :=
  ∀ (p : Program) (loose : List Str) (mean : ExcName → Option Value) (mg mb : Str → Option Value) (H : Heap) (A : Around) (l : List Env) (s : Shared) (Q E : Value → Shared → Prop),
    Sits w p loose mean mg mb H A l s.heap D U → (∀ q ∈ ro, s.heap.get? q.1 = some q.2 ∧ H.get? q.1 = none ∧ q.1 ∉ frs l) →
    (∀ v h' tk', Back [] s.heap h' → P s.heap h' v → Q v { s with heap := h', toks := tk' }) →
    (∀ e h' tk' what pl, Thrown l [] s.heap h' e what pl → R what pl → E (.ref e) { s with heap := h', toks := tk' }) →
    wpAny (model rw_pb0183_01.row.prog w) A (call (.ref f) vs) Q E s
structure BackC (l : List Env) (h h' : Heap) : Prop where
  keep : ∀ b o, h.get? b = some o → b ∉ frs l → h'.get? b = some o
  slots : ∀ b o, h.get? b = some o → ∃ sl, h'.get? b = some { o with slots := sl }
  size : h.objs.size ≤ h'.objs.size
def SpecC (w : World) (f : Addr) (D U : Nat) (vs : List Value) (ro : List (Addr × Obj)) (P : Heap → Heap → Value → Prop) : Prop :=
  ∀ (p : Program) (loose : List Str) (mean : ExcName → Option Value) (mg mb : Str → Option Value) (H : Heap) (A : Around) (l : List Env) (s : Shared) (Q E : Value → Shared → Prop),
    Sits w p loose mean mg mb H A l s.heap D U → (∀ b ∈ frs l, H.get? b = none) → (∀ q ∈ ro, s.heap.get? q.1 = some q.2 ∧ H.get? q.1 = none ∧ q.1 ∉ frs l) →
    (∀ v h' tk', BackC l s.heap h' → P s.heap h' v → Q v { s with heap := h', toks := tk' }) →
    wpAny (model rw_pb0183_01.row.prog w) A (call (.ref f) vs) Q E s
theorem funFrames_of {h h' : Heap} : ∀ {l : List Env}, h.FunFrames noHeap l → (∀ b ∈ frs l, ∀ o, h.get? b = some o → ∃ o', h'.get? b = some o' ∧ o'.data = o.data) → h'.FunFrames noHeap l
  | [], _, _ => trivial
  | env :: l, ⟨hk, ⟨L, o, hf, hn, ho, hd⟩, hr⟩, k => by
    have hL : L ∈ frs (env :: l) := by unfold frs; rw [List.filterMap_cons, hf]; exact .head _
    refine xE1_2 (k L hL o ho) ?_; intro o' ho' hd'
    refine xI0_3 hk ⟨L, o', hf, rfl, ho', fun vs => hd' ▸ hd vs⟩ (funFrames_of hr fun b hb o q => k b ?_ o q)
    unfold frs at hb ⊢
    rw [List.filterMap_cons, hf]
    exact .tail _ hb
noncomputable def objsAt (h : Heap) (l : List Addr) : List (Addr × Obj) := l.filterMap fun b => (h.get? b).map fun o => (b, o)
theorem mem_objsAt {h : Heap} {l : List Addr} {p : Addr × Obj} : p ∈ objsAt h l ↔ p.1 ∈ l ∧ h.get? p.1 = some p.2 := by
  unfold objsAt
  rw [List.mem_filterMap]
  constructor
  · rintro ⟨b, hb, e⟩
    cases q : h.get? b with
    | none => rw [q] at e; cases e
    | some o => rw [q] at e; cases e; exact ⟨hb, q⟩
  · rintro ⟨hb, e⟩
    exact xI1_2 p.1 hb (by rw [e]; rfl)
section
variable {w : World} {D U : Nat} {f : Addr} {vs : List Value} {ro : List (Addr × Obj)} {P : Heap → Heap → Value → Prop}
theorem enterS {name qual : Str} {params : Arguments} {body : List Stmt} {scope : Scope} {dV kV doc pm cdv ct oc : Value} {an od : Option Addr} {osl : Array (Option Value)} {binds : List (Str × Value)}
    (ho : (KK w.params).lookup f = some ⟨oc, od, .func (fnOf name qual params body scope dV kV doc pm an cdv ct), osl⟩) (hcd : codeIn (KK w.params) cdv qual = true) (hD : D < recursionLimit)
    (hbind : ∀ s : Shared, (KK w.params).In s.heap → BindsTo s (fnOf name qual params body scope dV kV doc pm an cdv ct) ⟨vs, []⟩ binds) (hloc : ∀ y ∈ binds, scope.names.lookup y.1 = some .local)
    (h : ∀ {p : Program} {loose : List Str} {mean : ExcName → Option Value} {mg mb : Str → Option Value} {gd : Option (List Code)} {l : List Env} {s : Shared} {Q E : Value → Shared → Prop} (g : Heap) (h₁ : Heap),
      Fr g s.heap.objs.size h₁ (fun y => binds.reverse.lookup y) → News g s.heap.objs.size h₁ (ro ++ objsAt s.heap (frs l)) → (KK w.params).In g → Top p loose mean mg mb g → s.heap.FunFrames noHeap l →
      (∀ b o, s.heap.get? b = some o → b ∉ ro.map (·.1) → b ∉ frs l → g.get? b = some o) → (∀ b ∈ frs l, g.get? b = none) → (∀ q ∈ ro, s.heap.get? q.1 = some q.2 ∧ g.get? q.1 = none ∧ q.1 ∉ frs l) →
      (∀ v h' tk', BackC l s.heap h' → P s.heap h' v → Q v { s with heap := h', toks := tk' }) →
      wpAny (model rw_pb0183_01.row.prog w) ((Aat D U gd l).deeper (envOf qual scope s.heap.objs.size f cdv)) (execs body (envOf qual scope s.heap.objs.size f cdv))
        (fun fl s' => Q (match fl with | .ret v => v | _ => .none) s')
        (fun e s' => wpAny (model rw_pb0183_01.row.prog w) ((Aat D U gd l).deeper (envOf qual scope s.heap.objs.size f cdv)) (leaving (envOf qual scope s.heap.objs.size f cdv) e) (fun _ s'' => E e s'') (fun e' s'' => E e' s'') s')
        { s with heap := h₁, toks := s.toks + binds.length })
    (hcell : ∀ x ∈ scope.names, x.2 ≠ .cell) (hco : scope.isCoroutine = false := by rfl) (hgen : scope.isGenerator = false := by rfl) (hk : scope.kind = .function := by rfl) : SpecC w f D U vs ro P := by
  intro p loose mean mg mb H A l s Q E S hfl hro hret
  obtain ⟨hd, dp, fr, gd, un⟩ := A
  obtain ⟨X, T, st, zq1', zq2', dep, unn, fs⟩ := S; subst zq1'; subst zq2'
  dsimp only at dep unn
  refine wpAny_up (B := Aat D U gd l) ?_ rfl dep rfl rfl unn
  have Xs : (KK w.params).In s.heap := X.keeps st
  refine wpAny_call (codeAny_call_def (fd := fnOf name qual params body scope dV kV doc pm an cdv ct) (body := body) (binds := binds) hD (Xs _ _ ho) rfl (T.nolimit.keeps st) (codeRec_of Xs hcd) rfl (hbind s Xs) hcell hloc (fun h₁ hns hk₁ => ?_) hco hgen hk)
  have hg1 : ∀ b, b ∈ ro.map (·.1) ++ frs l → (hideAll s.heap (ro.map (·.1) ++ frs l)).get? b = none := fun b hb => hideAll_none _ hb
  have stg : H.StaysIn (hideAll s.heap (ro.map (·.1) ++ frs l)) := fun b o q => hideAll_get _ (st b o q) fun hm => by
    rcases List.mem_append.mp hm with hm | hm
    · refine xE1_2 (List.mem_map.mp hm) ?_; intro x hx zq3'; subst zq3'
      rw [(hro x hx).2.1] at q; cases q
    · rw [hfl b hm] at q; cases q
  refine h (hideAll s.heap (ro.map (·.1) ++ frs l)) h₁ ⟨hns, fun b o q => hk₁ b o (of_hideAll _ q), Nat.le_of_eq (hideAll_size _ _)⟩ (fun q hq => ?_) (X.keeps stg) (T.keeps stg) fs
    (fun b o q h1 h2 => hideAll_get _ q fun hm => (List.mem_append.mp hm).elim h1 h2) (fun b hb => hg1 b (List.mem_append_right _ hb)) (fun q hq => ⟨(hro q hq).1, hg1 _ (List.mem_append_left _ (List.mem_map_of_mem hq)), (hro q hq).2.2⟩) hret
  rcases List.mem_append.mp hq with hq | hq
  · exact xI0_3 (hk₁ _ _ (hro q hq).1) (Nat.ne_of_lt (Heap.lt_size (hro q hq).1)) (hg1 _ (List.mem_append_left _ (List.mem_map_of_mem hq)))
  · refine xE0_2 (mem_objsAt.mp hq) ?_; intro h1 h2
    exact xI0_3 (hk₁ _ _ h2) (Nat.ne_of_lt (Heap.lt_size h2)) (hg1 _ (List.mem_append_right _ h1))
theorem SpecR.here {A : Around} {p : Program} {loose : List Str} {mean : ExcName → Option Value} {mg mb : Str → Option Value} {l : List Env} {env : Env} {g h : Heap} {L : Addr} {s₀ s : Shared} {Q₂ E : Value → Shared → Prop} {tk : Nat} {m : Str → Option Value} {R : Str → Int → Prop}
    (C : SpecR w f D U vs ro P R) (F : Fr g L h m) (N : News g L h (ro ++ objsAt s₀.heap (frs l))) (X : (KK w.params).In g) (T : Top p loose mean mg mb g) (fs : s₀.heap.FunFrames noHeap l) (hro : ∀ q ∈ ro, s₀.heap.get? q.1 = some q.2 ∧ g.get? q.1 = none ∧ q.1 ∉ frs l) (hA : A.frames = some (env :: l)) (hf : env.frame = some L) (hke : env.scope.kind = .function)
    (hh : A.handled = none) (hd : A.depth ≤ D) (hu : A.units ≤ U)
    (hret : ∀ v h' tk', Fr g L h' m → Back [] h h' → P h h' v → Q₂ v { s with heap := h', toks := tk' })
    (hexc : ∀ e h' tk' what pl, Thrown (env :: l) [] h h' e what pl → R what pl → E (.ref e) { s with heap := h', toks := tk' }) :
    wpAny (model rw_pb0183_01.row.prog w) A (call (.ref f) vs) Q₂ E { s with heap := h, toks := tk } := by
  have fs' : h.FunFrames noHeap (env :: l) := by
    refine xE3_3 (F.ns) ?_; intro oL es ep hoL hdd _
    refine xI0_3 (by rw [hke]; decide) ⟨L, oL, hf, rfl, hoL, fun vs q => by rw [hdd] at q; cases q⟩ (funFrames_of fs fun b hb o q => ⟨o, ?_, rfl⟩)
    exact (N (b, o) (List.mem_append_right _ (mem_objsAt.mpr ⟨hb, q⟩))).1
  refine C _ _ _ _ _ g _ _ { s with heap := h, toks := tk } _ _ ⟨X, T, F.keep, hA, hh, hd, hu, fs'⟩ (fun q hq => ⟨(N q (List.mem_append_left _ hq)).1, (hro q hq).2.1, fun hm => ?_⟩) (fun v h' tk' hb hp => hret v h' tk' ⟨?_, fun b o q => hb.keep b o (F.keep b o q) (fun h => nomatch h), F.above⟩ hb hp) fun e h' tk' what pl ht hr => hexc e h' tk' what pl ht hr
  · unfold frs at hm
    rw [List.filterMap_cons, hf] at hm
    rcases List.mem_cons.mp hm with e | hm
    · exact (N q (List.mem_append_left _ hq)).2.1 e
    · exact (hro q hq).2.2 hm
  · refine xE3_2 (F.ns) ?_; intro oL es ep hoL r
    exact xI3_2 oL es ep (hb.keep _ _ hoL (fun h => nomatch h)) r
end
end
section
open PySem.Calls
section
variable {w : World} {A : Around} {E : Value → Shared → Prop}
set_option maxHeartbeats 2000000 in
theorem eg_get {s : Shared} {x : Addr} {ox od : Obj} {name : Str} {v : Value} {expr : Bool} {Q : Value → Shared → Prop} (X : (KK w.params).In s.heap) (I : InstAt s.heap x ox 61 (some od)) (hf : findObj (KK w.params) 61 (some od) name = some (.value v)) (hv : handedIn v = true) (h : Q v { s with toks := s.toks + 1 }) :
    wpAny (model rw_pb0183_01.row.prog w) A (getAttr (.ref x) name expr) Q E s := by
  obtain ⟨hh, g, d, t, os⟩ := s
  have L0 : Looks (model rw_pb0183_01.row.prog w) hh (typeOf (.ref x)) (.ref 61) := I.type
  have L1 : Looks (model rw_pb0183_01.row.prog w) hh (typeLookup (.ref 61) "__getattribute__") (some (.builtin "BaseException.__getattribute__")) := Looks.of_peek X (by kernel_rfl)
  have L2 : Looks (model rw_pb0183_01.row.prog w) hh (typeLookup (.ref 61) "__getattr__") none := Looks.of_peek X (by kernel_rfl)
  have L3 : Looks (model rw_pb0183_01.row.prog w) hh (bindSpecial (.builtin "BaseException.__getattribute__") (.ref x)) (.builtin "BaseException.__getattribute__", [.ref x]) := Looks.of_peek X (by kernel_rfl)
  have L4 := looks_find (M := model rw_pb0183_01.row.prog w) X I hf
  have hx0 : (expr && onTheHeap (Value.builtin "BaseException.__getattribute__")) = false := by cases expr <;> rfl
  have hx2 : (Value.builtin "BaseException.__getattribute__" == Value.builtin "object.__getattribute__") = false := by decide +kernel
  have hx1 : (onTheHeap (Value.ref 61) && Value.builtin "BaseException.__getattribute__" == Value.builtin "object.__getattribute__") = false := by rw [hx2]; rfl
  unfold getAttr getAttrBy
  refine wpAny_bind (wpAny_mkText (wpAny_holding (wpAny_bind (L0.at (wpAny_bind (L1.at ?_))))))
  (try dsimp only)
  rw [hx1, if_neg Bool.false_ne_true]
  unfold getAttrByItsOwn hookBefore
  refine wpAny_bind ?_
  rw [if_pos (show onTheHeap (Value.ref 61) = true from rfl)]
  refine L2.at ?_
  unfold callGetattribute
  rw [hx0, if_neg Bool.false_ne_true]
  unfold boundAndCalled
  refine wpAny_bind (wpAny_attempt (wpAny_holding (wpAny_bind (L3.at ?_))))
  dsimp only [List.cons_append, List.nil_append]
  refine wpAny_call ?_
  refine codeAny_call_builtin (by decide +kernel) PySem.F.entry_bexc_ga (check_slot (i := "BaseException.__getattribute__") (owner := "BaseException") (n := "__getattribute__") (by decide +kernel) (by decide +kernel) (L0.andThen (f_subBase X)) (PySem.F.args_bexc_ga _ _) ?_)
  unfold Builtin.«object.__getattribute__»
  refine wpAny_bind (wpAny_pure (a := (Value.ref x, [Value.str name t])) ?_)
  refine wpAny_bind (wpAny_pure (a := name) ?_)
  refine wpAny_bind (L0.at (wpAny_bind (L4.at (wpAny_pure ?_))))
  show wpAny _ _ (handedOut v) _ _ _
  rw [handedOut_of hv]
  exact wpAny_pure h
end
end
section
open PySem.Calls
section
variable {w : World} {A : Around} {E : Value → Shared → Prop} {s s₀ : Shared} {g h₁ : Heap} {L e : Addr} {m : Str → Option Value} {ro : List (Addr × Obj)} {l : List Env} {env : Env} {M : Model}
def DxAt (g : Heap) (dxl : List (Addr × Obj)) (dx : Addr) (od : Obj) : Prop := ∀ h' : Heap, (∀ b o, g.get? b = some o → h'.get? b = some o) → (∀ p ∈ dxl, h'.get? p.1 = some p.2) → h'.get? dx = some od
def FlOk (h : Heap) (fr : List Addr) (fl : List (Addr × Obj)) : Prop := ∀ b ∈ fr, ∀ o, h.get? b = some o → ∃ sl, (b, ({ o with slots := sl } : Obj)) ∈ fl
def Caught (g : Heap) (e : Addr) (what : Str) (pl : Int) (cl : List (Addr × Obj)) : Prop :=
  ∃ oe dx od dxl es n t1 t2, (e, oe) ∈ cl ∧ oe.cls = .ref 61 ∧ oe.dict = some dx ∧ notCls oe = true ∧ (∀ p ∈ dxl, p ∈ cl) ∧ DxAt g dxl dx od ∧ od.data = .dict (List.toArray es) n ∧ getL "what" es = some (some (.str what t1)) ∧ getL "at" es = some (some (.int pl t2))
theorem caught_get {name : Str} {v : Value} {expr : Bool} {Q : Value → Shared → Prop} {cl led : List (Addr × Obj)} {oe od : Obj} {dx : Addr} {dxl : List (Addr × Obj)} {es : List DictEntry} {n : Nat} (F : Fr g L s.heap m) (X : (KK w.params).In g) (N : News g L s.heap led) (hs : ∀ p ∈ cl, p ∈ led)
    (h1 : (e, oe) ∈ cl) (h2 : oe.cls = .ref 61) (h3 : oe.dict = some dx) (h4 : notCls oe = true) (h5 : ∀ p ∈ dxl, p ∈ cl) (h6 : DxAt g dxl dx od) (h7 : od.data = .dict (List.toArray es) n) (h8 : getL name es = some (some v)) (hv : handedIn v = true)
    (ha : findIn (KK w.params) (.ref 61) name = some none) (h : Q v { s with toks := s.toks + 1 }) : wpAny (model rw_pb0183_01.row.prog w) A (getAttr (.ref e) name expr) Q E s := by
  have he := (N _ (hs _ h1)).1
  have hd := h6 s.heap F.keep fun p hp => (N p (hs p (h5 p hp))).1
  have hl : lookIn name od = some (some v) := by
    unfold lookIn
    rw [h7]
    exact h8
  exact eg_get (ox := oe) (od := od) (X.keeps F.keep) ⟨he, h2, h4, by rw [h3]; exact hd⟩ (findObj_own (attr := none) (by exact rfl) ha (by exact rfl) hl) hv h
theorem catch_start {tk' : Nat} {h' : Heap} {what : Str} {pl : Int} {Q : Unit → Shared → Prop} (hA : A.frames = some (env :: l)) (hf : env.frame = some L) (hke : env.scope.kind = .function) (fs : s₀.heap.FunFrames noHeap l) (F : Fr g L h₁ m) (N : News g L h₁ (ro ++ objsAt s₀.heap (frs l))) (hfl : ∀ b ∈ frs l, g.get? b = none) (hro : ∀ q ∈ ro, q.1 ∉ frs l) (hw : m "what" = none)
    (Th : Thrown (env :: l) [] h₁ h' e what pl)
    (hq : ∀ h₃ cl fl T dx, Fr g L h₃ m → News g L h₃ (cl ++ (ro ++ fl)) → Caught g e what pl cl → FlOk s₀.heap (frs l) fl → Fault h₃ e T dx what pl → (∀ p ∈ cl ++ (ro ++ fl), p.1 ≠ T) → g.get? T = none → T ≠ L → h₁.objs.size ≤ h₃.objs.size → h₁.objs.size ≤ e → h₁.objs.size ≤ T → Q () { s with heap := h₃, toks := tk' }) :
    wpAny M A (noteFrame (.ref e) env) (fun _ s₂ => wpAny M A (setFlight (.ref e) none) Q E s₂) E { s with heap := h', toks := tk' } := by
  refine xE0_4 Th ?_; (try clear Th); intro k1 k2 k3 zq1'; refine xE2_3 zq1' ?_; clear zq1'; intro T dx hF n1 n2
  have hLs : @LT.lt Nat _ L h₁.objs.size := F.ns.lt
  have n1 : @LE.le Nat _ h₁.objs.size e := n1
  have n2 : @LE.le Nat _ h₁.objs.size T := n2
  have k3 : @LE.le Nat _ h₁.objs.size h'.objs.size := k3
  have hfr : ∀ b ∈ frs l, ∀ o, s₀.heap.get? b = some o → h₁.get? b = some o := fun b hb o q => (N (b, o) (List.mem_append_right _ (mem_objsAt.mpr ⟨hb, q⟩))).1
  have hLl : L ∉ frs l := fun hm => by
    refine xE1_2 (frs_mem fs hm) ?_; intro o ho _
    exact (N (L, o) (List.mem_append_right _ (mem_objsAt.mpr ⟨hm, ho⟩))).2.1 rfl
  have fr2 : h'.FunFrames noHeap (env :: l) := by
    refine xE3_3 (F.ns) ?_; intro oL es ep hoL hd _
    refine xE1_1 (k2 L oL hoL (fun h => nomatch h)) ?_; intro sl hs
    refine xI0_3 (by rw [hke]; decide) ⟨L, _, hf, rfl, hs, fun vs q => by dsimp only at q; rw [hd] at q; cases q⟩ (funFrames_of fs fun b hb o q => ?_)
    refine xE1_1 (k2 b o (hfr b hb o q) (fun h => nomatch h)) ?_; intro sl hs
    exact xI1_2 _ hs rfl
  refine note_N (s := { s with heap := h', toks := tk' }) hA fr2 hf hF fun h₂ T' hN nT hsz c d => ?_
  have nT : @LE.le Nat _ h'.objs.size T' := nT
  have hsz : @LE.le Nat _ h'.objs.size h₂.objs.size := hsz
  refine flight_N (s := { s with heap := h₂, toks := tk' }) (f := none) hN fun h₃ c3 z3 hT3 hD3 => ?_
  have z3 : @Eq Nat h₃.objs.size h₂.objs.size := z3
  have old : ∀ b o, h₁.get? b = some o → b ∉ frs (env :: l) → h₃.get? b = some o := fun b o q hb => by
    have hlt : @LT.lt Nat _ b h₁.objs.size := Heap.lt_size q
    exact c3 b o (c b o (k1 b o q (fun h => nomatch h) hb) (neN (by omega)) (neN (by omega)) hb) (neN (by omega))
  have olds : ∀ b o, h₁.get? b = some o → ∃ sl, h₃.get? b = some { o with slots := sl } := fun b o q => by
    have hlt : @LT.lt Nat _ b h₁.objs.size := Heap.lt_size q
    refine xE1_1 (k2 b o q (fun h => nomatch h)) ?_; intro sl q1
    refine xE1_1 (d b _ q1 (neN (by omega)) (neN (by omega))) ?_; intro sl2 q2
    exact ⟨sl2, c3 b _ q2 (neN (by omega))⟩
  have hfr' : ∀ b, b ∈ frs (env :: l) → b = L ∨ b ∈ frs l := fun b hb => by
    unfold frs at hb ⊢
    rw [List.filterMap_cons, hf] at hb
    exact (List.mem_cons.mp hb)
  have gfresh : ∀ b, @LE.le Nat _ h₁.objs.size b → g.get? b = none := fun b hb => by
    cases q : g.get? b with
    | none => rfl
    | some o => have hlt : @LT.lt Nat _ b h₁.objs.size := Heap.lt_size (F.keep b o q); omega
  have gkeep : ∀ b o, g.get? b = some o → h₃.get? b = some o := fun b o q => old b o (F.keep b o q) fun hb => by
    (refine (let gk : Prop := _; (?_ : gk)); rcases hfr' b hb with rfl | hb <;> k_unfold)
    · have hlt : @LT.lt Nat _ b g.objs.size := Heap.lt_size q
      have : @LE.le Nat _ g.objs.size b := F.above
      omega
    · rw [hfl b hb] at q; cases q
  have F3 : Fr g L h₃ m := by
    refine xE3_2 (F.ns) ?_; intro oL es ep hoL r
    refine xE1_1 (olds L oL hoL) ?_; intro sl hs
    exact ⟨⟨_, es, ep, hs, r⟩, gkeep, F.above⟩
  refine xE4_5 hT3 ?_; (try clear hT3); intro oe vs oT ts zq2' b1 b2 b3 b4; refine xE0_5 zq2' ?_; clear zq2'; intro a1 a2 a3 a4 a5
  refine xE5_4 hD3 ?_; (try clear hD3); intro od es n t1 t2 f1 f2 f3 f4
  have heL : e ≠ L := neN (by omega)
  have small : ∀ p ∈ ro ++ objsAt h₃ (frs l), p.1 ≠ T' := fun p hp => by
    (refine (let gk : Prop := _; (?_ : gk)); rcases List.mem_append.mp hp with hp | hp <;> k_unfold)
    · have hlt : @LT.lt Nat _ p.1 h₁.objs.size := Heap.lt_size (N p (List.mem_append_left _ hp)).1
      exact neN (by omega)
    · refine xE0_2 (mem_objsAt.mp hp) ?_; intro y1 _
      refine xE1_2 (frs_mem fs y1) ?_; intro o ho _
      have hlt : @LT.lt Nat _ p.1 h₁.objs.size := Heap.lt_size (hfr _ y1 o ho)
      exact neN (by omega)
  by_cases hg : g.get? dx = none ∧ dx ≠ L
  · refine hq h₃ [(e, oe), (dx, od)] (objsAt h₃ (frs l)) T' dx F3 (fun p hp => ?_) ⟨oe, dx, od, [(dx, od)], es, n, t1, t2, .head _, a2, a3, by unfold notCls; rw [a4], fun p hp => .tail _ hp, fun h' _ k => k _ (.head _), f2, f3, f4⟩ (fun b hb o q => ?_)
      ⟨oe, vs, _, ⟨a1, a2, a3, a4, a5⟩, .inr ⟨rfl, b1, oT, ts, b2, b3, b4⟩, od, es, n, t1, t2, f1, f2, f3, f4⟩ (fun p hp => ?_) (gfresh _ (by omega)) (neN (by omega)) (by omega : @LE.le Nat _ _ _) n1 (by omega : @LE.le Nat _ _ _)
    · (refine (let gk : Prop := _; (?_ : gk)); rcases List.mem_append.mp hp with hp | hp <;> k_unfold)
      · (refine (let gk : Prop := _; (?_ : gk)); rcases List.mem_cons.mp hp with rfl | hp <;> k_unfold)
        · exact xI0_3 a1 heL (gfresh _ n1)
        · rw [List.mem_singleton.mp hp]
          exact xI0_3 f1 hg.2 hg.1
      · (refine (let gk : Prop := _; (?_ : gk)); rcases List.mem_append.mp hp with hp | hp <;> k_unfold)
        · have z := N p (List.mem_append_left _ hp)
          exact ⟨old _ _ z.1 (fun hb => (hfr' _ hb).elim z.2.1 (hro p hp)), z.2⟩
        · refine xE0_2 (mem_objsAt.mp hp) ?_; intro y1 y2
          exact xI0_3 y2 (fun e' => hLl (e' ▸ y1)) (hfl _ y1)
    · refine xE1_1 (olds b o (hfr b hb o q)) ?_; intro sl hs
      exact ⟨sl, mem_objsAt.mpr ⟨hb, hs⟩⟩
    · (refine (let gk : Prop := _; (?_ : gk)); rcases List.mem_append.mp hp with hp | hp <;> k_unfold)
      · (refine (let gk : Prop := _; (?_ : gk)); rcases List.mem_cons.mp hp with rfl | hp <;> k_unfold)
        · exact Ne.symm b1
        · rw [List.mem_singleton.mp hp]
          rintro rfl
          rw [f1] at b2
          cases b2
          rw [f2] at b3
          cases b3
      · exact small p hp
  · have hgd : ∃ o, g.get? dx = some o := by
      cases q : g.get? dx with
      | some o => exact ⟨o, rfl⟩
      | none =>
        exfalso
        have hdL : dx = L := Classical.byContradiction fun hn => hg ⟨q, hn⟩
        subst hdL
        refine xE3_4 (F.ns) ?_; intro oL es0 ep hoL hd0 _ hfind
        refine xE1_1 (olds dx oL hoL) ?_; intro sl hs
        rw [f1] at hs
        cases hs
        dsimp only at f2
        rw [hd0] at f2
        cases f2
        exact ns_has f3 ((hfind _).trans hw)
    refine xE1_1 hgd ?_; (try clear hgd); intro o' ho'
    have e1 : o' = od := by
      have := gkeep _ _ ho'
      rw [f1] at this
      exact (Option.some.inj this).symm
    subst e1
    refine hq h₃ [(e, oe)] (objsAt h₃ (frs l)) T' dx F3 (fun p hp => ?_) ⟨oe, dx, o', [], es, n, t1, t2, .head _, a2, a3, by unfold notCls; rw [a4], (fun _ h => nomatch h), fun h' k _ => k _ _ ho', f2, f3, f4⟩ (fun b hb o q => ?_)
      ⟨oe, vs, _, ⟨a1, a2, a3, a4, a5⟩, .inr ⟨rfl, b1, oT, ts, b2, b3, b4⟩, o', es, n, t1, t2, f1, f2, f3, f4⟩ (fun p hp => ?_) (gfresh _ (by omega)) (neN (by omega)) (by omega : @LE.le Nat _ _ _) n1 (by omega : @LE.le Nat _ _ _)
    · (refine (let gk : Prop := _; (?_ : gk)); rcases List.mem_append.mp hp with hp | hp <;> k_unfold)
      · rw [List.mem_singleton.mp hp]
        exact xI0_3 a1 heL (gfresh _ n1)
      · (refine (let gk : Prop := _; (?_ : gk)); rcases List.mem_append.mp hp with hp | hp <;> k_unfold)
        · have z := N p (List.mem_append_left _ hp)
          exact ⟨old _ _ z.1 (fun hb => (hfr' _ hb).elim z.2.1 (hro p hp)), z.2⟩
        · refine xE0_2 (mem_objsAt.mp hp) ?_; intro y1 y2
          exact xI0_3 y2 (fun e' => hLl (e' ▸ y1)) (hfl _ y1)
    · refine xE1_1 (olds b o (hfr b hb o q)) ?_; intro sl hs
      exact ⟨sl, mem_objsAt.mpr ⟨hb, hs⟩⟩
    · (refine (let gk : Prop := _; (?_ : gk)); rcases List.mem_append.mp hp with hp | hp <;> k_unfold)
      · rw [List.mem_singleton.mp hp]
        exact Ne.symm b1
      · exact small p hp
theorem flight_again {T dx : Addr} {what : Str} {pl : Int} {led : List (Addr × Obj)} {Q : Unit → Shared → Prop} (hF : Fault s.heap e T dx what pl) (F : Fr g L s.heap m) (N : News g L s.heap led) (off : ∀ p ∈ led, p.1 ≠ T) (gT : g.get? T = none) (LT : T ≠ L)
    (hq : ∀ h', Fr g L h' m → News g L h' led → Q () { s with heap := h' }) : wpAny M A (setFlight (.ref e) none) Q E s := by
  refine xE3_3 hF ?_; (try clear hF); intro oe vs tb zq3' ht _; refine xE0_5 zq3' ?_; clear zq3'; intro he _ _ hd h1
  unfold setFlight
  refine wpAny_bind (wpAny_field he hd h1 ?_)
  (refine (let gk : Prop := _; (?_ : gk)); rcases ht with rfl | ⟨rfl, hTe, oT, ts, hT, hdT, h3⟩ <;> k_unfold)
  · rw [if_neg (by decide)]
    exact wpAny_pure (hq _ F N)
  · rw [if_pos (show (Value.ref T != Value.none) = true from by simp)]
    have hs := Heap.SameBut.update s.heap T (Obj.mapFields (·.setIfInBounds 3 ((none : Option Addr).elim Value.none fun f => rawInt f)))
    refine wpAny_setField hT hdT (Array.getElem?_eq_some_iff.mp h3).1 ?_
    exact hq _ (F.change hs LT gT) fun p hp => ⟨hs.extBut _ _ (off p hp) (N p hp).1, (N p hp).2⟩
end
end
section
open PySem.Calls
def AskP (X : Dat → Prop) (h h' : Heap) (v : Value) : Prop := ∃ tl d, Made h h' tl ∧ DatIn tl v d ∧ X d
def HeardX (X : Dat → Prop) (R : Str → Int → Prop) (d : Dat) : Prop := (∃ d0, X d0 ∧ d = .tuple [.str "told", d0]) ∨ ∃ what pl, R what pl ∧ d = .tuple [.str "fault", .str what, .int pl]
section
variable {s g h₁ h' : Heap} {L D : Addr} {m : Str → Option Value} {ro led tl : List (Addr × Obj)} {l : List Env} {o : Obj}
theorem flOk_same (h : ∀ p ∈ objsAt s (frs l), p ∈ led) : FlOk s (frs l) led := fun b hb o q => ⟨o.slots, h (b, o) (mem_objsAt.mpr ⟨hb, q⟩)⟩
theorem FlOk.sub (h : FlOk s (frs l) tl) (hs : ∀ p ∈ tl, p ∈ led) : FlOk s (frs l) led := fun b hb o q => by
  refine xE1_1 (h b hb o q) ?_; intro sl h1
  exact ⟨sl, hs _ h1⟩
theorem backC_of (hgk : ∀ b o, s.get? b = some o → b ∉ ro.map (·.1) → b ∉ frs l → g.get? b = some o) (hro : ∀ q ∈ ro, s.get? q.1 = some q.2 ∧ g.get? q.1 = none ∧ q.1 ∉ frs l) (F : Fr g L h' m) (N : News g L h' led) (h1 : ∀ p ∈ ro, p ∈ led) (h2 : FlOk s (frs l) led) (hL : s.objs.size = L) : BackC l s h' := by
  have keep : ∀ b o, s.get? b = some o → b ∉ frs l → h'.get? b = some o := fun b o q hb => by
    by_cases hr : b ∈ ro.map (·.1)
    · refine xE1_2 (List.mem_map.mp hr) ?_; intro p hp zq1'; subst zq1'
      have e := (hro p hp).1
      rw [q] at e
      cases e
      exact (N p (h1 p hp)).1
    · exact F.keep b o (hgk b o q hr hb)
  refine ⟨keep, fun b o q => ?_, by rw [hL]; exact Nat.le_of_lt F.ns.lt⟩
  by_cases hb : b ∈ frs l
  · refine xE1_1 (h2 b hb o q) ?_; intro sl h3
    exact ⟨sl, (N _ h3).1⟩
  · exact ⟨o.slots, keep b o q hb⟩
theorem fresh_in (hgk : ∀ b o, s.get? b = some o → b ∉ ro.map (·.1) → b ∉ frs l → g.get? b = some o) (N : News g L h' ((D, o) :: led)) (l1 : ∀ p ∈ led, p.1 < D) (h1 : ∀ p ∈ ro, p ∈ led) (h2 : FlOk s (frs l) led) : s.get? D = none := by
  cases q : s.get? D with
  | none => rfl
  | some o' =>
    exfalso
    by_cases hr : D ∈ ro.map (·.1)
    · refine xE1_2 (List.mem_map.mp hr) ?_; intro p hp e
      exact Nat.lt_irrefl _ (e ▸ l1 p (h1 p hp))
    · by_cases hb : D ∈ frs l
      · refine xE1_1 (h2 D hb o' q) ?_; intro sl h3
        exact Nat.lt_irrefl _ (l1 _ h3)
      · have := (N _ (.head _)).2.2
        rw [hgk D o' q hr hb] at this
        cases this
theorem fresh_tl {h₂ : Heap} (hgk : ∀ b o, s.get? b = some o → b ∉ ro.map (·.1) → b ∉ frs l → g.get? b = some o) (N₁ : News g L h₁ (ro ++ objsAt s (frs l))) (M : Made h₁ h₂ tl) (hg : ∀ p ∈ tl, g.get? p.1 = none) : ∀ p ∈ tl, s.get? p.1 = none := fun p hp => by
  cases q : s.get? p.1 with
  | none => rfl
  | some o' =>
    exfalso
    have hn := (M p hp).2
    by_cases hr : p.1 ∈ ro.map (·.1)
    · refine xE1_2 (List.mem_map.mp hr) ?_; intro x hx e
      have := (N₁ x (List.mem_append_left _ hx)).1
      rw [e, hn] at this
      cases this
    · by_cases hb : p.1 ∈ frs l
      · have := (N₁ (p.1, o') (List.mem_append_right _ (mem_objsAt.mpr ⟨hb, q⟩))).1
        rw [hn] at this
        cases this
      · have := hg p hp
        rw [hgk _ o' q hr hb] at this
        cases this
end
section
variable {s₀ : Shared} {g h₁ h' : Heap} {L D : Addr} {m : Str → Option Value} {ro tl cl' fl : List (Addr × Obj)} {l : List Env} {n tk' : Nat} {X₀ : Dat → Prop} {R : Str → Int → Prop} {Q : Value → Shared → Prop} {tk u1 u2 : Tok} {v : Value} {d : Dat} {what : Str} {pl : Int}
theorem told_end (hX : ∀ v h' tk', BackC l s₀.heap h' → AskP (HeardX X₀ R) s₀.heap h' v → Q v { s₀ with heap := h', toks := tk' }) (hgk : ∀ b o, s₀.heap.get? b = some o → b ∉ ro.map (·.1) → b ∉ frs l → g.get? b = some o) (hro : ∀ q ∈ ro, s₀.heap.get? q.1 = some q.2 ∧ g.get? q.1 = none ∧ q.1 ∉ frs l) (hL : s₀.heap.objs.size = L)
    (hT : ∀ p ∈ tl, s₀.heap.get? p.1 = none) (hd : DatIn tl v d) (hx : X₀ d) (F : Fr g L h' m) (N : News g L h' ((D, { cls := .type "tuple", data := .seq #[.str "told" tk, v] n }) :: (ro ++ objsAt s₀.heap (frs l) ++ tl))) (l1 : ∀ p ∈ ro ++ objsAt s₀.heap (frs l) ++ tl, p.1 < D) : Q (.ref D) { s₀ with heap := h', toks := tk' } := by
  have h1 : ∀ p ∈ ro, p ∈ ro ++ objsAt s₀.heap (frs l) ++ tl := fun p hp => List.mem_append_left _ (List.mem_append_left _ hp)
  have h2 : FlOk s₀.heap (frs l) (ro ++ objsAt s₀.heap (frs l) ++ tl) := flOk_same fun p hp => List.mem_append_left _ (List.mem_append_right _ hp)
  refine hX _ _ _ (backC_of hgk hro F N (fun p hp => .tail _ (h1 p hp)) (h2.sub fun p hp => .tail _ hp) hL) ⟨(D, { cls := .type "tuple", data := .seq #[.str "told" tk, v] n }) :: tl, .tuple [.str "told", d], fun p hp => ?_, .tuple (vs := [_, _]) (.head _) (.cons (.str _ _) (.cons (hd.mono fun p hp => .tail _ hp) .nil)), .inl ⟨d, hx, rfl⟩⟩
  rcases List.mem_cons.mp hp with rfl | hp
  · exact ⟨(N _ (.head _)).1, fresh_in hgk N l1 h1 h2⟩
  · have z := N p (.tail _ (List.mem_append_right _ hp))
    exact ⟨z.1, hT p hp⟩
theorem fault_end (hX : ∀ v h' tk', BackC l s₀.heap h' → AskP (HeardX X₀ R) s₀.heap h' v → Q v { s₀ with heap := h', toks := tk' }) (hgk : ∀ b o, s₀.heap.get? b = some o → b ∉ ro.map (·.1) → b ∉ frs l → g.get? b = some o) (hro : ∀ q ∈ ro, s₀.heap.get? q.1 = some q.2 ∧ g.get? q.1 = none ∧ q.1 ∉ frs l) (hL : s₀.heap.objs.size = L)
    (hFl : FlOk s₀.heap (frs l) fl) (hR : R what pl) (F : Fr g L h' m) (N : News g L h' ((D, { cls := .type "tuple", data := .seq #[.str "fault" tk, .str what u1, .int pl u2] n }) :: (cl' ++ (ro ++ fl)))) (l1 : ∀ p ∈ cl' ++ (ro ++ fl), p.1 < D) : Q (.ref D) { s₀ with heap := h', toks := tk' } := by
  have h1 : ∀ p ∈ ro, p ∈ cl' ++ (ro ++ fl) := fun p hp => List.mem_append_right _ (List.mem_append_left _ hp)
  have h2 : FlOk s₀.heap (frs l) (cl' ++ (ro ++ fl)) := hFl.sub fun p hp => List.mem_append_right _ (List.mem_append_right _ hp)
  refine hX _ _ _ (backC_of hgk hro F N (fun p hp => .tail _ (h1 p hp)) (h2.sub fun p hp => .tail _ hp) hL) ⟨[(D, { cls := .type "tuple", data := .seq #[.str "fault" tk, .str what u1, .int pl u2] n })], .tuple [.str "fault", .str what, .int pl], fun p hp => ?_, .tuple (vs := [_, _, _]) (.head _) (.cons (.str _ _) (.cons (.str _ _) (.cons (.int _ _) .nil))), .inr ⟨what, pl, hR, rfl⟩⟩
  rw [List.mem_singleton.mp hp]
  exact ⟨(N _ (.head _)).1, fresh_in hgk N l1 h1 h2⟩
end
theorem heard_spec {w : World} {f : Addr} {ro : List (Addr × Obj)} {X₀ : Dat → Prop} {R : Str → Int → Prop} {nm ql : Str} {pa : Arguments} {bd : Expr} {sc : Scope} {cl : List (Str × Addr)} {pm ctv : Value} {cd : Addr} (hfo : (f, kla_obj nm ql pa bd sc cl pm cd ctv) ∈ ro) (C : SpecR w f 740 740 [] ro (AskP X₀) R) :
    SpecC w 368 720 720 [.ref f] ro (AskP (HeardX X₀ R)) := by
  ((refine' enterS ?ho ?hcd ?hD ?hb ?hl ?_ ?hc ?c1 ?c2 ?c3; (case ho => exact rfl); (case hcd => exact rfl); (case hD => decide); (case hb => exact fun s'r X'r => BindsTo.of_eq rfl); (case hl => exact locs rfl); (case hc => decide); (case c1 => exact rfl); (case c2 => exact rfl); (case c3 => exact rfl); intro p'r loose'r mean'r mg'r mb'r gd'r l'r s'r Q'r E'r g'r h₁'r F'r N'r X'r T'r fs'r hgk'r hfl'r hro'r hX'r; generalize hLe : s'r.heap.objs.size = L at F'r N'r ⊢; revert X'r; k_fill; intro X'r; (try dsimp only); k_fold))
  (repeat' (first | ((with_reducible first | refine nextN ?_ | refine nextR ?_); (try dsimp only)) | (k_unfold; (try dsimp only)) | (k_end; kc_close) | ((with_reducible first | show wpAny _ _ (exec _ _) _ _ _ | show wpAny _ _ (eval (Expr.Call ..) _) _ _ _ | show wpAny _ _ (eval (Expr.BinOp ..) _) _ _ _ | show wpAny _ _ (eval (Expr.Subscript ..) _) _ _ _ | show wpAny _ _ (eval (Expr.List ..) _) _ _ _ | show wpAny _ _ (eval (Expr.Tuple ..) _) _ _ _); (fail_if_success (fail_if_success k_fold)); refine (let qk := _; (?_ : wpAny _ _ _ qk _ _))) | ((with_reducible refine execsN ?_); (try k_gentoks)) | ((with_reducible refine args_cons ?_ ?he); (case he => exact rfl)) | ((with_reducible show wpAny _ _ (call (Value.ref _) _ _) _ _ _); (k_here; (try ((fail_if_success (fail_if_success k_fold)); refine (let qk := _; (?_ : wpAny _ _ _ qk _ _)))); (try dsimp only); k_dflt (refine' SpecR.here (by assumption) ?F ?N ?X ?T ?fs ?hro ?hA ?hf ?hke ?hh ?hd ?hu ?_ ?_; (case F => k_asm); (case N => assumption); (case X => k_asm); (case T => k_asm); (case fs => assumption); (case hro => assumption); (case hA => exact rfl); (case hf => exact rfl); (case hke => exact rfl); (case hh => exact rfl); (case hd => exact Nat.le_of_ble_eq_true rfl); (case hu => exact Nat.le_of_ble_eq_true rfl)); intro v'r h'r tk'r F'r hb'r hP'r; refine xE2_3 hP'r ?_; clear hP'r; intro tl'r d'r hM'r hD'r hX'r; (rename News _ _ _ _ => N8'r); (have N'r := Made.news hM'r (by assumption) (news_back0 N8'r hb'r)); (have hT'r := fresh_tl (by assumption) N8'r hM'r (fun p hp => (N'r p (List.mem_append_right _ hp)).2.2)))) | ((with_reducible show wpAny _ _ (callWith _ (Value.ref _) _ _ _) _ _ _); (k_here; k_dflt (refine callWith_F0 (FnAt.of (by k_asm) (List.mem_append_left _ (by assumption))) ?_); (try dsimp only [List.nil_append, List.cons_append]))) | walk1 | (dsimp only; walk1) | (dsimp only [mA]; walk1) | (dsimp only [mE]; walk1) | (dsimp only [mA, mE]; walk1) | (leave1; (try dsimp only))))
  · rename News _ _ _ _ => N9
    exact told_end (by assumption) (by assumption) (by assumption) (by assumption) (by assumption) (by assumption) (by assumption) (by assumption) N9 (by assumption)
  · rename Thrown _ _ _ _ _ _ _ => hTh
    rename News _ _ _ _ => N9
    rename Fr _ _ _ _ => F9
    rename ∀ q ∈ ro, _ ∧ _ ∧ _ => hro9
    refine catch_start rfl rfl rfl (by assumption) F9 N9 (by assumption) (fun q hq => (hro9 q hq).2.2) (by with_unfolding_all rfl) hTh fun h₃ cl' fl T dx F3 N3 hC hFl hF offT gT LT z1 z2 z3 => ?_
    clear F9 N9
    refine wpAny_handleBy_cons (codeAny_handlers_test ?_) (by intro q; cases q)
    (repeat' (first | ((with_reducible first | refine nextN ?_ | refine nextR ?_); (try dsimp only)) | (k_unfold; (try dsimp only)) | (k_end; kc_close) | ((with_reducible first | show wpAny _ _ (exec _ _) _ _ _ | show wpAny _ _ (eval (Expr.Call ..) _) _ _ _ | show wpAny _ _ (eval (Expr.BinOp ..) _) _ _ _ | show wpAny _ _ (eval (Expr.Subscript ..) _) _ _ _ | show wpAny _ _ (eval (Expr.List ..) _) _ _ _ | show wpAny _ _ (eval (Expr.Tuple ..) _) _ _ _); (fail_if_success (fail_if_success k_fold)); refine (let qk := _; (?_ : wpAny _ _ _ qk _ _))) | ((with_reducible refine execsN ?_); (try k_gentoks)) | ((with_reducible refine args_cons ?_ ?he); (case he => exact rfl)) | walk1 | (dsimp only; walk1) | (dsimp only [mA]; walk1) | (dsimp only [mE]; walk1) | (dsimp only [mA, mE]; walk1) | (leave1; (try dsimp only))))
    rename (KK w.params).In _ => hK9
    have hX9 : (KK w.params).In h₃ := hK9.keeps F3.keep
    refine xE8_9 hC ?_; (try clear hC); intro oe dx' od dxl es n u1 u2 c1 c2 c3 c4 c5 c6 c7 c8 c9
    have he : h₃.get? _ = some oe := (N3 _ (List.mem_append_left _ c1)).1
    refine (exm_one (c := .ref 61) (cls := .ref 61) hX9 (c2 ▸ (Looks.ld he).andThen .now) (b := true) (by rfl)).here ?_
    simp only [if_true]
    refine codeAny_handlers_suite_as ?_
    refine flight_again hF F3 N3 offT gT LT fun h₄ F4 N4 => ?_
    clear F3 N3 hX9 he
    (repeat' (first | ((with_reducible first | refine nextN ?_ | refine nextR ?_); (try dsimp only)) | (k_unfold; (try dsimp only)) | (k_end; kc_close) | ((with_reducible first | show wpAny _ _ (exec _ _) _ _ _ | show wpAny _ _ (eval (Expr.Call ..) _) _ _ _ | show wpAny _ _ (eval (Expr.BinOp ..) _) _ _ _ | show wpAny _ _ (eval (Expr.Subscript ..) _) _ _ _ | show wpAny _ _ (eval (Expr.List ..) _) _ _ _ | show wpAny _ _ (eval (Expr.Tuple ..) _) _ _ _); (fail_if_success (fail_if_success k_fold)); refine (let qk := _; (?_ : wpAny _ _ _ qk _ _))) | ((with_reducible refine execsN ?_); (try k_gentoks)) | ((with_reducible refine args_cons ?_ ?he); (case he => exact rfl)) | ((with_reducible show wpAny _ _ (getAttr (Value.ref _) _ _) _ _ _); (k_here; k_dflt (refine caught_get (by k_asm) (by k_asm) (by k_asm) (fun p hp => List.mem_append_left _ hp) (by assumption) (by assumption) (by assumption) (by assumption) (by assumption) (by assumption) (by assumption) (by assumption) (by rfl) (by kernel_rfl) ?_))) | ((with_reducible show wpAny _ _ (storeName _ _ _) _ _ _); (k_here; k_dflt (refine' storeX_L ?sF ?sN ?_ rfl rfl; (case sF => k_asm); (case sN => k_asm); k_whole; intro hS FS NS; (try k_sweep); refine (let mk := _; (fun (FK : Fr _ _ _ mk) => ?_) FS); clear FS))) | walk1 | (dsimp only; walk1) | (dsimp only [mA]; walk1) | (dsimp only [mE]; walk1) | (dsimp only [mA, mE]; walk1) | (leave1; (try dsimp only))))
    rename News _ _ _ _ => N9
    exact fault_end (by assumption) (by assumption) hro9 (by assumption) hFl (by assumption) (by assumption) N9 (by assumption)
end
section
open PySem.Calls
theorem Thrown.leaveR {M : Model} {A : Around} {E : Value → Shared → Prop} {s : Shared} {l : List Env} {env : Env} {hc g h₁ : Heap} {L e : Addr} {m : Str → Option Value} {what : Str} {pl : Int} {Q : Unit → Shared → Prop}
    (hA : A.frames = some (env :: l)) (hf : env.frame = some L) (hke : env.scope.kind = .function) (hgf : g.FunFrames noHeap l) (hb₁ : ∀ b o, hc.get? b = some o → h₁.get? b = some o) (hL : hc.objs.size ≤ L)
    (F : Fr g L h₁ m) (Th : Thrown (env :: l) [] h₁ s.heap e what pl)
    (h : ∀ h', Thrown l [] hc h' e what pl → Q () { s with heap := h' }) : wpAny M A (leaving env (.ref e)) Q E s := by
  refine xE0_4 Th ?_; (try clear Th); intro k1 k2 k3 zq1'; refine xE2_3 zq1' ?_; clear zq1'; intro T dx hF n1 n2
  have hLs : @LT.lt Nat _ L h₁.objs.size := F.ns.lt
  have hL : @LE.le Nat _ hc.objs.size L := hL
  have n1 : @LE.le Nat _ h₁.objs.size e := n1
  have n2 : @LE.le Nat _ h₁.objs.size T := n2
  have fr2 : s.heap.FunFrames noHeap (env :: l) := by
    refine xE3_3 (F.ns) ?_; intro oL es ep hoL hd _
    refine xE1_1 (k2 L oL hoL (fun h => nomatch h)) ?_; intro sl hs
    refine xI0_3 (by rw [hke]; decide) ⟨L, _, hf, rfl, hs, fun vs q => by dsimp only at q; rw [hd] at q; cases q⟩ (hgf.of_keeps fun b o q _ => ?_)
    refine xE1_1 (k2 b o (F.keep b o q) (fun h => nomatch h)) ?_; intro sl hs
    exact xI1_2 _ hs rfl
  refine leaving_D hA fr2 hf hF fun h' T' hF' nT hsz c d => ?_
  have nT : @LE.le Nat _ s.heap.objs.size T' := nT
  refine h h' ⟨fun b o q hb hbl => ?_, fun b o q hb => ?_, by omega, T', dx, hF', (by omega : @LE.le Nat _ hc.objs.size e), (by omega : @LE.le Nat _ hc.objs.size T')⟩
  · have hlt : @LT.lt Nat _ b hc.objs.size := Heap.lt_size q
    have q1 := hb₁ b o q
    have hbL : b ∉ frs (env :: l) := by
      intro hm
      unfold frs at hm hbl
      rw [List.filterMap_cons, hf] at hm
      rcases List.mem_cons.mp hm with rfl | hm
      · omega
      · exact hbl hm
    exact c b o (k1 b o q1 (fun h => nomatch h) hbL) (neN (by omega)) (neN (by omega)) hbL
  · have hlt : @LT.lt Nat _ b hc.objs.size := Heap.lt_size q
    refine xE1_1 (k2 b o (hb₁ b o q) (fun h => nomatch h)) ?_; intro sl hs
    refine xE1_1 (d b _ hs (neN (by omega)) (neN (by omega))) ?_; intro sl2 hs2
    exact ⟨sl2, hs2⟩
def EndsR (l : List Env) (env : Env) (g : Heap) (L : Addr) (s : Shared) (ro : List (Addr × Obj)) (P : Heap → Heap → Value → Prop) (R : Str → Int → Prop) (Q : Value → Shared → Prop) (EB : Value → Shared → Prop) : Prop :=
  (∀ v h' tk' m led, Fr g L h' m → News g L h' led → (∀ p ∈ ro, p ∈ led) → P s.heap h' v → Q v { s with heap := h', toks := tk' }) ∧
  (∀ e h₁ h' tk' m what pl, Fr g L h₁ m → News g L h₁ ro → Thrown (env :: l) [] h₁ h' e what pl → R what pl → EB (.ref e) { s with heap := h', toks := tk' })
section
variable {w : World} {D U : Nat} {f : Addr} {ro : List (Addr × Obj)} {P : Heap → Heap → Value → Prop} {R : Str → Int → Prop}
theorem enterL {name qual : Str} {params : Arguments} {body : Expr} {scope : Scope} {cl : List (Str × Addr)} {pm ctv : Value} {c' : Addr} {oc : Obj} {vs' : Array Value} {t : Tok}
    (hfo : (f, kla_obj name qual params body scope cl pm c' ctv) ∈ ro) (hco' : (c', oc) ∈ ro) (hoc : oc.data = .fields vs') (hvs : vs'[1]? = some (.str qual t)) (hD : D < recursionLimit)
    (hbind : bindArgs (kla_fn name qual params body scope cl pm (.ref c') ctv) ⟨[], []⟩ = pure [])
    (h : ∀ {p : Program} {loose : List Str} {mean : ExcName → Option Value} {mg mb : Str → Option Value} {gd : Option (List Code)} {l : List Env} {s : Shared} {Q E : Value → Shared → Prop} (g : Heap) (L : Addr) (h₁ : Heap),
      Fr g L h₁ (fun _ => none) → News g L h₁ ro → Below (Aat D U gd l) noHeap l g → (KK w.params).In g → Top p loose mean mg mb g → s.heap.objs.size ≤ L → (∀ b o, s.heap.get? b = some o → b ∉ ro.map (·.1) → g.get? b = some o) → (∀ q ∈ ro, s.heap.get? q.1 = some q.2) →
      EndsR l (envX qual scope L f (.ref c') cl) g L s ro P R Q (fun e s' => wpAny (model rw_pb0183_01.row.prog w) ((Aat D U gd l).deeper (envX qual scope L f (.ref c') cl)) (leaving (envX qual scope L f (.ref c') cl) e) (fun _ s'' => E e s'') (fun e' s'' => E e' s'') s') →
      wpAny (model rw_pb0183_01.row.prog w) ((Aat D U gd l).deeper (envX qual scope L f (.ref c') cl)) (eval body (envX qual scope L f (.ref c') cl)) (fun v s' => Q v s')
        (fun e s' => wpAny (model rw_pb0183_01.row.prog w) ((Aat D U gd l).deeper (envX qual scope L f (.ref c') cl)) (leaving (envX qual scope L f (.ref c') cl) e) (fun _ s'' => E e s'') (fun e' s'' => E e' s'') s')
        { s with heap := h₁, toks := s.toks + 0 })
    (hcell : ∀ x ∈ scope.names, x.2 ≠ .cell) (hco : scope.isCoroutine = false) (hgen : scope.isGenerator = false) (hk : scope.kind = .function) : SpecR w f D U [] ro P R := by
  intro p loose mean mg mb H A l s Q E S hro hret hexc
  obtain ⟨hd, dp, fr, gd, un⟩ := A
  obtain ⟨X, T, st, zq2', zq3', dep, unn, fs⟩ := S; subst zq2'; subst zq3'
  dsimp only at dep unn
  refine wpAny_up (B := Aat D U gd l) ?_ rfl dep rfl rfl unn
  have stg : H.StaysIn (hideAll s.heap (ro.map (·.1))) := fun b o q => hideAll_get _ (st b o q) fun hm => by
    refine xE1_2 (List.mem_map.mp hm) ?_; intro x hx zq4'; subst zq4'
    rw [(hro x hx).2.1] at q; cases q
  have hcd : s.heap.CodeRec (.ref c') qual := ⟨c', oc, vs', t, rfl, (hro _ hco').1, hoc, hvs⟩
  refine wpAny_call (kla_callFunE hD (hro _ hfo).1 rfl hco hgen rfl hcd ?_)
  rw [hbind]
  refine wpAny_pure (wpAny_newFunctionEnv hcell (fun y hy => nomatch hy) (fun h₁ hns hsb => ⟨(T.nolimit.keeps st).fresh _ hsb, ?_⟩) hk)
  show codeAny _ _ (.expr body (envX qual scope s.heap.objs.size f (.ref c') cl)) _ _
  have hk₁ : ∀ b o, s.heap.get? b = some o → h₁.get? b = some o := fun b o e => hsb.extBut b o (Nat.ne_of_lt (Heap.lt_size e)) (Heap.get?_push_of_some _ e)
  have hgk : ∀ b o, s.heap.get? b = some o → b ∉ ro.map (·.1) → (hideAll s.heap (ro.map (·.1))).get? b = some o := fun b o q hb => hideAll_get _ q hb
  have BF : (hideAll s.heap (ro.map (·.1))).FunFrames noHeap l := funFrames_hideAll fs fun env he b hb hf => by
    refine xE1_2 (List.mem_map.mp hb) ?_; intro x hx zq5'; subst zq5'
    exact (hro x hx).2.2 (List.mem_filterMap.mpr ⟨env, he, hf⟩)
  have F : Fr (hideAll s.heap (ro.map (·.1))) s.heap.objs.size h₁ (fun _ => none) := ⟨hns, fun b o e => hk₁ b o (of_hideAll _ e), Nat.le_of_eq (hideAll_size _ _)⟩
  have N : News (hideAll s.heap (ro.map (·.1))) s.heap.objs.size h₁ ro := fun q hq => ⟨hk₁ _ _ (hro q hq).1, Nat.ne_of_lt (Heap.lt_size (hro q hq).1), hideAll_none _ (List.mem_map_of_mem hq)⟩
  have keepR : ∀ {h' : Heap} {m' : Str → Option Value} {led : List (Addr × Obj)}, Fr (hideAll s.heap (ro.map (·.1))) s.heap.objs.size h' m' → News (hideAll s.heap (ro.map (·.1))) s.heap.objs.size h' led → (∀ p ∈ ro, p ∈ led) → ∀ b o, s.heap.get? b = some o → h'.get? b = some o := fun F' N' hs b o q => by
    by_cases hb : b ∈ ro.map (·.1)
    · refine xE1_2 (List.mem_map.mp hb) ?_; intro x hx zq6'; subst zq6'
      have e := (hro x hx).1
      rw [q] at e; cases e
      exact (N' x (hs x hx)).1
    · exact F'.keep b o (hgk b o q hb)
  refine kla_codeExpr (wpAny_mono (h (gd := gd) (l := l) (s := s) (Q := Q) (E := E) _ s.heap.objs.size h₁ F N ⟨rfl, fun b o q => (by cases q), BF⟩ (X.keeps stg) (T.keeps stg) (Nat.le_refl _) hgk (fun q hq => (hro q hq).1) ⟨fun v h' tk' m led F' N' hs hP => ?_, fun e h₂ h' tk' m what pl F' N' hT hR => ?_⟩) (fun v s' hl => hl) fun _ _ y => y)
  · exact hret v h' tk' ⟨fun b o q _ => keepR F' N' hs b o q, Nat.le_of_lt F'.ns.lt⟩ hP
  · exact Thrown.leaveR (s := { s with heap := h', toks := tk' }) (A := (Aat D U gd l).deeper (envX qual scope s.heap.objs.size f (.ref c') cl)) rfl rfl hk BF (keepR F' N' fun _ h => h) (Nat.le_refl _) F' hT fun h₃ hT' => hexc e h₃ tk' what pl hT' hR
theorem Spec.hereR {A A₀ : Around} {p : Program} {loose : List Str} {mean : ExcName → Option Value} {mg mb : Str → Option Value} {l : List Env} {env : Env} {g h : Heap} {L : Addr} {s₀ : Shared} {Q Q₂ E : Value → Shared → Prop} {tk : Nat} {m : Str → Option Value}
    {f : Addr} {D U : Nat} {vs : List Value} {P₂ : Heap → Heap → Value → Prop} {R₂ : Str → Int → Prop} {led : List (Addr × Obj)}
    (C : Spec w f D U vs [] P₂ R₂) (hX : EndsR l env g L s₀ ro P R Q E) (B : Below A₀ noHeap l g) (F : Fr g L h m) (X : (KK w.params).In g) (T : Top p loose mean mg mb g) (hA : A.frames = some (env :: l)) (hf : env.frame = some L) (hke : env.scope.kind = .function)
    (hh : A.handled = none) (hd : A.depth ≤ D) (hu : A.units ≤ U) (N : News g L h led) (hs : ∀ p ∈ ro, p ∈ led) (hR : Side (∀ what pl, R₂ what pl → R what pl))
    (hret : ∀ v h' tk', Fr g L h' m → Back [] h h' → P₂ h h' v → Q₂ v { s₀ with heap := h', toks := tk' }) :
    wpAny (model rw_pb0183_01.row.prog w) A (call (.ref f) vs) Q₂ E { s₀ with heap := h, toks := tk } :=
  Spec.use (s := { s₀ with heap := h, toks := tk }) C B F X T hA hf hke hh hd hu News.nil hret fun e h' tk' what pl _ Th hr => hX.2 e h h' tk' m what pl F (fun p hp => N p (hs p hp)) Th (hR.out _ _ hr)
end
end
section
open PySem.Calls
noncomputable def lamS (i : Nat) : Option (Arguments × Expr × Scope) := match topS 33 with
  | .FunctionDef _ _ [.Return (some (.List es _)) _] _ _ _ _ _ _ _ => (match es[i]? with
    | some (.Call _ [.Lambda a b s _] _ _) => some (a, b, s)
    | _ => none)
  | _ => none
noncomputable abbrev lamRo (ql : Str) (f c' cd ca : Addr) (oc od oa : Obj) (params : Arguments) (body : Expr) (scope : Scope) (cl : List (Str × Addr)) (pm ctv : Value) : List (Addr × Obj) := [(f, kla_obj "<lambda>" ql params body scope cl pm c' ctv), (c', oc), (cd, od), (ca, oa)]
theorem madeR {s g h h' : Heap} {L : Addr} {m : Str → Option Value} {ro led tl : List (Addr × Obj)} (hgk : ∀ b o, s.get? b = some o → b ∉ ro.map (·.1) → g.get? b = some o) (hro : ∀ q ∈ ro, s.get? q.1 = some q.2) (F : Fr g L h m) (N : News g L h led) (hs : ∀ p ∈ ro, p ∈ led) (M : Made h h' tl) : Made s h' tl := fun p hp => by
  refine ⟨(M p hp).1, ?_⟩
  cases q : s.get? p.1 with
  | none => rfl
  | some o =>
    exfalso
    have hn := (M p hp).2
    by_cases hb : p.1 ∈ ro.map (·.1)
    · refine xE1_2 (List.mem_map.mp hb) ?_; intro x hx e
      have := (N x (hs x hx)).1
      rw [e, hn] at this
      cases this
    · have := F.keep _ o (hgk _ o q hb)
      rw [hn] at this
      cases this
theorem news_front {g h : Heap} {L : Addr} {a b c : Addr × Obj} {led tl : List (Addr × Obj)} (N : News g L h (led ++ tl)) (h1 : a ∈ tl) (h2 : b ∈ tl) (h3 : c ∈ tl) : News g L h (a :: b :: c :: (led ++ tl)) := fun p hp => by
  rcases List.mem_cons.mp hp with rfl | hp
  · exact N _ (List.mem_append_right _ h1)
  rcases List.mem_cons.mp hp with rfl | hp
  · exact N _ (List.mem_append_right _ h2)
  rcases List.mem_cons.mp hp with rfl | hp
  · exact N _ (List.mem_append_right _ h3)
  · exact N p hp
theorem rows_len {ks : List Int} {a : Int} {c : Nat} {rs : List Int} (h : rowsAt ks a c = .ok rs) (hz : ks.length ≤ 1000) : rs.length ≤ 1000 := by
  unfold rowsAt at h
  split at h
  · cases h
    rw [List.length_map, List.length_range]
    omega
  · cases h
theorem feat_len {ks : List Int} {a : Int} {fs : List Int} (h : featB ks a = .ok fs) (hz : ks.length ≤ 1000) : fs.length ≤ 1000 := by
  unfold featB at h
  cases h1 : u16 ks a with
  | error e => rw [andE_err h1] at h; cases h
  | ok x =>
    rw [andE_ok h1] at h
    cases h2 : u16 ks (a + 2) with
    | error e => rw [andE_err h2] at h; cases h
    | ok c =>
      rw [andE_ok h2] at h
      cases h3 : rowsAt ks (a + 2 + 2) c.toNat with
      | error e => rw [andE_err h3] at h; cases h
      | ok r =>
        rw [andE_ok h3] at h
        cases h
        exact rows_len h3 hz
theorem elim_some {α : Type} {o : Option α} {x y : α} (h : o = some x) (h' : o = some y) : x = y := Option.some.inj (h.symm.trans h')
end
section
open PySem.Calls
theorem lam_feature {w : World} {b : Array UInt8} {ks : List Int} {a : Int} {tb ta t : Tok} {f c' cd ca : Addr} {ql : Str} {oc od oa : Obj} {params : Arguments} {body : Expr} {scope : Scope} {pm ctv : Value} {vs' : Array Value} (hb : KBw.bInts b = ks) (hz : ks.length ≤ 1000) (hl : lamS 1 = some (params, body, scope)) (hoc : oc.data = .fields vs') (hvs : vs'[1]? = some (.str ql t))
    (hod : od.data = .cell (some (.bytes b tb))) (hoa : oa.data = .cell (some (.int a ta))) :
    SpecR w f 740 740 [] (lamRo ql f c' cd ca oc od oa params body scope [("data", cd), ("at", ca)] pm ctv) (AskP fun d => ∃ fs, featB ks a = .ok fs ∧ d = featDat "liga" fs) (fun what pl => featB ks a = .error (what, pl)) := by
  have hl2 := elim_some (o := lamS 1) rfl hl
  cases hl2
  ((refine' enterL (.head _) (.tail _ (.head _)) (by assumption) (by assumption) ?hD ?hb ?_ ?hc ?c1 ?c2 ?c3; (case hD => decide); (case hb => exact rfl); (case hc => decide); (case c1 => exact rfl); (case c2 => exact rfl); (case c3 => exact rfl); intro p'r loose'r mean'r mg'r mb'r gd'r l'r s'r Q'r E'r g'r L'r h₁'r F'r N'r B'r X'r T'r hL'r hgk'r hro'r hX'r; (try (refine (let mk := _; (fun (FK : Fr _ _ _ mk) => ?_) F'r); clear F'r)); (try dsimp only [lamRo] at N'r); revert X'r; k_fill; intro X'r; (try dsimp only); (try (refine (let mA := _; let mE := _; (?_ : wpAny _ mA (execs _ mE) _ _ _)))); k_fold))
  (repeat' (first | ((with_reducible first | refine nextN ?_ | refine nextR ?_); (try dsimp only)) | (k_unfold; (try dsimp only)) | (k_end; kc_close) | ((with_reducible first | show wpAny _ _ (exec _ _) _ _ _ | show wpAny _ _ (eval (Expr.Call ..) _) _ _ _ | show wpAny _ _ (eval (Expr.BinOp ..) _) _ _ _ | show wpAny _ _ (eval (Expr.Subscript ..) _) _ _ _ | show wpAny _ _ (eval (Expr.List ..) _) _ _ _ | show wpAny _ _ (eval (Expr.Tuple ..) _) _ _ _); (fail_if_success (fail_if_success k_fold)); refine (let qk := _; (?_ : wpAny _ _ _ qk _ _))) | ((with_reducible refine execsN ?_); (try k_gentoks)) | ((with_reducible refine args_cons ?_ ?he); (case he => exact rfl)) | ((with_reducible show wpAny _ _ (call (Value.ref _) _ _) _ _ _); (k_here; (try ((fail_if_success (fail_if_success k_fold)); refine (let qk := _; (?_ : wpAny _ _ _ qk _ _)))); k_dflt (refine' Spec.calm (feat_told (by assumption) (by show _ ≤ sizeLine; rw [List.size_toArray, sizeLine_eq]; omega)) ?B ?F ?X ?T rfl rfl rfl rfl (Nat.le_of_ble_eq_true rfl) (Nat.le_of_ble_eq_true rfl) ?N ?hR ?_; ((case B => assumption); (case F => k_asm); (case X => k_asm); (case T => k_asm)); (case N => exact news3 (by k_asm) (by k_mem) (by k_mem) (by k_mem)); (case hR => exact fun _ _ h => h); intro v'r h'r tk'r F'r hb'r hP'r; (try simp only [List.map_cons, List.map_nil] at hb'r); refine xE1_4 hP'r ?_; clear hP'r; intro tl'r hM'r hT'r hK'r hD'r; (rename News _ _ _ _ => N8'r); (have hM2'r := madeR (by assumption) (by assumption) (by assumption) N8'r (by ((exact List.forall_mem_cons.mpr ⟨by k_mem, List.forall_mem_cons.mpr ⟨by k_mem, List.forall_mem_cons.mpr ⟨by k_mem, List.forall_mem_cons.mpr ⟨by k_mem, fun _ h => nomatch h⟩⟩⟩⟩))) hM'r); (have N'r := growT hM'r (by assumption) N8'r hK'r hb'r (by k_mem) (by k_mem) (by k_mem)); (clear N8'r); (try simp only [List.cons_append, List.nil_append] at N'r); (try k_sweep)))) | ((with_reducible show wpAny _ _ (eval (Expr.Name ..) _) _ _ _); (k_here; k_dflt (refine' nameX_F ?N ?c ?m ?d ?_ ?a ?b; (case a => rfl); (case b => rfl); (case N => k_asm); (case c => rfl); (case m => k_mem); (case d => k_asm)))) | ((with_reducible show wpAny _ _ (call (Value.ref _) _ _) _ _ _); (k_here; (try ((fail_if_success (fail_if_success k_fold)); refine (let qk := _; (?_ : wpAny _ _ _ qk _ _)))); (try dsimp only); k_dflt (refine' Spec.hereR (feature_spec (by kba_ints) (by assumption)) ?hX ?B ?F ?X ?T ?hA ?hf ?hke ?hh ?hd ?hu ?N ?hs ?_ ?_; (((case hX => assumption); (case B => assumption); (case F => k_asm); (case X => k_asm); (case T => k_asm); (case hA => exact rfl); (case hf => exact rfl); (case hke => exact rfl); (case hh => exact rfl); (case hd => exact Nat.le_of_ble_eq_true rfl); (case hu => exact Nat.le_of_ble_eq_true rfl); (case N => assumption))); (case hs => exact fun _ h => h); rotate_left; intro v'r h'r tk'r F'r hb'r hP'r; refine xE2_3 hP'r ?_; clear hP'r; intro tl'r fs'r hM'r hF'r hP1; refine xE10_5 hF'r ?_; clear hF'r; intro x'r dx'r lx'r its'r c9'r q1'r q2'r u1'r u2'r u3'r e'r m1'r m2'r m3'r hi'r; subst e'r; (rename News _ _ _ _ => N8'r); (have N'r := news_front (Made.news hM'r (by assumption) (news_back0 N8'r hb'r)) m1'r m2'r m3'r); (simp only [List.cons_append, List.nil_append] at N'r); (have hz'r := feat_len hP1 (by assumption)); (have hl'r := hi'r.length); (try k_sweep)))) | walk1 | (dsimp only; walk1) | (dsimp only [mA]; walk1) | (dsimp only [mE]; walk1) | (dsimp only [mA, mE]; walk1) | (leave1; (try dsimp only))))
  · (try k_unfold)
    (try dsimp only)
    rename News _ _ _ _ => N9
    rename Made _ _ _ => hM9
    rename DatIn _ _ _ => hD9
    rename featB _ _ = .ok _ => hB9
    rename EndsR _ _ _ _ _ _ _ _ _ _ => hXr
    exact hXr.1 _ _ _ _ _ (by assumption) N9 (by ((exact List.forall_mem_cons.mpr ⟨by k_mem, List.forall_mem_cons.mpr ⟨by k_mem, List.forall_mem_cons.mpr ⟨by k_mem, List.forall_mem_cons.mpr ⟨by k_mem, fun _ h => nomatch h⟩⟩⟩⟩))) ⟨_, _, hM9, hD9, _, hB9, rfl⟩
  · exact Side.mk fun _ _ h => h
end
section
open PySem.Calls
def SubNo (tl tl0 : List (Addr × Obj)) : Prop := (∀ p ∈ tl0, p ∈ tl) ∧ NoTup tl0
theorem lang_min {tl : List (Addr × Obj)} {v : Value} {r : Int} {fs : List Int} (h : LangIn tl v r fs) : ∃ tl0, SubNo tl tl0 ∧ LangIn tl0 v r fs := by
  refine xE10_5 h ?_; (try clear h); intro x dx lx its c k1 k2 t1 t2 t3 zq1' a b d i; subst zq1'
  exact xI1_2 (langFp x dx lx k1 k2 t1 t2 t3 r its c) ⟨mem3 a b d, langFp_no⟩ (.made i)
theorem SubNo.app {tl a b : List (Addr × Obj)} (ha : SubNo tl a) (hb : SubNo tl b) : SubNo tl (a ++ b) := ⟨fun p hp => (List.mem_append.mp hp).elim (ha.1 p) (hb.1 p), fun p hp => (List.mem_append.mp hp).elim (ha.2 p) (hb.2 p)⟩
theorem langs_min {tl : List (Addr × Obj)} {kvs : List (Str × Value)} {ls : List (Str × (Int × List Int))} (h : LangsIn tl kvs ls) : ∃ tl0, SubNo tl tl0 ∧ LangsIn tl0 kvs ls := by
  induction h with
  | nil => exact xI1_2 [] ⟨(fun _ h => nomatch h), (fun _ h => nomatch h)⟩ .nil
  | cons a _ ih =>
    refine xE1_2 (lang_min a) ?_; intro t1 s1 h1
    refine xE1_2 ih ?_; (try clear ih); intro t2 s2 h2
    exact xI1_2 (t1 ++ t2) (s1.app s2) (.cons (h1.mono fun p hp => List.mem_append_left _ hp) (h2.mono fun p hp => List.mem_append_right _ hp))
theorem tabs_min {tl : List (Addr × Obj)} {vs : List Value} {xs : List (Int × List Int)} (h : TabsIn tl vs xs) : ∃ tl0, SubNo tl tl0 ∧ TabsIn tl0 vs xs := by
  induction h with
  | nil => exact xI1_2 [] ⟨(fun _ h => nomatch h), (fun _ h => nomatch h)⟩ .nil
  | cons a _ ih =>
    refine xE1_2 (lang_min a) ?_; intro t1 s1 h1
    refine xE1_2 ih ?_; (try clear ih); intro t2 s2 h2
    exact xI1_2 (t1 ++ t2) (s1.app s2) (.cons (h1.mono fun p hp => List.mem_append_left _ hp) (h2.mono fun p hp => List.mem_append_right _ hp))
theorem def_min {tl : List (Addr × Obj)} {v : Value} : {d : Option (Int × List Int)} → DefIn tl v d → ∃ tl0, SubNo tl tl0 ∧ DefIn tl0 v d
  | none, h => ⟨[], ⟨(fun _ h => nomatch h), (fun _ h => nomatch h)⟩, h⟩
  | some _, h => lang_min h
theorem script_min {tl : List (Addr × Obj)} {vd : Value} {d : Option (Int × List Int)} {kvs : List (Str × Value)} {ls : List (Str × (Int × List Int))} (h1 : DefIn tl vd d) (h2 : LangsIn tl kvs ls) : ∃ tl0, SubNo tl tl0 ∧ DefIn tl0 vd d ∧ LangsIn tl0 kvs ls := by
  refine xE1_2 (def_min h1) ?_; intro a sa ha
  refine xE1_2 (langs_min h2) ?_; intro b sb hb
  exact xI1_3 (a ++ b) (sa.app sb) (ha.mono fun p hp => List.mem_append_left _ hp) (hb.mono fun p hp => List.mem_append_right _ hp)
theorem andE_inv {α β : Type} {x : Except (Str × Int) α} {f : α → Except (Str × Int) β} {b : β} (h : andE x f = .ok b) : ∃ a, x = .ok a ∧ f a = .ok b := by
  cases x with
  | error e => cases h
  | ok a => exact xI1_2 a rfl h
theorem lang_len {ks : List Int} {a r : Int} {fs : List Int} (h : langB ks a = .ok (r, fs)) (hz : ks.length ≤ 1000) : fs.length ≤ 1000 := by
  refine xE1_2 (andE_inv h) ?_; intro _ _ h
  refine xE1_2 (andE_inv h) ?_; intro _ _ h
  refine xE1_2 (andE_inv h) ?_; intro c _ h
  refine xE1_2 (andE_inv h) ?_; intro rs h1 h
  cases h
  exact rows_len h1 hz
theorem langs_len {ks : List Int} (hz : ks.length ≤ 1000) : ∀ {rs : List (Str × Int)} {ls : List (Str × (Int × List Int))}, langsB ks rs = .ok ls → (∀ x ∈ ls, x.2.2.length ≤ 1000) ∧ ls.length = rs.length
  | [], ls, h => by cases h; exact ⟨(fun _ h => nomatch h), rfl⟩
  | p :: r, ls, h => by
    refine xE1_2 (andE_inv h) ?_; intro x h1 h
    refine xE1_2 (andE_inv h) ?_; intro m h2 h
    cases h
    refine xE0_2 (langs_len hz h2) ?_; intro a b
    refine ⟨fun y hy => ?_, by rw [List.length_cons, List.length_cons, b]⟩
    rcases List.mem_cons.mp hy with rfl | hy
    · exact lang_len (r := x.1) h1 hz
    · exact a y hy
theorem turn_len {ks : List Int} {a pos : Int} {asc : Bool} {f f' : List (Str × Int)} (h : recTurn ks a asc pos f = .ok f') : f'.length = f.length + 1 ∧ 0 ≤ pos ∧ pos + 6 ≤ ks.length := by
  refine xE1_2 (andE_inv h) ?_; intro tag h1 h
  split at h
  · cases h
  · refine xE1_2 (andE_inv h) ?_; intro pl h2 h
    cases h
    refine ⟨by rw [List.length_append]; rfl, ?_⟩
    unfold tagAt at h1
    split at h1
    · rename_i hp
      unfold offB at h2
      cases h3 : u16 ks (pos + 4) with
      | error e => rw [h3] at h2; cases h2
      | ok o =>
        unfold u16 at h3
        split at h3
        · rename_i q
          have q := q.2
          rw [Int.add_assoc] at q
          exact ⟨hp.1, q⟩
        · cases h3
    · cases h1
theorem loop_len {ks : List Int} {a : Int} {asc : Bool} : ∀ (k : Nat) {pos : Int} {f r : List (Str × Int)}, recLoop ks a asc k pos f = .ok r → r.length = f.length + k ∧ (k = 0 ∨ (0 ≤ pos ∧ pos + 6 * (k : Int) ≤ ks.length))
  | 0, _, _, _, h => by cases h; exact ⟨rfl, .inl rfl⟩
  | k + 1, pos, f, r, h => by
    refine xE1_2 (andE_inv h) ?_; intro f' h1 h
    refine xE0_3 (turn_len h1) ?_; intro a1 a2 a3
    refine xE0_2 (loop_len k h) ?_; intro b1 b2
    refine ⟨by rw [b1, a1, Nat.add_assoc, Nat.add_comm 1 k], .inr ⟨a2, ?_⟩⟩
    rcases b2 with rfl | ⟨b2, b3⟩
    · rw [mul_next, mul_0]; exact a3
    · rw [mul_next, Int.add_right_comm]; exact b3
theorem rec_len {ks : List Int} {a lead : Int} {asc : Bool} {r : List (Str × Int)} (h : recB ks a lead asc = .ok r) : 6 * r.length ≤ ks.length := by
  refine xE1_2 (andE_inv h) ?_; intro c _ h
  refine xE0_2 (loop_len _ h) ?_; intro b1 b2
  rw [List.length_nil] at b1
  rcases b2 with b2 | ⟨b2, b3⟩ <;> omega
theorem script_len {ks : List Int} {a : Int} {d : Option (Int × List Int)} {ls : List (Str × (Int × List Int))} (h : scriptB ks a = .ok (d, ls)) (hz : ks.length ≤ 300) : ls.length < 64 ∧ (∀ x ∈ ls, x.2.2.length ≤ 1000) ∧ (∀ x, d = some x → x.2.length ≤ 1000) := by
  refine xE1_2 (andE_inv h) ?_; intro off _ h
  refine xE1_2 (andE_inv h) ?_; intro d' h1 h
  refine xE1_2 (andE_inv h) ?_; intro rs h2 h
  refine xE1_2 (andE_inv h) ?_; intro ls' h3 h
  cases h
  refine xE0_2 (langs_len (by omega) h3) ?_; intro a1 a2
  have := rec_len h2
  refine xI0_3 (by omega) a1 (fun x hx => ?_)
  subst hx
  unfold defB at h1
  split at h1
  · refine xE1_2 (andE_inv h1) ?_; intro y h4 h1
    cases h1
    exact lang_len (r := x.1) h4 (by omega)
  · cases h1
theorem news_sc {g h : Heap} {L : Addr} {a b c r1 r2 r3 r4 : Addr × Obj} {tl tl0 : List (Addr × Obj)} (N : News g L h (a :: b :: c :: r1 :: r2 :: r3 :: r4 :: tl)) (hs : ∀ p ∈ tl0, p ∈ tl) : News g L h (a :: b :: c :: tl0) := fun p hp => by
  rcases List.mem_cons.mp hp with rfl | hp
  · exact N _ (.head _)
  rcases List.mem_cons.mp hp with rfl | hp
  · exact N _ (.tail _ (.head _))
  rcases List.mem_cons.mp hp with rfl | hp
  · exact N _ (.tail _ (.tail _ (.head _)))
  · exact N _ (.tail _ (.tail _ (.tail _ (.tail _ (.tail _ (.tail _ (.tail _ (hs p hp))))))))
theorem news_ro {g h h' : Heap} {L : Addr} {a b c r1 r2 r3 r4 : Addr × Obj} {tl tl0 : List (Addr × Obj)} (N : News g L h (a :: b :: c :: r1 :: r2 :: r3 :: r4 :: tl)) (h1 : a ∈ tl) (h2 : b ∈ tl) (h3 : c ∈ tl) (hs : ∀ p ∈ tl0, p ∈ tl) (O : OwnOff tl (List.map (fun x => x.1) [r1, r2, r3, r4])) (hb : Back ((a :: b :: c :: tl0).map (·.1)) h h') : News g L h' [r1, r2, r3, r4] := fun p hp => by
  have z := N p (.tail _ (.tail _ (.tail _ (show p ∈ r1 :: r2 :: r3 :: r4 :: tl from (List.mem_append_left tl hp : p ∈ [r1, r2, r3, r4] ++ tl)))))
  refine ⟨hb.keep _ _ z.1 fun hm => ?_, z.2⟩
  refine xE1_2 (List.mem_map.mp hm) ?_; intro x hx e
  have hxt : x ∈ tl := by
    rcases List.mem_cons.mp hx with rfl | hx
    · exact h1
    rcases List.mem_cons.mp hx with rfl | hx
    · exact h2
    rcases List.mem_cons.mp hx with rfl | hx
    · exact h3
    · exact hs x hx
  exact O x hxt p.1 (List.mem_map_of_mem hp) e
end
section
open PySem.Calls
theorem lam_script {w : World} {b : Array UInt8} {ks : List Int} {a : Int} {tb ta t : Tok} {f c' cd ca : Addr} {ql : Str} {oc od oa : Obj} {params : Arguments} {body : Expr} {scope : Scope} {pm ctv : Value} {vs' : Array Value} (hb : KBw.bInts b = ks) (hz : ks.length ≤ 1000) (hz3 : ks.length ≤ 300) (hl : lamS 0 = some (params, body, scope)) (hoc : oc.data = .fields vs') (hvs : vs'[1]? = some (.str ql t))
    (hod : od.data = .cell (some (.bytes b tb))) (hoa : oa.data = .cell (some (.int a ta))) :
    SpecR w f 740 740 [] (lamRo ql f c' cd ca oc od oa params body scope [("data", cd), ("at", ca)] pm ctv) (AskP fun d => ∃ dd ls, scriptB ks a = .ok (dd, ls) ∧ d = scriptDat "latn" dd ls) (fun what pl => scriptB ks a = .error (what, pl)) := by
  have hl2 := elim_some (o := lamS 0) rfl hl
  cases hl2
  ((refine' enterL (.head _) (.tail _ (.head _)) (by assumption) (by assumption) ?hD ?hb ?_ ?hc ?c1 ?c2 ?c3; (case hD => decide); (case hb => exact rfl); (case hc => decide); (case c1 => exact rfl); (case c2 => exact rfl); (case c3 => exact rfl); intro p'r loose'r mean'r mg'r mb'r gd'r l'r s'r Q'r E'r g'r L'r h₁'r F'r N'r B'r X'r T'r hL'r hgk'r hro'r hX'r; (try (refine (let mk := _; (fun (FK : Fr _ _ _ mk) => ?_) F'r); clear F'r)); (try dsimp only [lamRo] at N'r); revert X'r; k_fill; intro X'r; (try dsimp only); (try (refine (let mA := _; let mE := _; (?_ : wpAny _ mA (execs _ mE) _ _ _)))); k_fold))
  (repeat' (first | ((with_reducible first | refine nextN ?_ | refine nextR ?_); (try dsimp only)) | (k_unfold; (try dsimp only)) | (k_end; kc_close) | ((with_reducible first | show wpAny _ _ (exec _ _) _ _ _ | show wpAny _ _ (eval (Expr.Call ..) _) _ _ _ | show wpAny _ _ (eval (Expr.BinOp ..) _) _ _ _ | show wpAny _ _ (eval (Expr.Subscript ..) _) _ _ _ | show wpAny _ _ (eval (Expr.List ..) _) _ _ _ | show wpAny _ _ (eval (Expr.Tuple ..) _) _ _ _); (fail_if_success (fail_if_success k_fold)); refine (let qk := _; (?_ : wpAny _ _ _ qk _ _))) | ((with_reducible refine execsN ?_); (try k_gentoks)) | ((with_reducible refine args_cons ?_ ?he); (case he => exact rfl)) | ((with_reducible show wpAny _ _ (call (Value.ref _) _ _) _ _ _); first | ((k_here; (try ((fail_if_success (fail_if_success k_fold)); refine (let qk := _; (?_ : wpAny _ _ _ qk _ _)))); k_dflt (refine' Spec.calm (script_told (by assumption) (by assumption) (by assumption) (by assumption) (by assumption) (by assumption) (by assumption) (by assumption) (by assumption)) ?B ?F ?X ?T rfl rfl rfl rfl (Nat.le_of_ble_eq_true rfl) (Nat.le_of_ble_eq_true rfl) ?N ?hR ?_; ((case B => assumption); (case F => k_asm); (case X => k_asm); (case T => k_asm)); (case N => exact news_sc (by assumption) (by assumption)); (case hR => exact fun _ _ h => h); intro v'r h'r tk'r F'r hb'r hP'r; (try simp only [List.map_cons, List.map_nil] at hb'r); refine xE1_3 hP'r ?_; clear hP'r; intro tl'r hM'r hT'r hD'r; (rename News _ _ _ _ => N8'r); (have hM2'r := madeR (by assumption) (by assumption) (by assumption) N8'r (by ((exact List.forall_mem_cons.mpr ⟨by k_mem, List.forall_mem_cons.mpr ⟨by k_mem, List.forall_mem_cons.mpr ⟨by k_mem, List.forall_mem_cons.mpr ⟨by k_mem, fun _ h => nomatch h⟩⟩⟩⟩))) hM'r); (have N'r := news_ro N8'r (by assumption) (by assumption) (by assumption) (by assumption) (by assumption) hb'r); (clear N8'r); (try k_sweep)))) | ((k_here; (try ((fail_if_success (fail_if_success k_fold)); refine (let qk := _; (?_ : wpAny _ _ _ qk _ _)))); (try dsimp only); k_dflt (refine' Spec.hereR (script_spec (by kba_ints) (by assumption)) ?hX ?B ?F ?X ?T ?hA ?hf ?hke ?hh ?hd ?hu ?N ?hs ?_ ?_; (((case hX => assumption); (case B => assumption); (case F => k_asm); (case X => k_asm); (case T => k_asm); (case hA => exact rfl); (case hf => exact rfl); (case hke => exact rfl); (case hh => exact rfl); (case hd => exact Nat.le_of_ble_eq_true rfl); (case hu => exact Nat.le_of_ble_eq_true rfl); (case N => assumption))); (case hs => exact fun _ h => h); rotate_left; intro v'r h'r tk'r F'r hb'r hP'r; refine xE3_5 hP'r ?_; clear hP'r; intro tl'r d'r ls'r hM'r hS'r hA'r hl'r hP1; refine xE13_8 hS'r ?_; clear hS'r; intro x'r dx'r lg'r od'r kvs'r vd'r q1'r q2'r q3'r u1'r u2'r u3'r u4'r e'r m1'r m2'r m3'r hod'r lo'r hD'r hL'r; subst e'r; refine xE1_3 (script_min hD'r hL'r) ?_; intro tl0'r hs'r hD0'r hL0'r; refine xE0_2 hs'r ?_; clear hs'r; intro hsub'r hno'r; refine xE0_3 (script_len hP1 (by assumption)) ?_; intro hl64'r hlen'r hdl'r; (rename News _ _ _ _ => N8'r); (have O'r := Made.off hM'r N8'r); (have N'r := news_front (Made.news hM'r (by assumption) (news_back0 N8'r hb'r)) m1'r m2'r m3'r); (simp only [List.cons_append, List.nil_append] at N'r); (try k_sweep))))) | ((with_reducible show wpAny _ _ (eval (Expr.Name ..) _) _ _ _); (k_here; k_dflt (refine' nameX_F ?N ?c ?m ?d ?_ ?a ?b; (case a => rfl); (case b => rfl); (case N => k_asm); (case c => rfl); (case m => k_mem); (case d => k_asm)))) | walk1 | (dsimp only; walk1) | (dsimp only [mA]; walk1) | (dsimp only [mE]; walk1) | (dsimp only [mA, mE]; walk1) | (leave1; (try dsimp only))))
  · (try k_unfold)
    (try dsimp only)
    rename News _ _ _ _ => N9
    rename Made _ _ _ => hM9
    rename DatIn _ _ _ => hD9
    rename scriptB _ _ = .ok _ => hB9
    rename EndsR _ _ _ _ _ _ _ _ _ _ => hXr
    exact hXr.1 _ _ _ _ _ (by assumption) N9 (fun _ h => h) ⟨_, _, hM9, hD9, _, _, hB9, rfl⟩
  · exact Side.mk fun _ _ h => h
end
section
open PySem.Calls
section
variable {prog : Program} {w : World} {A : Around} {E : Value → Shared → Prop} {s : Shared} {h₀ : Heap} {L : Addr} {m : Str → Option Value} {env : Env} {elt iter : Expr} {x x₂ : Str} {px px₂ tp : Pos} {tkk : Nat} {scope : Scope} {cl : List (Str × Addr)} {pos : Pos}
open LCg
theorem comp_pairs {Q : Value → Shared → Prop} (F₀ : Fr h₀ L s.heap m)
    (hclos : closureFor scope env = pure cl) (hcell : ∀ y ∈ scope.names, y.2 ≠ .cell) (hkind : scope.kind = .function)
    (hnames : ∀ y ∈ scope.names, y.2 = .local → scope.names.lookup y.1 = some .local) (hx : scope.names.lookup x = some .local) (hx₂ : scope.names.lookup x₂ = some .local) (hxx : x ≠ x₂)
    (h : wpAny (model prog w) A (eval iter env) (fun xv s₁ => Side (LCp.SrcLP prog w A h₀ L m env elt x x₂ scope cl (fun s₂ => FinE h₀ L m s₂ Q) xv s₁)) E s)
    (hs : ∀ x, foldedSetIterable iter env x = pure x := by intro _; rfl) :
    wpAny (model prog w) A (eval (.ListComp elt [⟨.Tuple [.Name x px, .Name x₂ px₂] tkk tp, iter, [], 0⟩] scope pos) env) Q E s :=
  LCp.ListComp_P F₀ hclos hcell hkind hnames hx hx₂ hxx (wpAny_mono h (fun _ _ q => q.out) fun _ _ e => e) hs
theorem comp_turnsP {S : List (Addr × Obj) → Prop} {P : Nat → Value → Prop} {Fin : List Value → List (Addr × Obj) → Prop} {n : Nat} (J : Nat → List Value → List (Addr × Obj) → Prop)
    (turn : ∀ i v ys news, i < n → P i v → J i ys news → ∃ (t : Addr) (ot : Obj) (v₁ v₂ : Value) (nt : Nat), v = .ref t ∧ (t, ot) ∈ news ∧ ot.cls = .type "tuple" ∧ ot.data = .seq #[v₁, v₂] nt ∧
      ∀ I oI C oC D m₂ h tk (E' : Value → Shared → Prop), NsObj oC m₂ → m₂ x = some v₁ → m₂ x₂ = some v₂ → Fr h₀ L h m → News h₀ L h ((I, oI) :: (C, oC) :: (D, lst ys) :: news) → Off3 I C D news → ((@Ne Nat I C) ∧ (@Ne Nat I D) ∧ (@Ne Nat C D)) →
      wpAny (model prog w) A (eval elt (compEnvC scope cl C env)) (CompEnd h₀ L m { s with heap := h, toks := tk } I oI C oC D (lst ys) S (fun y news' => J (i + 1) (ys ++ [y]) news')) E' { s with heap := h, toks := tk })
    (fin : ∀ ys news, J n ys news → Fin ys news) : ∀ (k i : Nat) (ys : List Value) (news : List (Addr × Obj)), i + k = n → J i ys news → LCp.CompRestP prog w A h₀ L m env elt x x₂ scope cl s S P Fin k i ys news
  | 0, i, ys, news, e, hJ => LCp.CompRestP.zero (fin ys news (by rw [Nat.add_zero] at e; subst e; exact hJ))
  | k + 1, i, ys, news, e, hJ => LCp.CompRestP.succ fun v hP => by
      refine xE5_5 (turn i v ys news (by omega) hP hJ) ?_; intro t ot v₁ v₂ nt h1 h2 h3 h4 h5
      exact ⟨t, ot, v₁, v₂, nt, h1, h2, h3, h4, fun I oI C oC D m₂ h tk E' hC hx hx2 F N off ne =>
        wpAny_mono (h5 I oI C oC D m₂ h tk E' hC hx hx2 F N off ne) (fun y s₂ hq => by
          refine xE3_6 hq ?_; (try clear hq); intro h' tk' nw e' F' N' off' hS hJ'
          exact xI3_6 h' tk' nw e' F' N' off' hS (comp_turnsP J turn fin k (i + 1) _ _ (by omega) hJ')) fun _ _ e => e⟩
end
noncomputable def recDat (a : Int) (p : Str × Int) : Dat := .tuple [.str p.1, .int (p.2 - a)]
noncomputable def recsDat (a : Int) (rs : List (Str × Int)) : List Dat := rs.map (recDat a)
def PairJ (s : Heap) (fp : List (Addr × Obj)) (ds : List Dat) (i : Nat) (ys : List Value) (news : List (Addr × Obj)) : Prop :=
  ∃ tlr, (∀ p ∈ fp, p ∈ news) ∧ (∀ p ∈ tlr, p ∈ news) ∧ (∀ p ∈ tlr, s.get? p.1 = none) ∧ DatAll tlr ys (ds.take i)
theorem PairJ.pair {s : Heap} {fp news : List (Addr × Obj)} {ds : List Dat} {i nn : Nat} {ys : List Value} {T2 : Addr} {k : Str} {t u : Tok} {z : Int} (h : PairJ s fp ds i ys news) (hn : s.get? T2 = none) (hi : ds[i]? = some (.tuple [.str k, .int z])) :
    PairJ s fp ds (i + 1) (ys ++ [.ref T2]) ((T2, { cls := .type "tuple", data := .seq #[.str k t, .int z u] nn }) :: news) := by
  refine xE1_4 h ?_; (try clear h); intro tlr a b c e
  refine xI1_4 ((T2, { cls := .type "tuple", data := .seq #[.str k t, .int z u] nn }) :: tlr) (fun p hp => .tail _ (a p hp)) (fun p hp => ?_) (fun p hp => ?_) ?_
  · rcases List.mem_cons.mp hp with rfl | hp
    · exact .head _
    · exact .tail _ (b p hp)
  · rcases List.mem_cons.mp hp with rfl | hp
    · exact hn
    · exact c p hp
  · rw [take_snoc hi]
    exact (e.mono fun p hp => .tail _ hp).append (.one (.tuple (vs := [_, _]) (.head _) (.cons (.str _ _) (.cons (.int _ _) .nil))))
theorem fresh_ro {s g h : Heap} {L D : Addr} {o : Obj} {ro led : List (Addr × Obj)} (hgk : ∀ b o, s.get? b = some o → b ∉ ro.map (·.1) → g.get? b = some o) (N : News g L h ((D, o) :: led)) (hoff : ∀ p ∈ ro, p.1 ≠ D) : s.get? D = none := by
  cases q : s.get? D with
  | none => rfl
  | some o' =>
    exfalso
    have := (N _ (.head _)).2.2
    rw [hgk D o' q fun hm => by
      refine xE1_2 (List.mem_map.mp hm) ?_; intro p hp e
      exact hoff p hp e] at this
    cases this
theorem perm4b {g h : Heap} {L : Addr} {a b c d r1 r2 r3 r4 : Addr × Obj} {tl : List (Addr × Obj)} (N : News g L h (a :: b :: c :: d :: r1 :: r2 :: r3 :: r4 :: tl)) : News g L h (b :: c :: d :: a :: tl) := fun p hp => by
  rcases List.mem_cons.mp hp with rfl | hp
  · exact N _ (.tail _ (.head _))
  rcases List.mem_cons.mp hp with rfl | hp
  · exact N _ (.tail _ (.tail _ (.head _)))
  rcases List.mem_cons.mp hp with rfl | hp
  · exact N _ (.tail _ (.tail _ (.tail _ (.head _))))
  rcases List.mem_cons.mp hp with rfl | hp
  · exact N _ (.head _)
  · exact N _ (.tail _ (.tail _ (.tail _ (.tail _ (.tail _ (.tail _ (.tail _ (.tail _ hp))))))))
theorem pairJ0 {s g : Heap} {ro tl fp : List (Addr × Obj)} {its : List Value} {rs : List (Str × Int)} {a : Int} (_h : ∀ b o, s.get? b = some o → b ∉ ro.map (·.1) → g.get? b = some o) (_hp : DatAll tl its (rs.map pairD)) : PairJ s fp (recsDat a rs) 0 [] fp := by exact xI1_4 [] (fun _ h => h) (fun _ h => nomatch h) (fun _ h => nomatch h) .nil
theorem off1_mem {D : Addr} : ∀ {l : List (Addr × Obj)}, LCg.Off1 D l → ∀ p ∈ l, p.1 ≠ D
  | [], _, _, h => nomatch h
  | _ :: _, x, p, h => by
    rcases List.mem_cons.mp h with rfl | h
    · exact x.1
    · exact off1_mem x.2 p h
theorem recs_all {tl tl2 : List (Addr × Obj)} {its ys : List Value} {rs : List (Str × Int)} {a : Int} (hp : DatAll tl its (rs.map pairD)) (h : DatAll tl2 ys ((recsDat a rs).take (List.toArray its).size)) : DatAll tl2 ys (recsDat a rs) := by
  have e : (List.toArray its).size = (recsDat a rs).length := by
    rw [List.size_toArray, hp.length]; unfold recsDat; rw [List.length_map, List.length_map]
  rw [e, List.take_length] at h
  exact h
theorem off4 {r1 r2 r3 r4 : Addr × Obj} {D : Addr} (h1 : @Ne Nat r1.1 D) (h2 : @Ne Nat r2.1 D) (h3 : @Ne Nat r3.1 D) (h4 : @Ne Nat r4.1 D) : ∀ p ∈ [r1, r2, r3, r4], p.1 ≠ D :=
  List.forall_mem_cons.mpr ⟨h1, List.forall_mem_cons.mpr ⟨h2, List.forall_mem_cons.mpr ⟨h3, List.forall_mem_cons.mpr ⟨h4, fun _ h => nomatch h⟩⟩⟩⟩
theorem made_list {s g h : Heap} {L D : Addr} {ys : List Value} {ro tlr news : List (Addr × Obj)} (hgk : ∀ b o, s.get? b = some o → b ∉ ro.map (·.1) → g.get? b = some o) (N : News g L h ((D, LCg.lst ys) :: news)) (o1 : LCg.Off1 D news) (hr : ∀ p ∈ ro, p ∈ news) (hb : ∀ p ∈ tlr, p ∈ news) (hc : ∀ p ∈ tlr, s.get? p.1 = none) : Made s h ((D, listOf (List.toArray ys) ys.length) :: tlr) := fun p hp => by
  rcases List.mem_cons.mp hp with rfl | hp
  · exact ⟨(N _ (.head _)).1, fresh_ro hgk N fun p hp => off1_mem o1 p (hr p hp)⟩
  · exact ⟨(N _ (.tail _ (hb p hp))).1, hc p hp⟩
end
section
open PySem.Calls
theorem lam_rec1 {w : World} {b : Array UInt8} {ks : List Int} {a : Int} {tb ta t : Tok} {f c' cd ca : Addr} {ql : Str} {oc od oa : Obj} {params : Arguments} {body : Expr} {scope : Scope} {pm ctv : Value} {vs' : Array Value} (hb : KBw.bInts b = ks) (hz : ks.length ≤ 1000) (hl : lamS 2 = some (params, body, scope)) (hoc : oc.data = .fields vs') (hvs : vs'[1]? = some (.str ql t))
    (hod : od.data = .cell (some (.bytes b tb))) (hoa : oa.data = .cell (some (.int a ta))) :
    SpecR w f 740 740 [] (lamRo ql f c' cd ca oc od oa params body scope [("data", cd), ("at", ca)] pm ctv) (AskP fun d => ∃ rs, recB ks a 2 true = .ok rs ∧ (∀ r ∈ rs, PyData.strOk r.1 = true) ∧ d = .list (recsDat a rs)) (fun what pl => recB ks a 2 true = .error (what, pl)) := by
  have hl2 := elim_some (o := lamS 2) rfl hl
  cases hl2
  ((refine' enterL (.head _) (.tail _ (.head _)) (by assumption) (by assumption) ?hD ?hb ?_ ?hc ?c1 ?c2 ?c3; (case hD => decide); (case hb => exact rfl); (case hc => decide); (case c1 => exact rfl); (case c2 => exact rfl); (case c3 => exact rfl); intro p'r loose'r mean'r mg'r mb'r gd'r l'r s'r Q'r E'r g'r L'r h₁'r F'r N'r B'r X'r T'r hL'r hgk'r hro'r hX'r; (try (refine (let mk := _; (fun (FK : Fr _ _ _ mk) => ?_) F'r); clear F'r)); (try dsimp only [lamRo] at N'r); revert X'r; k_fill; intro X'r; (try dsimp only); (try (refine (let mA := _; let mE := _; (?_ : wpAny _ mA (execs _ mE) _ _ _)))); k_fold))
  (repeat' (first | ((with_reducible first | refine nextN ?_ | refine nextR ?_); (try dsimp only)) | (k_unfold; (try dsimp only)) | (k_end; kc_close) | ((with_reducible first | show wpAny _ _ (exec _ _) _ _ _ | show wpAny _ _ (eval (Expr.Call ..) _) _ _ _ | show wpAny _ _ (eval (Expr.BinOp ..) _) _ _ _ | show wpAny _ _ (eval (Expr.Subscript ..) _) _ _ _ | show wpAny _ _ (eval (Expr.List ..) _) _ _ _ | show wpAny _ _ (eval (Expr.Tuple ..) _) _ _ _); (fail_if_success (fail_if_success k_fold)); refine (let qk := _; (?_ : wpAny _ _ _ qk _ _))) | ((with_reducible refine execsN ?_); (try k_gentoks)) | ((with_reducible refine args_cons ?_ ?he); (case he => exact rfl)) | ((with_reducible show wpAny _ _ (eval (Expr.ListComp ..) _) _ _ _); (k_here; k_dflt (refine comp_pairs (by k_asm) (by with_unfolding_all rfl) (by decide) (by rfl) (by decide) (by rfl) (by rfl) (by decide) ?_))) | ((with_reducible show wpAny _ _ (call (Value.ref _) _ _) _ _ _); (k_here; (try ((fail_if_success (fail_if_success k_fold)); refine (let qk := _; (?_ : wpAny _ _ _ qk _ _)))); (try dsimp only); k_dflt (refine' Spec.hereR (records_spec (by kba_ints) (by assumption)) ?hX ?B ?F ?X ?T ?hA ?hf ?hke ?hh ?hd ?hu ?N ?hs ?_ ?_; (((case hX => assumption); (case B => assumption); (case F => k_asm); (case X => k_asm); (case T => k_asm); (case hA => exact rfl); (case hf => exact rfl); (case hke => exact rfl); (case hh => exact rfl); (case hd => exact Nat.le_of_ble_eq_true rfl); (case hu => exact Nat.le_of_ble_eq_true rfl); (case N => assumption))); (case hs => exact fun _ h => h); rotate_left; intro v'r h'r tk'r F'r hb'r hP'r; refine xE5_6 hP'r ?_; clear hP'r; intro lf'r its'r n'r tl'r rs'r e'r hM'r hD'r hO'r hz'r hP1; subst e'r; (rename News _ _ _ _ => N8'r); (have N'r := Made.news hM'r (by assumption) (news_back0 N8'r hb'r)); (simp only [List.cons_append, List.nil_append] at N'r); (try k_sweep)))) | ((with_reducible show wpAny _ _ (eval (Expr.Name ..) _) _ _ _); (k_here; k_dflt (refine' nameX_F ?N ?c ?m ?d ?_ ?a ?b; (case a => rfl); (case b => rfl); (case N => k_asm); (case c => rfl); (case m => k_mem); (case d => k_asm)))) | walk1 | (dsimp only; walk1) | (dsimp only [mA]; walk1) | (dsimp only [mE]; walk1) | (dsimp only [mA, mE]; walk1) | (leave1; (try dsimp only))))
  · rename News _ _ _ _ => N9
    rename Fr _ _ _ _ => F9
    rename DatAll _ _ _ => hp
    rename recB _ _ _ _ = .ok _ => hB9
    rename List.length _ < 65536 => hln
    rename EndsR _ _ _ _ _ _ _ _ _ _ => hXr
    have hpl := hp.length
    rw [List.length_map] at hpl
    refine Side.mk (LCp.SrcLP.ledger (by rfl) F9 N9 (.tail _ (.tail _ (.tail _ (.tail _ (.head _))))) (by rw [List.size_toArray, sizeLine_eq]; omega) fun g' => ?_)
    refine comp_turnsP (PairJ _ _ (recsDat a _)) ?_ ?_ _ 0 [] _ (Nat.zero_add _) (pairJ0 (by assumption) hp)
    · intro i v ys news hi hv hJ
      refine xE5_4 (pair_at hp hv) ?_; intro p T tt tu tn hir hpi zq1' hT; subst zq1'
      have ha := hJ
      refine xE1_2 ha ?_; (try clear ha); intro tlr ha _
      refine xI5_5 T _ _ _ tn rfl (ha _ (.tail _ (.tail _ (.tail _ (.tail _ (.tail _ (hT))))))) rfl rfl ?_
      intro I oI C oC D m₂ h tk E' hC hx hx2 F N off ne
      have hro4 := mem4 (ha _ (.head _)) (ha _ (.tail _ (.head _))) (ha _ (.tail _ (.tail _ (.head _)))) (ha _ (.tail _ (.tail _ (.tail _ (.head _)))))
      have hO := own_of3 off
      have N := news_add N hro4
      simp only [List.cons_append, List.nil_append] at N
      clear off
      (repeat' (first | ((with_reducible first | refine nextN ?_ | refine nextR ?_); (try dsimp only)) | (k_unfold; (try dsimp only)) | (k_end; kc_close) | ((with_reducible first | show wpAny _ _ (exec _ _) _ _ _ | show wpAny _ _ (eval (Expr.Call ..) _) _ _ _ | show wpAny _ _ (eval (Expr.BinOp ..) _) _ _ _ | show wpAny _ _ (eval (Expr.Subscript ..) _) _ _ _ | show wpAny _ _ (eval (Expr.List ..) _) _ _ _ | show wpAny _ _ (eval (Expr.Tuple ..) _) _ _ _); (fail_if_success (fail_if_success k_fold)); refine (let qk := _; (?_ : wpAny _ _ _ qk _ _))) | ((with_reducible refine execsN ?_); (try k_gentoks)) | ((with_reducible refine args_cons ?_ ?he); (case he => exact rfl)) | walk1 | (dsimp only; walk1) | (dsimp only [mA]; walk1) | (dsimp only [mE]; walk1) | (dsimp only [mA, mE]; walk1) | (leave1; (try dsimp only))))
      (try k_unfold)
      (try dsimp only)
      rename News _ _ _ _ => N9
      exact ⟨_, _, _, rfl, by assumption, perm4b N9, ⟨⟨by k_ne, by k_ne, by k_ne⟩, off3_of hO⟩, .inr ⟨_, .tail _ (ha _ (.tail _ (.tail _ (.tail _ (.tail _ (.head _)))))), rfl, _, rfl⟩,
        PairJ.pair hJ (fresh_ro (by assumption) N9 (off4 (by k_ne) (by k_ne) (by k_ne) (by k_ne))) (by unfold recsDat; rw [List.getElem?_map, hpi]; rfl)⟩
    · intro ys news hJ
      refine xE1_4 hJ ?_; (try clear hJ); intro tlr ha hb9 hc9 hd9
      intro D h tk F N o1
      (try k_unfold)
      (try dsimp only)
      have hr4 : ∀ p ∈ [_, _, _, _], p ∈ news := mem4 (ha _ (.head _)) (ha _ (.tail _ (.head _))) (ha _ (.tail _ (.tail _ (.head _)))) (ha _ (.tail _ (.tail _ (.tail _ (.head _)))))
      exact hXr.1 _ _ _ _ _ F N (fun p hp => .tail _ (hr4 p hp)) ⟨_, .list _, made_list (by assumption) N o1 hr4 hb9 hc9, .list (.head _) ((recs_all hp hd9).mono fun p hp => .tail _ hp), _, hB9, by assumption, rfl⟩
  · exact Side.mk fun _ _ h => h
end
section
open PySem.Calls
theorem lam_rec2 {w : World} {b : Array UInt8} {ks : List Int} {a : Int} {tb ta t : Tok} {f c' cd ca : Addr} {ql : Str} {oc od oa : Obj} {params : Arguments} {body : Expr} {scope : Scope} {pm ctv : Value} {vs' : Array Value} (hb : KBw.bInts b = ks) (hz : ks.length ≤ 1000) (hl : lamS 3 = some (params, body, scope)) (hoc : oc.data = .fields vs') (hvs : vs'[1]? = some (.str ql t))
    (hod : od.data = .cell (some (.bytes b tb))) (hoa : oa.data = .cell (some (.int a ta))) :
    SpecR w f 740 740 [] (lamRo ql f c' cd ca oc od oa params body scope [("data", cd), ("at", ca)] pm ctv) (AskP fun d => ∃ rs, recB ks a 0 false = .ok rs ∧ (∀ r ∈ rs, PyData.strOk r.1 = true) ∧ d = .list (recsDat a rs)) (fun what pl => recB ks a 0 false = .error (what, pl)) := by
  have hl2 := elim_some (o := lamS 3) rfl hl
  cases hl2
  ((refine' enterL (.head _) (.tail _ (.head _)) (by assumption) (by assumption) ?hD ?hb ?_ ?hc ?c1 ?c2 ?c3; (case hD => decide); (case hb => exact rfl); (case hc => decide); (case c1 => exact rfl); (case c2 => exact rfl); (case c3 => exact rfl); intro p'r loose'r mean'r mg'r mb'r gd'r l'r s'r Q'r E'r g'r L'r h₁'r F'r N'r B'r X'r T'r hL'r hgk'r hro'r hX'r; (try (refine (let mk := _; (fun (FK : Fr _ _ _ mk) => ?_) F'r); clear F'r)); (try dsimp only [lamRo] at N'r); revert X'r; k_fill; intro X'r; (try dsimp only); (try (refine (let mA := _; let mE := _; (?_ : wpAny _ mA (execs _ mE) _ _ _)))); k_fold))
  (repeat' (first | ((with_reducible first | refine nextN ?_ | refine nextR ?_); (try dsimp only)) | (k_unfold; (try dsimp only)) | (k_end; kc_close) | ((with_reducible first | show wpAny _ _ (exec _ _) _ _ _ | show wpAny _ _ (eval (Expr.Call ..) _) _ _ _ | show wpAny _ _ (eval (Expr.BinOp ..) _) _ _ _ | show wpAny _ _ (eval (Expr.Subscript ..) _) _ _ _ | show wpAny _ _ (eval (Expr.List ..) _) _ _ _ | show wpAny _ _ (eval (Expr.Tuple ..) _) _ _ _); (fail_if_success (fail_if_success k_fold)); refine (let qk := _; (?_ : wpAny _ _ _ qk _ _))) | ((with_reducible refine execsN ?_); (try k_gentoks)) | ((with_reducible refine args_cons ?_ ?he); (case he => exact rfl)) | ((with_reducible show wpAny _ _ (eval (Expr.ListComp ..) _) _ _ _); (k_here; k_dflt (refine comp_pairs (by k_asm) (by with_unfolding_all rfl) (by decide) (by rfl) (by decide) (by rfl) (by rfl) (by decide) ?_))) | ((with_reducible show wpAny _ _ (call (Value.ref _) _ _) _ _ _); (k_here; (try ((fail_if_success (fail_if_success k_fold)); refine (let qk := _; (?_ : wpAny _ _ _ qk _ _)))); (try dsimp only); k_dflt (refine' Spec.hereR (records_spec (by kba_ints) (by assumption)) ?hX ?B ?F ?X ?T ?hA ?hf ?hke ?hh ?hd ?hu ?N ?hs ?_ ?_; (((case hX => assumption); (case B => assumption); (case F => k_asm); (case X => k_asm); (case T => k_asm); (case hA => exact rfl); (case hf => exact rfl); (case hke => exact rfl); (case hh => exact rfl); (case hd => exact Nat.le_of_ble_eq_true rfl); (case hu => exact Nat.le_of_ble_eq_true rfl); (case N => assumption))); (case hs => exact fun _ h => h); rotate_left; intro v'r h'r tk'r F'r hb'r hP'r; refine xE5_6 hP'r ?_; clear hP'r; intro lf'r its'r n'r tl'r rs'r e'r hM'r hD'r hO'r hz'r hP1; subst e'r; (rename News _ _ _ _ => N8'r); (have N'r := Made.news hM'r (by assumption) (news_back0 N8'r hb'r)); (simp only [List.cons_append, List.nil_append] at N'r); (try k_sweep)))) | ((with_reducible show wpAny _ _ (eval (Expr.Name ..) _) _ _ _); (k_here; k_dflt (refine' nameX_F ?N ?c ?m ?d ?_ ?a ?b; (case a => rfl); (case b => rfl); (case N => k_asm); (case c => rfl); (case m => k_mem); (case d => k_asm)))) | walk1 | (dsimp only; walk1) | (dsimp only [mA]; walk1) | (dsimp only [mE]; walk1) | (dsimp only [mA, mE]; walk1) | (leave1; (try dsimp only))))
  · rename News _ _ _ _ => N9
    rename Fr _ _ _ _ => F9
    rename DatAll _ _ _ => hp
    rename recB _ _ _ _ = .ok _ => hB9
    rename List.length _ < 65536 => hln
    rename EndsR _ _ _ _ _ _ _ _ _ _ => hXr
    have hpl := hp.length
    rw [List.length_map] at hpl
    refine Side.mk (LCp.SrcLP.ledger (by rfl) F9 N9 (.tail _ (.tail _ (.tail _ (.tail _ (.head _))))) (by rw [List.size_toArray, sizeLine_eq]; omega) fun g' => ?_)
    refine comp_turnsP (PairJ _ _ (recsDat a _)) ?_ ?_ _ 0 [] _ (Nat.zero_add _) (pairJ0 (by assumption) hp)
    · intro i v ys news hi hv hJ
      refine xE5_4 (pair_at hp hv) ?_; intro p T tt tu tn hir hpi zq1' hT; subst zq1'
      have ha := hJ
      refine xE1_2 ha ?_; (try clear ha); intro tlr ha _
      refine xI5_5 T _ _ _ tn rfl (ha _ (.tail _ (.tail _ (.tail _ (.tail _ (.tail _ (hT))))))) rfl rfl ?_
      intro I oI C oC D m₂ h tk E' hC hx hx2 F N off ne
      have hro4 := mem4 (ha _ (.head _)) (ha _ (.tail _ (.head _))) (ha _ (.tail _ (.tail _ (.head _)))) (ha _ (.tail _ (.tail _ (.tail _ (.head _)))))
      have hO := own_of3 off
      have N := news_add N hro4
      simp only [List.cons_append, List.nil_append] at N
      clear off
      (repeat' (first | ((with_reducible first | refine nextN ?_ | refine nextR ?_); (try dsimp only)) | (k_unfold; (try dsimp only)) | (k_end; kc_close) | ((with_reducible first | show wpAny _ _ (exec _ _) _ _ _ | show wpAny _ _ (eval (Expr.Call ..) _) _ _ _ | show wpAny _ _ (eval (Expr.BinOp ..) _) _ _ _ | show wpAny _ _ (eval (Expr.Subscript ..) _) _ _ _ | show wpAny _ _ (eval (Expr.List ..) _) _ _ _ | show wpAny _ _ (eval (Expr.Tuple ..) _) _ _ _); (fail_if_success (fail_if_success k_fold)); refine (let qk := _; (?_ : wpAny _ _ _ qk _ _))) | ((with_reducible refine execsN ?_); (try k_gentoks)) | ((with_reducible refine args_cons ?_ ?he); (case he => exact rfl)) | walk1 | (dsimp only; walk1) | (dsimp only [mA]; walk1) | (dsimp only [mE]; walk1) | (dsimp only [mA, mE]; walk1) | (leave1; (try dsimp only))))
      (try k_unfold)
      (try dsimp only)
      rename News _ _ _ _ => N9
      exact ⟨_, _, _, rfl, by assumption, perm4b N9, ⟨⟨by k_ne, by k_ne, by k_ne⟩, off3_of hO⟩, .inr ⟨_, .tail _ (ha _ (.tail _ (.tail _ (.tail _ (.tail _ (.head _)))))), rfl, _, rfl⟩,
        PairJ.pair hJ (fresh_ro (by assumption) N9 (off4 (by k_ne) (by k_ne) (by k_ne) (by k_ne))) (by unfold recsDat; rw [List.getElem?_map, hpi]; rfl)⟩
    · intro ys news hJ
      refine xE1_4 hJ ?_; (try clear hJ); intro tlr ha hb9 hc9 hd9
      intro D h tk F N o1
      (try k_unfold)
      (try dsimp only)
      have hr4 : ∀ p ∈ [_, _, _, _], p ∈ news := mem4 (ha _ (.head _)) (ha _ (.tail _ (.head _))) (ha _ (.tail _ (.tail _ (.head _)))) (ha _ (.tail _ (.tail _ (.tail _ (.head _)))))
      exact hXr.1 _ _ _ _ _ F N (fun p hp => .tail _ (hr4 p hp)) ⟨_, .list _, made_list (by assumption) N o1 hr4 hb9 hc9, .list (.head _) ((recs_all hp hd9).mono fun p hp => .tail _ hp), _, hB9, by assumption, rfl⟩
  · exact Side.mk fun _ _ h => h
end
section
open PySem.Calls
section
variable {prog : Program} {w : World} {A : Around} {E : Value → Shared → Prop} {s : Shared} {g : Heap} {L : Addr} {m : Str → Option Value} {env : Env} {elt iter : Expr} {x x₂ : Str} {px px₂ tp : Pos} {tkk : Nat} {scope : Scope} {cl : List (Str × Addr)} {pos : Pos}
open LCg
def TSrc (prog : Program) (w : World) (A : Around) (E : Value → Shared → Prop) (env : Env) (elt iter : Expr) (x x₂ : Str) (px px₂ tp : Pos) (tkk : Nat) (scope : Scope) (cl : List (Str × Addr)) (pos : Pos) (Q : Value → Shared → Prop) (xv : Value) (s₁ : Shared) : Prop :=
  wpAny (model prog w) A (pyIter xv) (fun it s₂ => wpAny (model prog w) A (newList []) (fun acc s₃ => wpAny (model prog w) A (newFunctionEnv scope env.globals cl [] env.qual none .none (some env)) (fun cenv s₄ =>
    codeAny (model prog w) A (.compStart (.ListComp elt [⟨.Tuple [.Name x px, .Name x₂ px₂] tkk tp, iter, [], 0⟩] scope pos) 0 it acc { cenv with scope := relabel scope env }) (compPost (model prog w) A E none Q acc cenv.locals) s₄) E s₃) E s₂) E s₁
theorem comp_tpairs {Q : Value → Shared → Prop} (_F₀ : Fr g L s.heap m)
    (hclos : closureFor scope env = pure cl) (hkind : scope.kind = .function) (hnames : ∀ y ∈ scope.names, y.2 = .local → scope.names.lookup y.1 = some .local)
    (h : wpAny (model prog w) A (eval iter env) (fun xv s₁ => Side (TSrc prog w A E env elt iter x x₂ px px₂ tp tkk scope cl pos Q xv s₁)) E s)
    (hs : ∀ x, foldedSetIterable iter env x = pure x := by intro _; rfl) :
    wpAny (model prog w) A (eval (.ListComp elt [⟨.Tuple [.Name x px, .Name x₂ px₂] tkk tp, iter, [], 0⟩] scope pos) env) Q E s := by
  rw [eval_ListComp]
  exact wpAny_comprehension_free (use := none) rfl hs hclos hkind hnames (wpAny_mono h (fun xv s₁ h₁ => h₁.out) fun _ _ e => e)
theorem block_T {ax : Addr} {its : Array Value} {nT : Nat} {led : List (Addr × Obj)} {Q : Value → Shared → Prop} (J : Nat → List Value → List (Addr × Obj) → Prop) (hh : A.handled = none)
    (hcell : ∀ y ∈ scope.names, y.2 ≠ .cell) (hkind : scope.kind = .function) (hx : scope.names.lookup x = some .local) (hx₂ : scope.names.lookup x₂ = some .local) (hxx : x ≠ x₂)
    (hmem : ∀ i ys news, J i ys news → (ax, ({ cls := .type "tuple", data := .seq its nT } : Obj)) ∈ news) (hsz : its.size ≤ sizeLine) (F : Fr g L s.heap m) (N : News g L s.heap led) (hJ : J 0 [] led)
    (turn : ∀ i v ys news, its[i]? = some v → J i ys news → ∃ (t : Addr) (ot : Obj) (v₁ v₂ : Value) (nt : Nat), v = .ref t ∧ (t, ot) ∈ news ∧ ot.cls = .type "tuple" ∧ ot.data = .seq #[v₁, v₂] nt ∧
      ∀ I oI C oC D m₂ h tk (E' : Value → Shared → Prop), NsObj oC m₂ → m₂ x = some v₁ → m₂ x₂ = some v₂ → Fr g L h m → News g L h ((I, oI) :: (C, oC) :: (D, lst ys) :: news) → Off3 I C D news → ((@Ne Nat I C) ∧ (@Ne Nat I D) ∧ (@Ne Nat C D)) →
      wpAny (model prog w) A (eval elt (compEnvC scope cl C env)) (CompEnd g L m { s with heap := h, toks := tk } I oI C oC D (lst ys) (fun _ => True) (fun y news' => J (i + 1) (ys ++ [y]) news')) E' { s with heap := h, toks := tk })
    (fin : ∀ ys news D h tk, J its.size ys news → Fr g L h m → News g L h ((D, lst ys) :: news) → Off1 D news → Q (.ref D) { s with heap := h, toks := tk }) :
    TSrc prog w A E env elt iter x x₂ px px₂ tp tkk scope cl pos Q (.ref ax) s := by
  unfold TSrc
  have haxm := hmem _ _ _ hJ
  have hax : s.heap.IsTuple ax its := ⟨_, (N _ haxm).1, rfl, nT, rfl⟩
  have haxlt : @LT.lt Nat _ ax s.heap.objs.size := Heap.lt_size (N _ haxm).1
  refine wpAny_pyIter_tuple hax ?_
  have W := Walks.tuple (prog := prog) (w := w) (A := A) hh s.heap.objs.size ax (neN (by omega)) its
  have up : ∀ o' b o, s.heap.get? b = some o → (s.heap.push o').get? b = some o := fun o' b o e => Heap.get?_push_of_some _ e
  have hI₀ : g.get? s.heap.objs.size = none := fresh_top F
  have hIL : L ≠ s.heap.objs.size := Nat.ne_of_lt F.ns.lt
  have offI : ∀ p ∈ led, p.1 ≠ s.heap.objs.size := fun p hp => Nat.ne_of_lt (Heap.lt_size (N p hp).1)
  refine wpAny_newObj_type (wpAny_newFunctionEnv hcell (by intro y hy; simp at hy) (fun h₁ hns₁ hsb₁ => ?_) hkind)
  dsimp only at hns₁ hsb₁ ⊢
  generalize hH1 : s.heap.push { cls := .type "tuple_iterator", data := .fields #[.ref ax, .int 0 0] } = H1 at hns₁ hsb₁ ⊢
  have hDz : @Eq Nat H1.objs.size (s.heap.objs.size + 1) := by rw [← hH1, Heap.size_push]
  have hI1 : H1.get? s.heap.objs.size = some { cls := .type "tuple_iterator", data := .fields #[.ref ax, .int 0 0] } := hH1 ▸ Heap.get?_push_size _ rfl
  have old1 : ∀ b o, s.heap.get? b = some o → H1.get? b = some o := fun b o e => hH1 ▸ up _ b o e
  generalize hH2 : H1.push { cls := .type "list", data := .seq #[] } = H2 at hns₁ hsb₁ ⊢
  have hCz : @Eq Nat H2.objs.size (H1.objs.size + 1) := by rw [← hH2, Heap.size_push]
  generalize hIe : s.heap.objs.size = I at *
  generalize hDe : H1.objs.size = D at *
  generalize hCe : H2.objs.size = C at *
  have hDz : @Eq Nat D (I + 1) := hDz
  have hCz : @Eq Nat C (D + 1) := hCz
  have hIC : @Ne Nat I C := by omega
  have hID : @Ne Nat I D := by omega
  have hCD : @Ne Nat C D := by omega
  have hCD' : C ≠ D := hCD
  have sub : ∀ b o, H2.get? b = some o → b ≠ C → h₁.get? b = some o := fun b o e hb => hsb₁.extBut b o hb (Heap.get?_push_of_some _ e)
  have hI₁ : h₁.get? I = some { cls := .type "tuple_iterator", data := .fields #[.ref ax, .int 0 0] } := sub _ _ (hH2 ▸ Heap.get?_push_of_some _ hI1) hIC
  have hD₁ : h₁.get? D = some (lst []) := sub _ _ (hH2 ▸ hDe ▸ Heap.get?_push_size _ rfl) (Ne.symm hCD')
  have lts : ∀ b o, s.heap.get? b = some o → @LT.lt Nat _ b I := fun b o e => hIe ▸ Heap.lt_size e
  have old : ∀ b o, s.heap.get? b = some o → h₁.get? b = some o := fun b o e => sub _ _ (hH2 ▸ Heap.get?_push_of_some _ (old1 b o e)) (neN (by have := lts b o e; omega))
  have fresh₀ : ∀ a, @LE.le Nat _ I a → g.get? a = none := fun a ha => by
    cases e : g.get? a with
    | none => rfl
    | some o' => have := lts a o' (F.keep a o' e); omega
  have hLI : @LT.lt Nat _ L I := hIe ▸ F.ns.lt
  have hC₀ := fresh₀ C (by omega)
  have hD₀ := fresh₀ D (by omega)
  have hCL : C ≠ L := neN (by omega)
  have hDL : D ≠ L := neN (by omega)
  have offled : Off3 I C D led := Off3.of fun p hp => by have := lts _ _ (N p hp).1; exact xI0_3 (neN (by omega)) (neN (by omega)) (neN (by omega))
  have st0 : h₁.IsTupleIter I ax 0 ∧ h₁.IsTuple ax its := ⟨⟨_, hI₁, rfl, rfl⟩, _, (old _ _ (N _ haxm).1), rfl, nT, rfl⟩
  have loop : ∀ s₃ : Shared, s₃ = { s with heap := h₁, toks := s.toks + ([] : List (Str × Value)).length } →
      codeAny (model prog w) A (.compLoop (.ListComp elt [⟨.Tuple [.Name x px, .Name x₂ px₂] tkk tp, iter, [], 0⟩] scope pos) 0 (.ref I) (.ref D) (compEnvC scope cl C env)) (compPost (model prog w) A E none Q (.ref D) C) s₃ := by
    rintro s₃ rfl
    refine LCp.codeAny_compLoop_pair
      (fun k s' => ∃ h' tk i ys m' news', s' = { s with heap := h', toks := tk } ∧ i ≤ its.size ∧ k = its.size + 1 - i ∧ ys.length = i ∧ (h'.IsTupleIter I ax i ∧ h'.IsTuple ax its) ∧ Fr g L h' m ∧ h'.Ns C m' ∧ News g L h' ((D, lst ys) :: news') ∧
        Off3 I C D news' ∧ J i ys news') ?_ (its.size + 1)
      ⟨h₁, _, 0, [], _, led, rfl, Nat.zero_le _, rfl, rfl, st0, F.keeps old, hns₁, fun p hp => ?_, offled, hJ⟩
    · rintro k s' ⟨h', tk, i, ys, m', news', rfl, hi, rfl, hyl, hst', F', hn', N', off', hJ'⟩
      by_cases hlt : i < its.size
      · refine W.item i _ _ _ hlt hst' fun v h₂ tk₂ hPv hst₂ hk₂ => ?_
        refine xE5_5 (turn i v ys news' hPv hJ') ?_; intro t ot v₁ v₂ nt zq1' hmt hct hdt R''; subst zq1'
        have off3 := off'.mem
        have N₂ : News g L h₂ ((D, lst ys) :: news') := news_but N' hk₂ fun p hp => by
          (refine (let gk : Prop := _; (?_ : gk)); rcases List.mem_cons.mp hp with rfl | hp <;> k_unfold)
          · exact Ne.symm hID
          · exact (off3 p hp).1
        have ht : IsTup h₂ t #[v₁, v₂] := ⟨ot, (N₂ _ (List.mem_cons_of_mem _ hmt)).1, hct, nt, hdt⟩
        refine letGo_tupleiter hst₂.1 ?_
        refine assign_Tuple_tuple hh ht rfl rfl fun h₅ he => ?_
        have he' : ∀ b o, h₂.get? b = some o → h₅.get? b = some o := fun b o e => he b o (Nat.ne_of_lt (Heap.lt_size e)) e
        refine assignInOrder_cons (wpAny_assign_Name (wpAny_storeName_local (lookup_relabel_local hx) ((hn'.at' fun o e => hk₂ _ o (by simpa using Ne.symm hIC) e).at' fun o e => he' _ o e) (fun h₆ hn₆ hs₆ => ?_) (by simp [compEnvC, relabel, hkind])))
        refine assignInOrder_cons (wpAny_assign_Name (wpAny_storeName_local (lookup_relabel_local hx₂) hn₆ (fun h₃ hn₃ hs₃ => ?_) (by simp [compEnvC, relabel, hkind])))
        refine assignInOrder_nil ?_
        have old3 : ∀ b o, b ≠ C → h₂.get? b = some o → h₃.get? b = some o := fun b o hb e => hs₃.extBut b o hb (hs₆.extBut b o hb (he' b o e))
        have hst₃ : h₃.IsTupleIter I ax (i + 1) ∧ h₃.IsTuple ax its := W.frame _ _ _ hst₂ fun b hb o e => old3 b o (fun q => by
          (refine (let gk : Prop := _; (?_ : gk)); rcases List.mem_cons.mp hb with e1 | e1 <;> k_unfold)
          · exact hIC (e1.symm.trans q)
          · have : @Eq Nat ax C := (List.mem_singleton.mp e1).symm.trans q
            omega) e
        refine xE1_2 (id hst₃.1) ?_; intro oI heI _
        refine xE1_2 (ns_obj hn₃) ?_; intro oC heC hoC
        have F₃ : Fr g L h₃ m := (((fr_but F' hk₂ hIL hI₀).keeps he').change hs₆ hCL hC₀).change hs₃ hCL hC₀
        have N₃ : News g L h₃ ((I, oI) :: (C, oC) :: (D, lst ys) :: news') := fun p hp => by
          (refine (let gk : Prop := _; (?_ : gk)); rcases List.mem_cons.mp hp with rfl | hp <;> k_unfold)
          · exact xI0_3 heI (Ne.symm hIL) hI₀
          · (refine (let gk : Prop := _; (?_ : gk)); rcases List.mem_cons.mp hp with rfl | hp <;> k_unfold)
            · exact xI0_3 heC hCL hC₀
            · have z := N₂ p hp
              refine ⟨old3 _ _ ?_ z.1, z.2⟩
              (refine (let gk : Prop := _; (?_ : gk)); rcases List.mem_cons.mp hp with rfl | hp <;> k_unfold)
              · exact Ne.symm hCD'
              · exact (off3 p hp).2.1
        refine wpAny_mono (R'' I oI C oC D _ h₃ _ _ hoC (by simp [hxx]) (by simp) F₃ N₃ off' ⟨hIC, hID, hCD⟩) (fun y s₄ h₄ => ?_) fun _ _ e => e
        refine xE3_6 h₄ ?_; (try clear h₄); intro h₄ tk₄ news₄ zq2' F₄ N₄ off₄ _ hJ₄; subst zq2'
        have zI := (N₄ (I, oI) List.mem_cons_self).1
        have zA := N₄ _ (List.mem_cons_of_mem _ (List.mem_cons_of_mem _ (List.mem_cons_of_mem _ (hmem _ _ _ hJ₄))))
        refine xE1_2 (id hst₃.1) ?_; intro oI' eI' rI'
        rw [heI] at eI'
        cases eI'
        have zC := (N₄ (C, oC) (List.mem_cons_of_mem _ List.mem_cons_self)).1
        have zD := (N₄ (D, lst ys) (List.mem_cons_of_mem _ (List.mem_cons_of_mem _ List.mem_cons_self))).1
        have N₄' : News g L h₄ news₄ := fun p hp => N₄ p (List.mem_cons_of_mem _ (List.mem_cons_of_mem _ (List.mem_cons_of_mem _ hp)))
        refine append_at (hsz := by show ys.toArray.size ≤ sizeLine; rw [List.size_toArray, hyl]; exact Nat.le_trans hi hsz) zD fun h₅ hs₅ hD₅ => ?_
        have off4 := off₄.mem
        refine ⟨its.size + 1 - (i + 1), by omega, h₅, tk₄, i + 1, ys ++ [y], _, news₄, rfl, hlt, rfl, by rw [List.length_append, List.length_singleton, hyl], ⟨⟨oI, hs₅.extBut _ _ hID zI, rI'⟩, _, hs₅.extBut _ _ ((off₄.mem _ (hmem _ _ _ hJ₄)).2.2) zA.1, rfl, nT, rfl⟩, F₄.change hs₅ hDL hD₀,
          (hoC.ns zC).sameBut hs₅ hCD', fun p hp => ?_, off₄, hJ₄⟩
        (refine (let gk : Prop := _; (?_ : gk)); rcases List.mem_cons.mp hp with rfl | hp <;> k_unfold)
        · exact xI0_3 (hD₅.trans (congrArg some (lst_snoc ys y))) hDL hD₀
        · exact ⟨hs₅.extBut _ _ (off4 p hp).2.2 (N₄' p hp).1, (N₄' p hp).2⟩
      · (refine (let gk : Prop := _; (?_ : gk)); obtain rfl : i = its.size := Nat.le_antisymm hi (Nat.not_lt.mp hlt) <;> k_unfold)
        refine W.done _ _ _ hst' fun h₂ tk₂ hk₂ => ?_
        have off3 := off'.mem
        have N₂ : News g L h₂ ((D, lst ys) :: news') := news_but N' hk₂ fun p hp => by
          (refine (let gk : Prop := _; (?_ : gk)); rcases List.mem_cons.mp hp with rfl | hp <;> k_unfold)
          · exact Ne.symm hID
          · exact (off3 p hp).1
        refine xI1_2 m' (hn'.at' fun o e => hk₂ _ o (by simpa using Ne.symm hIC) e) (fun h₃ hs₃ => ?_)
        refine fin ys news' D h₃ tk₂ hJ' ((fr_but F' hk₂ hIL hI₀).change hs₃ hCL hC₀) (fun p hp => ⟨hs₃.extBut _ _ ?_ (N₂ p hp).1, (N₂ p hp).2⟩) off'.one
        (refine (let gk : Prop := _; (?_ : gk)); rcases List.mem_cons.mp hp with rfl | hp <;> k_unfold)
        · exact Ne.symm hCD'
        · exact (off3 p hp).2.1
    · (refine (let gk : Prop := _; (?_ : gk)); rcases List.mem_cons.mp hp with rfl | hp <;> k_unfold)
      · exact xI0_3 hD₁ hDL hD₀
      · exact ⟨old _ _ (N p hp).1, (N p hp).2⟩
  exact codeAny_compStart_list (loop _ rfl) (W.self 0 _ _ _ st0 (loop _ rfl))
end
end
section
open PySem.Calls
theorem news_front1 {g h : Heap} {L : Addr} {a b c r : Addr × Obj} {tl : List (Addr × Obj)} (N : News g L h (r :: tl)) (h1 : a ∈ tl) (h2 : b ∈ tl) (h3 : c ∈ tl) : News g L h (a :: b :: c :: r :: tl) := fun p hp => by
  rcases List.mem_cons.mp hp with rfl | hp
  · exact N _ (.tail _ h1)
  rcases List.mem_cons.mp hp with rfl | hp
  · exact N _ (.tail _ h2)
  rcases List.mem_cons.mp hp with rfl | hp
  · exact N _ (.tail _ h3)
  · exact N p hp
theorem news_lk {g h : Heap} {L : Addr} {a b c r : Addr × Obj} {tl tl0 : List (Addr × Obj)} (N : News g L h (a :: b :: c :: r :: tl)) (hs : ∀ p ∈ tl0, p ∈ tl) : News g L h (a :: b :: c :: tl0) := fun p hp => by
  rcases List.mem_cons.mp hp with rfl | hp
  · exact N _ (.head _)
  rcases List.mem_cons.mp hp with rfl | hp
  · exact N _ (.tail _ (.head _))
  rcases List.mem_cons.mp hp with rfl | hp
  · exact N _ (.tail _ (.tail _ (.head _)))
  · exact N _ (.tail _ (.tail _ (.tail _ (.tail _ (hs p hp)))))
theorem news_r1 {g h h' : Heap} {L : Addr} {m : Str → Option Value} {a b c r : Addr × Obj} {tl tl0 tl2 : List (Addr × Obj)} (M : Made h h' tl2) (F : Fr g L h m) (N : News g L h (a :: b :: c :: r :: tl)) (h1 : a ∈ tl) (h2 : b ∈ tl) (h3 : c ∈ tl) (hs : ∀ p ∈ tl0, p ∈ tl) (O : OwnOff tl (List.map (fun x => x.1) [r])) (hb : Back ((a :: b :: c :: tl0).map (·.1)) h h') : News g L h' (r :: tl2) := fun p hp => by
  have N1 : News g L h' [r] := fun p hp => by
    have z := N p (.tail _ (.tail _ (.tail _ (by rw [List.mem_singleton.mp hp]; exact .head _))))
    refine ⟨hb.keep _ _ z.1 fun hm => ?_, z.2⟩
    refine xE1_2 (List.mem_map.mp hm) ?_; intro x hx e
    have hxt : x ∈ tl := by
      rcases List.mem_cons.mp hx with rfl | hx
      · exact h1
      rcases List.mem_cons.mp hx with rfl | hx
      · exact h2
      rcases List.mem_cons.mp hx with rfl | hx
      · exact h3
      · exact hs x hx
    exact O x hxt p.1 (List.mem_map_of_mem hp) e
  exact M.news F N1 p hp
theorem one_len {ps : List Int} {n : Int} : ∀ x ∈ ps.map (fun p => (p, [n])), x.2.length ≤ 1000 := fun x hx => by
  refine xE1_2 (List.mem_map.mp hx) ?_; intro p _ zq1'; subst zq1'
  show 1 ≤ 1000
  omega
theorem look_open {tl : List (Addr × Obj)} {v : Value} {k : Str} {f m : Int} {ts : List (Int × List Int)} (h : DatIn tl v (lookDat k f m ts)) : ∃ T n vs T2 n2 t1 t2 t3, v = .ref T ∧ (T, ({ cls := .type "tuple", data := .seq #[.str k t1, .int f t2, .int (heldB f m) t3, .ref T2] n } : Obj)) ∈ tl ∧ (T2, ({ cls := .type "tuple", data := .seq (List.toArray vs) n2 } : Obj)) ∈ tl ∧ DatAll tl vs (ts.map fun x => langDat x.1 x.2) := by
  refine (let gk : Prop := _; (?_ : gk))
  refine xE6_6 (datT4 h) ?_; intro T n x y z u e hm h1 h2 h3 h4
  refine xE3_3 (datTup h4) ?_; intro T2 vs n2 e4 hm2 r
  refine xE1_1 (datStr h1) ?_; intro t1 e1
  refine xE1_1 (datInt h2) ?_; intro t2 e2
  refine xE1_1 (datInt h3) ?_; intro t3 e3
  rw [e1, e2, e3, e4] at hm
  exact xI8_4 T n vs T2 n2 t1 t2 t3 e hm hm2 r
theorem lang_open {tl : List (Addr × Obj)} {vs : List Value} {ps : List Int} {n : Int} (h : DatAll tl vs ((ps.map fun p => (p, [n])).map fun x => langDat x.1 x.2)) {i : Nat} {v : Value} (hv : (List.toArray vs)[i]? = some v) : ∃ p T t T2 k, ps[i]? = some p ∧ v = .ref T ∧ (T, ({ cls := .type "tuple", data := .seq #[.int p t, .ref T2] k } : Obj)) ∈ tl ∧ DatIn tl (.ref T2) (.tuple [.int n]) := by
  refine (let gk : Prop := _; (?_ : gk))
  rw [List.map_map] at h
  refine xE1_2 (dat_at h hv) ?_; intro d hd k
  rw [List.getElem?_map] at hd
  refine xE1_2 (Option.map_eq_some_iff.mp hd) ?_; intro p hp q
  refine xE4_4 (datT2 (by rw [← q] at k; exact k : DatIn tl v (langDat p [n]))) ?_; intro T m x y e hm h1 h2
  refine xE1_1 (datInt h1) ?_; intro t e1
  refine xE3_3 (datTup h2) ?_; intro T2 _ _ e2 _ _
  rw [e1, e2] at hm
  exact xI5_4 p T t T2 m hp e hm (e2 ▸ h2)
noncomputable def lawTab (a n p : Int) : Dat := .tuple [.int (p - a), .tuple [.int n]]
noncomputable def lawLookDat (a : Int) (k : Str) (n f m : Int) (ps : List Int) : Dat := .tuple [.str k, .int f, .int (heldB f m), .tuple (ps.map (lawTab a n))]
theorem made_tup4 {h h' : Heap} {T : Addr} {a b c d : Value} {n : Nat} {tl : List (Addr × Obj)} (M : Made h h' tl) (hm : (T, ({ cls := .type "tuple", data := .seq #[a, b, c, d] n } : Obj)) ∈ tl) : IsTup h' T #[a, b, c, d] := by exact ⟨_, (M _ hm).1, rfl, n, rfl⟩
def TupJ (fp : List (Addr × Obj)) (ds : List Dat) (i : Nat) (ys : List Value) (news : List (Addr × Obj)) : Prop :=
  ∃ tlr, (∀ p ∈ fp, p ∈ news) ∧ (∀ p ∈ tlr, p ∈ news) ∧ DatAll tlr ys (ds.take i)
theorem TupJ.next {fp news tl2 : List (Addr × Obj)} {ds : List Dat} {i nn : Nat} {ys : List Value} {T T2 : Addr} {z : Int} {u : Tok} {d : Dat} (h : TupJ fp ds i ys news) (hd : DatIn tl2 (.ref T2) d) (h2 : ∀ p ∈ tl2, p ∈ news) (hi : ds[i]? = some (.tuple [.int z, d])) :
    TupJ fp ds (i + 1) (ys ++ [.ref T]) ((T, { cls := .type "tuple", data := .seq #[.int z u, .ref T2] nn }) :: news) := by
  refine xE1_3 h ?_; (try clear h); intro tlr a b e
  refine xI1_3 ((T, { cls := .type "tuple", data := .seq #[.int z u, .ref T2] nn }) :: (tlr ++ tl2)) (fun p hp => .tail _ (a p hp)) (fun p hp => ?_) ?_
  · rcases List.mem_cons.mp hp with rfl | hp
    · exact .head _
    · exact .tail _ ((List.mem_append.mp hp).elim (b p) (h2 p))
  · rw [take_snoc hi]
    exact (e.mono fun p hp => .tail _ (List.mem_append_left _ hp)).append (.one (.tuple (vs := [_, _]) (.head _) (.cons (.int _ _) (.cons (hd.mono fun p hp => .tail _ (List.mem_append_right _ hp)) .nil))))
theorem perm4a {g h : Heap} {L : Addr} {a b c d r : Addr × Obj} {tl : List (Addr × Obj)} (N : News g L h (a :: b :: c :: d :: r :: tl)) : News g L h (b :: c :: d :: a :: tl) := fun p hp => by
  rcases List.mem_cons.mp hp with rfl | hp
  · exact N _ (.tail _ (.head _))
  rcases List.mem_cons.mp hp with rfl | hp
  · exact N _ (.tail _ (.tail _ (.head _)))
  rcases List.mem_cons.mp hp with rfl | hp
  · exact N _ (.tail _ (.tail _ (.tail _ (.head _))))
  rcases List.mem_cons.mp hp with rfl | hp
  · exact N _ (.head _)
  · exact N _ (.tail _ (.tail _ (.tail _ (.tail _ (.tail _ hp)))))
theorem mem1 {α : Type} {a : α} {l : List α} (h : a ∈ l) : ∀ p ∈ [a], p ∈ l := fun p hp => by rw [List.mem_singleton.mp hp]; exact h
theorem law_made {s g h : Heap} {L R Tu : Addr} {e3 : Addr × Obj} {news tlr : List (Addr × Obj)} {ys : List Value} {k : Str} {f m a nn : Int} {ps ks : List Int} {t1 t2 t3 : Tok} {n1 n2 : Nat} (hgk : ∀ b o, s.get? b = some o → b ∉ ([] : List (Addr × Obj)).map (·.1) → g.get? b = some o)
    (N : News g L h ((R, { cls := .type "tuple", data := .seq #[.str k t1, .int f t2, .int (heldB f m) t3, .ref Tu] n1 }) :: (Tu, { cls := .type "tuple", data := .seq (List.toArray ys) n2 }) :: e3 :: news)) (hb : ∀ p ∈ tlr, p ∈ news) (hd : DatAll tlr ys (ps.map (lawTab a nn))) (hok : PyData.strOk k = true) (hne : ps ≠ []) (hB : lookupB ks a = .ok (k, nn, f, m, ps)) :
    ∃ tl k n f m ps, Made s h tl ∧ DatIn tl (.ref R) (lawLookDat a k n f m ps) ∧ PyData.strOk k = true ∧ ps ≠ [] ∧ lookupB ks a = .ok (k, n, f, m, ps) :=
  ⟨(R, { cls := .type "tuple", data := .seq #[.str k t1, .int f t2, .int (heldB f m) t3, .ref Tu] n1 }) :: (Tu, { cls := .type "tuple", data := .seq (List.toArray ys) n2 }) :: tlr, k, nn, f, m, ps,
    Made.of hgk N (fun p hp => by
      rcases List.mem_cons.mp hp with rfl | hp
      · exact .head _
      rcases List.mem_cons.mp hp with rfl | hp
      · exact .tail _ (.head _)
      · exact .tail _ (.tail _ (.tail _ (hb p hp)))),
    .tuple (vs := [_, _, _, _]) (.head _) (.cons (.str _ _) (.cons (.int _ _) (.cons (.int _ _) (.cons (.tuple (.tail _ (.head _)) (hd.mono fun p hp => .tail _ (.tail _ hp))) .nil)))), hok, hne, hB⟩
theorem tups_all {tl tl2 : List (Addr × Obj)} {vs ys : List Value} {ps : List Int} {n a : Int} (hp : DatAll tl vs ((ps.map fun p => (p, [n])).map fun x => langDat x.1 x.2)) (h : DatAll tl2 ys ((ps.map (lawTab a n)).take (List.toArray vs).size)) : DatAll tl2 ys (ps.map (lawTab a n)) := by
  have e : (List.toArray vs).size = (ps.map (lawTab a n)).length := by
    rw [List.size_toArray, hp.length, List.length_map, List.length_map, List.length_map]
  rw [e, List.take_length] at h
  exact h
end
section
open PySem.Calls
theorem tupJ0 {tl fp : List (Addr × Obj)} {vs : List Value} {ps ks : List Int} {n a f m : Int} {k : Str} (_h : DatAll tl vs ((ps.map fun p => (p, [n])).map fun x => langDat x.1 x.2)) (_hB : lookupB ks a = .ok (k, n, f, m, ps)) : TupJ fp (ps.map (lawTab a n)) 0 [] fp := by exact xI1_3 [] (fun _ h => h) (fun _ h => nomatch h) .nil
theorem lawlook_spec {w : World} {b : Array UInt8} {ks : List Int} {a : Int} {t1 t2 : Tok} (hb : KBw.bInts b = ks) (hz : ks.length ≤ 1000) (ha : 0 ≤ a) :
    Spec w 380 750 750 [.bytes b t1, .int a t2] []
      (fun h h' v => ∃ tl k n f m ps, Made h h' tl ∧ DatIn tl v (lawLookDat a k n f m ps) ∧ PyData.strOk k = true ∧ ps ≠ [] ∧ lookupB ks a = .ok (k, n, f, m, ps)) (fun what pl => lookupB ks a = .error (what, pl)) := by
  ((refine' enterC ?ho ?hcd ?hD ?hb ?hkd ?hnd ?_ ?c1 ?c2 ?c3; (case ho => exact rfl); (case hcd => exact rfl); (case hD => decide); (case hb => exact fun s'r X'r => BindsTo.of_eq rfl); (case hkd => exact rfl); (case hnd => decide +kernel); (case c1 => exact rfl); (case c2 => exact rfl); (case c3 => exact rfl); intro p'r loose'r mean'r mg'r mb'r gd'r l'r s'r Q'r E'r g'r L'r h₁'r tk'r cells'r F'r N'r Y'r B'r X'r T'r hL'r hgk'r hgs'r hfp'r l1'r hX'r; (try (refine (let mk := _; (fun (FK : Fr _ _ _ mk) => ?_) F'r); clear F'r)); revert X'r; k_fill; intro X'r; (try k_lt l1'r); k_cells Y'r; (try simp only [List.cons_append, List.nil_append] at N'r); (try dsimp only); (try (refine (let mA := _; let mE := _; (?_ : wpAny _ mA (execs _ mE) _ _ _)))); (try k_fold)))
  (repeat' (first | ((with_reducible first | refine nextN ?_ | refine nextR ?_); (try dsimp only)) | (k_unfold; (try dsimp only)) | (k_end; kc_close) | ((with_reducible first | show wpAny _ _ (exec _ _) _ _ _ | show wpAny _ _ (eval (Expr.Call ..) _) _ _ _ | show wpAny _ _ (eval (Expr.BinOp ..) _) _ _ _ | show wpAny _ _ (eval (Expr.Subscript ..) _) _ _ _ | show wpAny _ _ (eval (Expr.List ..) _) _ _ _ | show wpAny _ _ (eval (Expr.Tuple ..) _) _ _ _); (fail_if_success (fail_if_success k_fold)); refine (let qk := _; (?_ : wpAny _ _ _ qk _ _))) | ((with_reducible refine execsN ?_); (try k_gentoks)) | ((with_reducible refine args_cons ?_ ?he); (case he => exact rfl)) | ((with_reducible show wpAny _ _ (eval (Expr.ListComp ..) _) _ _ _); (k_here; k_dflt (refine comp_tpairs (by k_asm) (by with_unfolding_all rfl) (by rfl) (by decide) ?_))) | ((with_reducible show wpAny _ _ (call (Value.ref _) _ _) _ _ _); first | ((k_here; (try ((fail_if_success (fail_if_success k_fold)); refine (let qk := _; (?_ : wpAny _ _ _ qk _ _)))); k_dflt (refine' Spec.calm (look_told (by assumption) one_len (by rw [List.size_toArray, sizeLine_eq]; rw [List.length_map] at *; omega) (by assumption)) ?B ?F ?X ?T rfl rfl rfl rfl (Nat.le_of_ble_eq_true rfl) (Nat.le_of_ble_eq_true rfl) ?N ?hR ?_; ((case B => assumption); (case F => k_asm); (case X => k_asm); (case T => k_asm)); (case N => exact news_lk (by assumption) (by assumption)); (case hR => exact fun _ _ h => h); intro v'r h'r tk'r F'r hb'r hP'r; (try simp only [List.map_cons, List.map_nil] at hb'r); refine xE1_3 hP'r ?_; clear hP'r; intro tl'r hM'r hT'r hD'r; refine xE8_4 (look_open hD'r) ?_; intro T'r n'r vs'r T2'r n2'r t1'r t2'r t3'r e'r m1'r m2'r hD2'r; subst e'r; (have hU'r := made_tup4 hM'r m1'r); (rename News _ _ _ _ => N8'r); (have N'r := news_r1 hM'r (by assumption) N8'r (by assumption) (by assumption) (by assumption) (by assumption) (by assumption) hb'r); (clear N8'r); (try k_sweep)))) | ((k_here; (try ((fail_if_success (fail_if_success k_fold)); refine (let qk := _; (?_ : wpAny _ _ _ qk _ _)))); (try dsimp only); k_dflt (refine' Spec.here (lookup_spec (by kba_ints) (by assumption) (by assumption)) ?hX ?B ?F ?X ?T rfl rfl rfl rfl (Nat.le_of_ble_eq_true rfl) (Nat.le_of_ble_eq_true rfl) ?N ?_ ?_; ((case hX => assumption); (case B => assumption); (case F => k_asm); (case X => k_asm); (case T => k_asm)); (case N => exact News.nil); rotate_left; intro v'r h'r tk'r F'r hb'r hP'r; (try simp only [List.map_cons, List.map_nil] at hb'r); refine xE6_6 hP'r ?_; clear hP'r; intro tl'r k'r nb'r fl'r ms'r ps'r hM'r hL'r hok'r hne'r hln'r hP1; refine xE16_5 hL'r ?_; clear hL'r; intro x'r dx'r lt'r tvs'r n'r q1'r q2'r q3'r q4'r u1'r u2'r u3'r u4'r u5'r u6'r u7'r e'r m1'r m2'r m3'r ht'r; subst e'r; refine xE1_2 (tabs_min ht'r) ?_; intro tl0'r hs'r ht0'r; refine xE0_2 hs'r ?_; clear hs'r; intro hsub'r hno'r; (rename News _ _ _ _ => N8'r); (have O'r := Made.off hM'r N8'r); (have N'r := Made.news hM'r (by assumption) (news_back0 N8'r hb'r)); (simp only [List.cons_append, List.nil_append] at N'r); (have N2'r := news_front1 N'r m1'r m2'r m3'r); (have hz'r := ht'r.length); clear N8'r N'r ht'r; (try k_sweep))))) | ((with_reducible show wpAny _ _ (storeName _ _ _) _ _ _); (k_here; k_dflt (refine' storeX_L ?sF ?sN ?_ rfl rfl; (case sF => k_asm); (case sN => k_asm); k_whole; intro hS FS NS; (try k_sweep); refine (let mk := _; (fun (FK : Fr _ _ _ mk) => ?_) FS); clear FS))) | walk1 | (dsimp only; walk1) | (dsimp only [mA]; walk1) | (dsimp only [mE]; walk1) | (dsimp only [mA, mE]; walk1) | (leave1; (try dsimp only))))
  · rename News _ _ _ _ => N9
    rename Fr _ _ _ _ => F9
    rename DatAll _ _ _ => hd9
    rename lookupB _ _ = .ok _ => hB9
    rename List.length _ < 65536 => hln
    have hvl := hd9.length
    rw [List.length_map, List.length_map] at hvl
    refine Side.mk (block_T (TupJ _ (List.map (lawTab a _) _)) rfl (by decide) (by rfl) (by rfl) (by rfl) (by decide) (fun i ys news hJ => by refine xE1_2 hJ ?_; (try clear hJ); intro _ ha _; exact ha _ (.tail _ (by assumption))) (by rw [List.size_toArray, sizeLine_eq]; omega) F9 N9 (tupJ0 hd9 hB9) ?_ ?_)
    · intro i v ys news hv hJ
      refine xE5_4 (lang_open hd9 hv) ?_; intro p T tt Tn kk hpi zq1' hT hDn; subst zq1'
      have ha := hJ
      refine xE1_2 ha ?_; (try clear ha); intro tlr ha _
      refine xI5_5 T _ _ _ kk rfl (ha _ (.tail _ hT)) rfl rfl ?_
      intro I oI C oC D m₂ h tk E' hC hx hx2 F N off ne
      have hro1 := mem1 (ha _ (.head _))
      have hO := own_of3 off
      have N := news_add N hro1
      simp only [List.cons_append, List.nil_append] at N
      clear off
      (repeat' (first | ((with_reducible first | refine nextN ?_ | refine nextR ?_); (try dsimp only)) | (k_unfold; (try dsimp only)) | (k_end; kc_close) | ((with_reducible first | show wpAny _ _ (exec _ _) _ _ _ | show wpAny _ _ (eval (Expr.Call ..) _) _ _ _ | show wpAny _ _ (eval (Expr.BinOp ..) _) _ _ _ | show wpAny _ _ (eval (Expr.Subscript ..) _) _ _ _ | show wpAny _ _ (eval (Expr.List ..) _) _ _ _ | show wpAny _ _ (eval (Expr.Tuple ..) _) _ _ _); (fail_if_success (fail_if_success k_fold)); refine (let qk := _; (?_ : wpAny _ _ _ qk _ _))) | ((with_reducible refine execsN ?_); (try k_gentoks)) | ((with_reducible refine args_cons ?_ ?he); (case he => exact rfl)) | walk1 | (dsimp only; walk1) | (dsimp only [mA]; walk1) | (dsimp only [mE]; walk1) | (dsimp only [mA, mE]; walk1) | (leave1; (try dsimp only))))
      (try k_unfold)
      (try dsimp only)
      rename News _ _ _ _ => N9
      exact xI3_6 _ _ _ rfl (by assumption) (perm4a N9) ⟨⟨by k_ne, by k_ne, by k_ne⟩, off3_of hO⟩ trivial (TupJ.next hJ hDn (fun p hp => ha p (.tail _ hp)) (by rw [List.getElem?_map, hpi]; rfl))
    · intro ys news D h tk hJ F N o1
      refine xE1_3 hJ ?_; (try clear hJ); intro tlr ha hb9 hd8
      have hz9 : ys.length ≤ sizeLine := by
        have h1 := hd8.length
        rw [List.length_take, List.size_toArray] at h1
        rw [sizeLine_eq]
        omega
      (try dsimp only)
      (repeat' (first | ((with_reducible first | refine nextN ?_ | refine nextR ?_); (try dsimp only)) | (k_unfold; (try dsimp only)) | (k_end; kc_close) | ((with_reducible first | show wpAny _ _ (exec _ _) _ _ _ | show wpAny _ _ (eval (Expr.Call ..) _) _ _ _ | show wpAny _ _ (eval (Expr.BinOp ..) _) _ _ _ | show wpAny _ _ (eval (Expr.Subscript ..) _) _ _ _ | show wpAny _ _ (eval (Expr.List ..) _) _ _ _ | show wpAny _ _ (eval (Expr.Tuple ..) _) _ _ _); (fail_if_success (fail_if_success k_fold)); refine (let qk := _; (?_ : wpAny _ _ _ qk _ _))) | ((with_reducible refine execsN ?_); (try k_gentoks)) | ((with_reducible refine args_cons ?_ ?he); (case he => exact rfl)) | ((with_reducible show wpAny _ _ (call (Value.type "tuple") _ _) _ _ _); (k_here; (with_reducible show wpAny _ _ (call (Value.type _) [Value.ref _]) _ _ _); k_dflt (refine' tuple_ofL ?F ?N ?hl ?_ ?z; (case F => k_asm); (case N => k_asm); (case hl => exact News.isList (by k_asm) (by k_mem)); (case z => assumption)); intro D'r h'r F'r N'r a'r)) | walk1 | (dsimp only; walk1) | (dsimp only [mA]; walk1) | (dsimp only [mE]; walk1) | (dsimp only [mA, mE]; walk1) | (leave1; (try dsimp only))))
      (try k_unfold)
      (try dsimp only)
      rename News _ _ _ _ => N9
      refine ends_ret (by assumption) (by assumption) (P := _) ?_
      exact law_made (by assumption) N9 hb9 (tups_all hd9 hd8) (by assumption) (by assumption) hB9
  · exact Side.mk fun _ _ h => h
end
section
open PySem.Calls
theorem lam_look {w : World} {b : Array UInt8} {ks : List Int} {a : Int} {tb ta t : Tok} {f c' cd ca : Addr} {ql : Str} {oc od oa : Obj} {params : Arguments} {body : Expr} {scope : Scope} {pm ctv : Value} {vs' : Array Value} (hb : KBw.bInts b = ks) (hz : ks.length ≤ 1000) (ha : 0 ≤ a) (hl : lamS 4 = some (params, body, scope)) (hoc : oc.data = .fields vs') (hvs : vs'[1]? = some (.str ql t))
    (hod : od.data = .cell (some (.bytes b tb))) (hoa : oa.data = .cell (some (.int a ta))) :
    SpecR w f 740 740 [] (lamRo ql f c' cd ca oc od oa params body scope [("data", cd), ("at", ca)] pm ctv) (AskP fun d => ∃ k n f m ps, lookupB ks a = .ok (k, n, f, m, ps) ∧ PyData.strOk k = true ∧ ps ≠ [] ∧ d = lawLookDat a k n f m ps) (fun what pl => lookupB ks a = .error (what, pl)) := by
  have hl2 := elim_some (o := lamS 4) rfl hl
  cases hl2
  ((refine' enterL (.head _) (.tail _ (.head _)) (by assumption) (by assumption) ?hD ?hb ?_ ?hc ?c1 ?c2 ?c3; (case hD => decide); (case hb => exact rfl); (case hc => decide); (case c1 => exact rfl); (case c2 => exact rfl); (case c3 => exact rfl); intro p'r loose'r mean'r mg'r mb'r gd'r l'r s'r Q'r E'r g'r L'r h₁'r F'r N'r B'r X'r T'r hL'r hgk'r hro'r hX'r; (try (refine (let mk := _; (fun (FK : Fr _ _ _ mk) => ?_) F'r); clear F'r)); (try dsimp only [lamRo] at N'r); revert X'r; k_fill; intro X'r; (try dsimp only); (try (refine (let mA := _; let mE := _; (?_ : wpAny _ mA (execs _ mE) _ _ _)))); k_fold))
  (repeat' (first | ((with_reducible first | refine nextN ?_ | refine nextR ?_); (try dsimp only)) | (k_unfold; (try dsimp only)) | (k_end; kc_close) | ((with_reducible first | show wpAny _ _ (exec _ _) _ _ _ | show wpAny _ _ (eval (Expr.Call ..) _) _ _ _ | show wpAny _ _ (eval (Expr.BinOp ..) _) _ _ _ | show wpAny _ _ (eval (Expr.Subscript ..) _) _ _ _ | show wpAny _ _ (eval (Expr.List ..) _) _ _ _ | show wpAny _ _ (eval (Expr.Tuple ..) _) _ _ _); (fail_if_success (fail_if_success k_fold)); refine (let qk := _; (?_ : wpAny _ _ _ qk _ _))) | ((with_reducible refine execsN ?_); (try k_gentoks)) | ((with_reducible refine args_cons ?_ ?he); (case he => exact rfl)) | ((with_reducible show wpAny _ _ (call (Value.ref _) _ _) _ _ _); (k_here; (try ((fail_if_success (fail_if_success k_fold)); refine (let qk := _; (?_ : wpAny _ _ _ qk _ _)))); (try dsimp only); k_dflt (refine' Spec.hereR (lawlook_spec (by kba_ints) (by assumption) (by assumption)) ?hX ?B ?F ?X ?T ?hA ?hf ?hke ?hh ?hd ?hu ?N ?hs ?_ ?_; (((case hX => assumption); (case B => assumption); (case F => k_asm); (case X => k_asm); (case T => k_asm); (case hA => exact rfl); (case hf => exact rfl); (case hke => exact rfl); (case hh => exact rfl); (case hd => exact Nat.le_of_ble_eq_true rfl); (case hu => exact Nat.le_of_ble_eq_true rfl); (case N => assumption))); (case hs => exact fun _ h => h); rotate_left; intro v'r h'r tk'r F'r hb'r hP'r; refine xE6_5 hP'r ?_; clear hP'r; intro tl'r k'r n'r f'r m'r ps'r hM'r hD'r hok'r hne'r hP1; (rename News _ _ _ _ => N8'r); (have hM2'r := madeR (by assumption) (by assumption) (by assumption) N8'r (fun _ h => h) hM'r); (have N'r := Made.news hM'r (by assumption) (news_back0 N8'r hb'r)); (try k_sweep)))) | ((with_reducible show wpAny _ _ (eval (Expr.Name ..) _) _ _ _); (k_here; k_dflt (refine' nameX_F ?N ?c ?m ?d ?_ ?a ?b; (case a => rfl); (case b => rfl); (case N => k_asm); (case c => rfl); (case m => k_mem); (case d => k_asm)))) | walk1 | (dsimp only; walk1) | (dsimp only [mA]; walk1) | (dsimp only [mE]; walk1) | (dsimp only [mA, mE]; walk1) | (leave1; (try dsimp only))))
  · (try k_unfold)
    (try dsimp only)
    rename News _ _ _ _ => N9
    rename Made _ _ _ => hM9
    rename DatIn _ _ _ => hD9
    rename lookupB _ _ = .ok _ => hB9
    rename EndsR _ _ _ _ _ _ _ _ _ _ => hXr
    exact hXr.1 _ _ _ _ _ (by assumption) N9 (fun p hp => List.mem_append_left _ hp) ⟨_, _, hM9, hD9, _, _, _, _, _, hB9, by assumption, by assumption, rfl⟩
  · exact Side.mk fun _ _ h => h
end
section
open PySem.Calls
structure BackT (l : List Env) (fp : List Addr) (h h' : Heap) : Prop where
  keep : ∀ b o, h.get? b = some o → b ∉ fp → b ∉ frs l → h'.get? b = some o
  slots : ∀ b o, h.get? b = some o → b ∉ fp → ∃ sl, h'.get? b = some { o with slots := sl }
  size : h.objs.size ≤ h'.objs.size
def SpecT (w : World) (f : Addr) (D U : Nat) (vs : List Value) (fp : List (Addr × Obj)) (P : Heap → Heap → Value → Prop) : Prop :=
  ∀ (p : Program) (loose : List Str) (mean : ExcName → Option Value) (mg mb : Str → Option Value) (H : Heap) (A : Around) (l : List Env) (s : Shared) (Q E : Value → Shared → Prop),
    Sits w p loose mean mg mb H A l s.heap D U → (∀ b ∈ frs l, H.get? b = none) → (∀ q ∈ fp, s.heap.get? q.1 = some q.2 ∧ H.get? q.1 = none ∧ q.1 ∉ frs l) →
    (∀ v h' tk', BackT l (fp.map (·.1)) s.heap h' → P s.heap h' v → Q v { s with heap := h', toks := tk' }) →
    wpAny (model rw_pb0183_01.row.prog w) A (call (.ref f) vs) Q E s
theorem code_hd {w : World} {g : Heap} (X : (KK w.params).In g) : CodeHd g 374 370 := by exact xI9_10 _ _ _ _ _ _ _ _ _ (X 374 _ rfl) rfl rfl rfl rfl rfl rfl rfl rfl (by decide)
section
variable {w : World} {D U : Nat} {f : Addr} {vs : List Value} {fp : List (Addr × Obj)} {P : Heap → Heap → Value → Prop}
theorem enterT {name qual : Str} {params : Arguments} {body : List Stmt} {scope : Scope} {dV kV doc pm cdv ct oc : Value} {an od : Option Addr} {osl : Array (Option Value)} {binds : List (Str × Value)}
    (ho : (KK w.params).lookup f = some ⟨oc, od, .func (fnOf name qual params body scope dV kV doc pm an cdv ct), osl⟩) (hcd : codeIn (KK w.params) cdv qual = true) (hD : D < recursionLimit)
    (hbind : ∀ s : Shared, (KK w.params).In s.heap → BindsTo s (fnOf name qual params body scope dV kV doc pm an cdv ct) ⟨vs, []⟩ binds)
    (hkind : (binds.all fun y => scope.names.lookup y.1 == some .local || scope.names.lookup y.1 == some .cell) = true) (hnd : ((cellsFrom 0 scope.names []).map (·.1)).Nodup)
    (h : ∀ {p : Program} {loose : List Str} {mean : ExcName → Option Value} {mg mb : Str → Option Value} {gd : Option (List Code)} {l : List Env} {s : Shared} {Q E : Value → Shared → Prop} (g : Heap) (L : Addr) (h₁ : Heap) (tk : Nat) (cells : List (Addr × Obj)),
      Fr g L h₁ (bindL (envOfC qual scope L f cdv).kindOf binds fun _ => none) → News g L h₁ (cells ++ (fp ++ objsAt s.heap (frs l))) → CellsAre (bindC (envOfC qual scope L f cdv).kindOf binds fun _ => none) (cellsFrom (L + 1) scope.names []) cells →
      (KK w.params).In g → Top p loose mean mg mb g → s.heap.FunFrames noHeap l → s.heap.objs.size = L → (∀ b o, s.heap.get? b = some o → b ∉ fp.map (·.1) → b ∉ frs l → g.get? b = some o) → (∀ b ∈ frs l, g.get? b = none) →
      (∀ q ∈ fp, s.heap.get? q.1 = some q.2 ∧ q.1 ∉ frs l) → (∀ q ∈ fp, q.1 < L) →
      (∀ v h' tk', BackT l (fp.map (·.1)) s.heap h' → P s.heap h' v → Q v { s with heap := h', toks := tk' }) →
      wpAny (model rw_pb0183_01.row.prog w) ((Aat D U gd l).deeper (envOfC qual scope L f cdv)) (execs body (envOfC qual scope L f cdv))
        (fun fl s' => Q (match fl with | .ret v => v | _ => .none) s')
        (fun e s' => wpAny (model rw_pb0183_01.row.prog w) ((Aat D U gd l).deeper (envOfC qual scope L f cdv)) (leaving (envOfC qual scope L f cdv) e) (fun _ s'' => E e s'') (fun e' s'' => E e' s'') s')
        { s with heap := h₁, toks := tk })
    (hco : scope.isCoroutine = false := by rfl) (hgen : scope.isGenerator = false := by rfl) (hk : scope.kind = .function := by rfl) : SpecT w f D U vs fp P := by
  intro p loose mean mg mb H A l s Q E S hfl hfp hret
  obtain ⟨hd, dp, fr, gd, un⟩ := A
  obtain ⟨X, T, st, zq1', zq2', dep, unn, fs⟩ := S; subst zq1'; subst zq2'
  dsimp only at dep unn
  refine wpAny_up (B := Aat D U gd l) ?_ rfl dep rfl rfl unn
  have Xs : (KK w.params).In s.heap := X.keeps st
  have hg1 : ∀ b, b ∈ fp.map (·.1) ++ frs l → (hideAll s.heap (fp.map (·.1) ++ frs l)).get? b = none := fun b hb => hideAll_none _ hb
  have stg : H.StaysIn (hideAll s.heap (fp.map (·.1) ++ frs l)) := fun b o q => hideAll_get _ (st b o q) fun hm => by
    rcases List.mem_append.mp hm with hm | hm
    · refine xE1_2 (List.mem_map.mp hm) ?_; intro x hx zq3'; subst zq3'
      rw [(hfp x hx).2.1] at q; cases q
    · rw [hfl b hm] at q; cases q
  refine wpAny_call (codeAny_call_function hD (Xs _ _ ho) rfl hco hgen rfl (codeRec_of Xs hcd) (hbind s Xs _ _ _ _ ?_))
  refine wpAny_newFunctionEnv_cells hk (kindsX hkind _) fun env' he s' x => ?_
  subst he
  refine ⟨(T.nolimit.keeps st).keeps x.toInCall.keep, codeAny_func ?_⟩
  refine xE2_2 (x.done) ?_; intro h₁ tk zq4' _; subst zq4'
  have hk₁ := x.toInCall.keep
  refine xE1_2 (Cl.news (h₀ := s.heap) (Nat.le_refl _) fun n c hm => ⟨x.cell n c (lookup_of_mem_nodup (cellsFrom_names scope.names 0 (s.heap.objs.size + 1) [] [] rfl ▸ hnd) hm), x.above n c hm⟩) ?_; intro cells NC Y
  have F : Fr (hideAll s.heap (fp.map (·.1) ++ frs l)) s.heap.objs.size h₁ _ := ⟨x.toInCall.ns, fun b o e => hk₁ b o (of_hideAll _ e), Nat.le_of_eq (hideAll_size _ _)⟩
  refine h (gd := gd) (l := l) (s := s) (Q := Q) (E := E) _ s.heap.objs.size h₁ tk cells F (fun q hq => ?_) Y (X.keeps stg) (T.keeps stg) fs rfl
    (fun b o q h1 h2 => hideAll_get _ q fun hm => (List.mem_append.mp hm).elim h1 h2) (fun b hb => hg1 b (List.mem_append_right _ hb)) (fun q hq => ⟨(hfp q hq).1, (hfp q hq).2.2⟩) (fun q hq => Heap.lt_size (hfp q hq).1) hret
  rcases List.mem_append.mp hq with hq | hq
  · refine xI0_3 ((NC q hq).1) ((NC q hq).2.1) ?_
    cases z : (hideAll s.heap (fp.map (·.1) ++ frs l)).get? q.1 with
    | none => rfl
    | some o => have := of_hideAll _ z; rw [(NC q hq).2.2] at this; cases this
  · rcases List.mem_append.mp hq with hq | hq
    · exact xI0_3 (hk₁ _ _ (hfp q hq).1) (Nat.ne_of_lt (Heap.lt_size (hfp q hq).1)) (hg1 _ (List.mem_append_left _ (List.mem_map_of_mem hq)))
    · refine xE0_2 (mem_objsAt.mp hq) ?_; intro h1 h2
      exact xI0_3 (hk₁ _ _ h2) (Nat.ne_of_lt (Heap.lt_size h2)) (hg1 _ (List.mem_append_right _ h1))
end
theorem frame_tail {s : Heap} {l : List Env} {L : Addr} {o : Obj} (hfp : ∀ q ∈ [((370 : Addr), o)], s.get? q.1 = some q.2 ∧ q.1 ∉ frs l) (hLe : s.objs.size = L) : ∃ fl, fl = objsAt s (frs l) ∧ FlOk s (frs l) fl ∧ OwnOff fl [370, L + 1, L + 1 + 1] ∧ (370 : Addr) ∉ frs l := by
  refine xI1_4 _ rfl (flOk_same fun _ h => h) (fun p hp q hq => ?_) ((hfp _ (.head _)).2)
  refine xE0_2 (mem_objsAt.mp hp) ?_; intro h1 h2
  have hlt : @LT.lt Nat _ p.1 L := hLe ▸ Heap.lt_size h2
  simp only [List.mem_cons, List.not_mem_nil, or_false] at hq
  rcases hq with rfl | rfl | rfl
  · intro e
    exact (hfp _ (.head _)).2 (e ▸ h1)
  · exact neN (by omega)
  · exact neN (by omega)
inductive FrontF (l : List Env) (tl : List (Addr × Obj)) : List (Addr × Obj) → (List (Addr × Obj) → List (Addr × Obj)) → Prop
  | here : FrontF l tl tl (fun x => x)
  | cons {p : Addr × Obj} {r : List (Addr × Obj)} {G : List (Addr × Obj) → List (Addr × Obj)} : p.1 ∉ frs l → FrontF l tl r G → FrontF l tl (p :: r) (fun x => p :: G x)
theorem FrontF.sub {l : List Env} {tl led : List (Addr × Obj)} {G : List (Addr × Obj) → List (Addr × Obj)} (U : FrontF l tl led G) : ∀ p ∈ tl, p ∈ led := by
  induction U with
  | here => exact fun _ h => h
  | cons _ _ ih => exact fun p hp => .tail _ (ih p hp)
theorem FrontF.news {g h h' : Heap} {L : Addr} {l : List Env} {tl led t1 : List (Addr × Obj)} {G : List (Addr × Obj) → List (Addr × Obj)} (U : FrontF l tl led G) (N : News g L h led) (hk : ∀ p ∈ led, p.1 ∉ frs l → h'.get? p.1 = some p.2) (N1 : News g L h' t1) : News g L h' (G t1) := by
  induction U with
  | here => exact N1
  | @cons p r G hp _ ih =>
    intro q hq
    rcases List.mem_cons.mp hq with rfl | hq
    · exact ⟨hk _ (.head _) hp, (N _ (.head _)).2⟩
    · exact ih (fun x hx => N x (.tail _ hx)) (fun x hx => hk x (.tail _ hx)) q hq
theorem nofr_of {l : List Env} {L p : Addr} (h : ∀ b ∈ frs l, b < L) (hp : @LE.le Nat _ L p) : p ∉ frs l := fun hm => by
  have : @LT.lt Nat _ p L := h p hm
  omega
theorem SpecC.here {w : World} {D U : Nat} {f : Addr} {vs : List Value} {ro led tl0 rs : List (Addr × Obj)} {X' : Dat → Prop} {A : Around} {p : Program} {loose : List Str} {mean : ExcName → Option Value} {mg mb : Str → Option Value} {l : List Env} {env : Env} {g h : Heap} {L : Addr} {s₀ s : Shared} {Q₂ E : Value → Shared → Prop} {tk : Nat} {m : Str → Option Value} {G : List (Addr × Obj) → List (Addr × Obj)} {adr : List Addr}
    (C : SpecC w f D U vs ro (AskP X')) (F : Fr g L h m) (N : News g L h led) (UF : FrontF l tl0 led G) (hro : ∀ q ∈ ro, q ∈ led) (hro2 : ∀ q ∈ ro, q.1 ∉ frs l) (X : (KK w.params).In g) (T : Top p loose mean mg mb g) (fs : s₀.heap.FunFrames noHeap l) (hFl : FlOk s₀.heap (frs l) tl0) (hfl : ∀ b ∈ frs l, g.get? b = none) (hrs : ∀ p ∈ rs, p ∈ tl0 ∧ p.1 ∉ frs l) (O : OwnOff tl0 adr) (hadr : ∀ a ∈ adr, ∃ o, (a, o) ∈ led) (hadr2 : ∀ a ∈ adr, a ∉ frs l)
    (hA : A.frames = some (env :: l)) (hf : env.frame = some L) (hke : env.scope.kind = .function) (hh : A.handled = none) (hd : A.depth ≤ D) (hu : A.units ≤ U)
    (hret : ∀ v h' tk' t1 rs1 d, Fr g L h' m → News g L h' (G t1) → FlOk s₀.heap (frs l) t1 → (∀ p ∈ rs1, p ∈ t1 ∧ p.1 ∉ frs l) → (∀ p ∈ rs, p ∈ rs1) → OwnOff t1 adr → DatIn rs1 v d → X' d → Q₂ v { s with heap := h', toks := tk' }) :
    wpAny (model rw_pb0183_01.row.prog w) A (call (.ref f) vs) Q₂ E { s with heap := h, toks := tk } := by
  have hfr : ∀ b ∈ frs l, ∀ o, s₀.heap.get? b = some o → ∃ sl, h.get? b = some { o with slots := sl } := fun b hb o q => by
    refine xE1_1 (hFl b hb o q) ?_; intro sl h1
    exact ⟨sl, (N _ (UF.sub _ h1)).1⟩
  have fs' : h.FunFrames noHeap (env :: l) := by
    refine xE3_3 (F.ns) ?_; intro oL es ep hoL hdd _
    refine xI0_3 (by rw [hke]; decide) ⟨L, oL, hf, rfl, hoL, fun vs q => by rw [hdd] at q; cases q⟩ (funFrames_of fs fun b hb o q => ?_)
    refine xE1_1 (hfr b hb o q) ?_; intro sl h1
    exact xI1_2 _ h1 rfl
  have hfr' : ∀ b, b ∈ frs (env :: l) → b = L ∨ b ∈ frs l := fun b hb => by
    unfold frs at hb ⊢
    rw [List.filterMap_cons, hf] at hb
    exact (List.mem_cons.mp hb)
  have gL : g.get? L = none := Heap.get?_none_of_le F.above
  have hLl : L ∉ frs l := fun hm => by
    refine xE1_2 (frs_mem fs hm) ?_; intro o ho _
    refine xE1_1 (hFl L hm o ho) ?_; intro sl h1
    exact (N _ (UF.sub _ h1)).2.1 rfl
  refine C _ _ _ _ _ g _ _ { s with heap := h, toks := tk } _ _ ⟨X, T, F.keep, hA, hh, hd, hu, fs'⟩ (fun b hb => (hfr' b hb).elim (fun e => e ▸ gL) (hfl b)) (fun q hq => ⟨(N q (hro q hq)).1, (N q (hro q hq)).2.2, fun hm => (hfr' _ hm).elim (N q (hro q hq)).2.1 (hro2 q hq)⟩) fun v h' tk' hb hp => ?_
  refine xE2_3 hp ?_; (try clear hp); intro tl d hM hD hX
  have keep : ∀ p ∈ led, p.1 ∉ frs l → h'.get? p.1 = some p.2 := fun p hp hn => hb.keep _ _ (N p hp).1 fun hm => (hfr' _ hm).elim (N p hp).2.1 hn
  have F' : Fr g L h' m := by
    refine xE3_2 (F.ns) ?_; intro oL es ep hoL r
    refine xE1_1 (hb.slots L oL hoL) ?_; intro sl hs
    refine ⟨⟨_, es, ep, hs, r⟩, fun b o q => hb.keep b o (F.keep b o q) fun hm => ?_, F.above⟩
    rcases hfr' b hm with rfl | hm
    · rw [gL] at q; cases q
    · rw [hfl b hm] at q; cases q
  have tlN : ∀ p ∈ tl, p.1 ∉ frs l := fun p hp hm => by
    refine xE1_2 (frs_mem fs hm) ?_; intro o ho _
    refine xE1_1 (hfr _ hm o ho) ?_; intro sl h1
    rw [(hM p hp).2] at h1
    cases h1
  have tlNew : News g L h' tl := fun p hp => by
    refine xI0_3 ((hM p hp).1) (fun e => ?_) ?_
    · refine xE3_2 (F.ns) ?_; intro oL _ _ hoL _
      have := (hM p hp).2
      rw [e, hoL] at this; cases this
    · cases e : g.get? p.1 with
      | none => rfl
      | some o' => have := (hM p hp).2; rw [F.keep _ _ e] at this; cases this
  refine hret v h' tk' (objsAt h' (frs l) ++ (rs ++ tl)) (rs ++ tl) d F' (UF.news N keep fun p hp => ?_) (fun b hb' o q => ?_) (fun p hp => ⟨List.mem_append_right _ hp, ?_⟩) (fun p hp => List.mem_append_left _ hp) (fun p hp a ha => ?_) (hD.mono fun p hp => List.mem_append_right _ hp) hX
  · rcases List.mem_append.mp hp with hp | hp
    · refine xE0_2 (mem_objsAt.mp hp) ?_; intro y1 y2
      exact xI0_3 y2 (fun e => hLl (e ▸ y1)) (hfl _ y1)
    · rcases List.mem_append.mp hp with hp | hp
      · have z := UF.sub _ (hrs p hp).1
        exact ⟨keep p z (hrs p hp).2, (N p z).2⟩
      · exact tlNew p hp
  · refine xE1_1 (hfr b hb' o q) ?_; intro sl h1
    refine xE1_1 (hb.slots b _ h1) ?_; intro sl2 h2
    exact ⟨sl2, List.mem_append_left _ (mem_objsAt.mpr ⟨hb', h2⟩)⟩
  · rcases List.mem_append.mp hp with hp | hp
    · exact (hrs p hp).2
    · exact tlN p hp
  · rcases List.mem_append.mp hp with hp | hp
    · refine xE0_2 (mem_objsAt.mp hp) ?_; intro y1 _
      exact fun e => hadr2 a ha (e ▸ y1)
    · rcases List.mem_append.mp hp with hp | hp
      · exact O p (hrs p hp).1 a ha
      · intro e
        refine xE1_1 (hadr a ha) ?_; intro o ho
        have := (hM p hp).2
        rw [e, (N _ ho).1] at this
        cases this
theorem frs_lt {s : Heap} {l : List Env} {L : Addr} (fs : s.FunFrames noHeap l) (hLe : s.objs.size = L) : ∀ b ∈ frs l, b < L := fun b hb => by
  refine xE1_2 (frs_mem fs hb) ?_; intro o ho _
  exact hLe ▸ Heap.lt_size ho
theorem hadr3 {a b c : Addr} {o1 o2 o3 : Obj} {led : List (Addr × Obj)} (h1 : (a, o1) ∈ led) (h2 : (b, o2) ∈ led) (h3 : (c, o3) ∈ led) : ∀ x ∈ [a, b, c], ∃ o, (x, o) ∈ led := List.forall_mem_cons.mpr ⟨⟨_, h1⟩, List.forall_mem_cons.mpr ⟨⟨_, h2⟩, List.forall_mem_cons.mpr ⟨⟨_, h3⟩, fun _ h => nomatch h⟩⟩⟩
theorem all3 {α : Type} {P : α → Prop} {a b c : α} (h1 : P a) (h2 : P b) (h3 : P c) : ∀ x ∈ [a, b, c], P x := List.forall_mem_cons.mpr ⟨h1, List.forall_mem_cons.mpr ⟨h2, List.forall_mem_cons.mpr ⟨h3, fun _ h => nomatch h⟩⟩⟩
theorem all4 {α : Type} {P : α → Prop} {a b c d : α} (h1 : P a) (h2 : P b) (h3 : P c) (h4 : P d) : ∀ x ∈ [a, b, c, d], P x := List.forall_mem_cons.mpr ⟨h1, all3 h2 h3 h4⟩
end
section
open PySem.Calls
noncomputable def lamP (i : Nat) : Pos := match topS 33 with
  | .FunctionDef _ _ [.Return (some (.List es _)) _] _ _ _ _ _ _ _ => (match es[i]? with
    | some (.Call _ [.Lambda _ _ _ p] _ _) => p
    | _ => ⟨0, 0, 0, 0⟩)
  | _ => ⟨0, 0, 0, 0⟩
noncomputable def psOf (c0 c1 c2 c3 c4 : Addr) : Array Value :=
  #[] ++ #[rawInt (lamP 0).line, rawInt (lamP 0).col, .ref c0] ++ #[rawInt (lamP 1).line, rawInt (lamP 1).col, .ref c1] ++ #[rawInt (lamP 2).line, rawInt (lamP 2).col, .ref c2] ++ #[rawInt (lamP 3).line, rawInt (lamP 3).col, .ref c3] ++ #[rawInt (lamP 4).line, rawInt (lamP 4).col, .ref c4]
noncomputable def lamQl : Str := (Str.ofString "_law_readers" ++ Str.ofString ".<locals>.") ++ Str.ofString "<lambda>"
def CodeOk (oc : Obj) : Prop := ∃ vs t, oc.data = .fields vs ∧ vs[1]? = some (.str lamQl t)
def heard0 (ks : List Int) (a : Int) : Dat → Prop := HeardX (fun d => ∃ dd ls, scriptB ks a = .ok (dd, ls) ∧ d = scriptDat "latn" dd ls) (fun what pl => scriptB ks a = .error (what, pl))
def heard1 (ks : List Int) (a : Int) : Dat → Prop := HeardX (fun d => ∃ fs, featB ks a = .ok fs ∧ d = featDat "liga" fs) (fun what pl => featB ks a = .error (what, pl))
def heard2 (ks : List Int) (a lead : Int) (asc : Bool) : Dat → Prop := HeardX (fun d => ∃ rs, recB ks a lead asc = .ok rs ∧ (∀ r ∈ rs, PyData.strOk r.1 = true) ∧ d = .list (recsDat a rs)) (fun what pl => recB ks a lead asc = .error (what, pl))
def heard4 (ks : List Int) (a : Int) : Dat → Prop := HeardX (fun d => ∃ k n f m ps, lookupB ks a = .ok (k, n, f, m, ps) ∧ PyData.strOk k = true ∧ ps ≠ [] ∧ d = lawLookDat a k n f m ps) (fun what pl => lookupB ks a = .error (what, pl))
def TabFull (h : Heap) (c0 c1 c2 c3 c4 : Addr) (o0 o1 o2 o3 o4 : Obj) : Prop := h.get? 370 = some (tabObj (psOf c0 c1 c2 c3 c4)) ∧ (h.get? c0 = some o0 ∧ CodeOk o0) ∧ (h.get? c1 = some o1 ∧ CodeOk o1) ∧ (h.get? c2 = some o2 ∧ CodeOk o2) ∧ (h.get? c3 = some o3 ∧ CodeOk o3) ∧ (h.get? c4 = some o4 ∧ CodeOk o4)
def ReadP (ks : List Int) (a : Int) (h h' : Heap) (v : Value) : Prop :=
  ∃ tl d0 d1 d2 d3 d4, Made h h' tl ∧ DatIn tl v (.list [d0, d1, d2, d3, d4]) ∧ heard0 ks a d0 ∧ heard1 ks a d1 ∧ heard2 ks a 2 true d2 ∧ heard2 ks a 0 false d3 ∧ heard4 ks a d4
def NewTab (h h' : Heap) : Prop := ∃ c0 c1 c2 c3 c4 o0 o1 o2 o3 o4, TabFull h' c0 c1 c2 c3 c4 o0 o1 o2 o3 o4 ∧ h.get? c0 = none ∧ h.get? c1 = none ∧ h.get? c2 = none ∧ h.get? c3 = none ∧ h.get? c4 = none
section
variable {s g h' : Heap} {L : Addr} {m : Str → Option Value} {led t1 rs : List (Addr × Obj)} {l : List Env} {o370 : Obj}
theorem backT_of (hgk : ∀ b o, s.get? b = some o → b ∉ [((370 : Addr), o370)].map (·.1) → b ∉ frs l → g.get? b = some o) (F : Fr g L h' m) (N : News g L h' led) (hFl : FlOk s (frs l) t1) (ht : ∀ p ∈ t1, p ∈ led) (hL : s.objs.size = L) : BackT l ([((370 : Addr), o370)].map (·.1)) s h' := by
  refine ⟨fun b o q hb hn => F.keep b o (hgk b o q hb hn), fun b o q hb => ?_, by rw [hL]; exact Nat.le_of_lt F.ns.lt⟩
  by_cases hn : b ∈ frs l
  · refine xE1_1 (hFl b hn o q) ?_; intro sl h3
    exact ⟨sl, (N _ (ht _ h3)).1⟩
  · exact ⟨o.slots, F.keep b o (hgk b o q hb hn)⟩
theorem freshT (hgk : ∀ b o, s.get? b = some o → b ∉ [((370 : Addr), o370)].map (·.1) → b ∉ frs l → g.get? b = some o) {x : Addr} {o : Obj} (N : News g L h' led) (hx : (x, o) ∈ led) (h1 : x ∉ frs l) (h2 : @Ne Nat x 370) : s.get? x = none := by
  cases q : s.get? x with
  | none => rfl
  | some o' =>
    exfalso
    have := (N _ hx).2.2
    rw [hgk x o' q (fun hm => h2 (List.mem_singleton.mp hm)) h1] at this
    cases this
theorem read_made {ks : List Int} {a : Int} {ll : Addr} {v0 v1 v2 v3 v4 : Value} {d0 d1 d2 d3 d4 : Dat} {adr : List Addr} (hgk : ∀ b o, s.get? b = some o → b ∉ [((370 : Addr), o370)].map (·.1) → b ∉ frs l → g.get? b = some o) (N : News g L h' led) (ht : ∀ p ∈ t1, p ∈ led) (hrs : ∀ p ∈ rs, p ∈ t1 ∧ p.1 ∉ frs l) (O : OwnOff t1 (370 :: adr))
    (hl : (ll, listOf #[v0, v1, v2, v3, v4] 0) ∈ led) (n1 : ll ∉ frs l) (n2 : @Ne Nat ll 370) (hA : DatAll rs ([] ++ [v0] ++ [v1] ++ [v2] ++ [v3] ++ [v4]) ([] ++ [d0] ++ [d1] ++ [d2] ++ [d3] ++ [d4])) (x0 : heard0 ks a d0) (x1 : heard1 ks a d1) (x2 : heard2 ks a 2 true d2) (x3 : heard2 ks a 0 false d3) (x4 : heard4 ks a d4) : ReadP ks a s h' (.ref ll) := by
  refine xI6_7 ((ll, listOf #[v0, v1, v2, v3, v4] 0) :: rs) d0 d1 d2 d3 d4 (fun p hp => ?_) (.list (vs := [v0, v1, v2, v3, v4]) (.head _) (DatAll.mono (fun p hp => .tail _ hp) hA)) x0 x1 x2 x3 x4
  rcases List.mem_cons.mp hp with rfl | hp
  · exact ⟨(N _ hl).1, freshT hgk N hl n1 n2⟩
  · have z := ht _ (hrs p hp).1
    exact ⟨(N _ z).1, freshT (o := p.2) hgk N z (hrs p hp).2 (O p (hrs p hp).1 370 (.head _))⟩
end
end
section
open PySem.Calls
theorem fresh_end {s : Shared} {g h' : Heap} {L : Addr} {led : List (Addr × Obj)} {l : List Env} {Q : Value → Shared → Prop} {v : Value} {tk' : Nat} {ks : List Int} {a : Int} {c0 c1 c2 c3 c4 : Addr} {o0 o1 o2 o3 o4 : Obj}
    (hX : ∀ v h' tk', BackT l ([((370 : Addr), tabObj #[])].map (·.1)) s.heap h' → (ReadP ks a s.heap h' v ∧ NewTab s.heap h') → Q v { s with heap := h', toks := tk' })
    (hgk : ∀ b o, s.heap.get? b = some o → b ∉ [((370 : Addr), tabObj #[])].map (·.1) → b ∉ frs l → g.get? b = some o) (N : News g L h' led)
    (hB : BackT l ([((370 : Addr), tabObj #[])].map (·.1)) s.heap h') (hR : ReadP ks a s.heap h' v) (h370 : (370, tabObj (psOf c0 c1 c2 c3 c4)) ∈ led)
    (m0 : (c0, o0) ∈ led) (k0 : CodeOk o0) (n0 : c0 ∉ frs l) (e0 : @Ne Nat c0 370) (m1 : (c1, o1) ∈ led) (k1 : CodeOk o1) (n1 : c1 ∉ frs l) (e1 : @Ne Nat c1 370) (m2 : (c2, o2) ∈ led) (k2 : CodeOk o2) (n2 : c2 ∉ frs l) (e2 : @Ne Nat c2 370) (m3 : (c3, o3) ∈ led) (k3 : CodeOk o3) (n3 : c3 ∉ frs l) (e3 : @Ne Nat c3 370) (m4 : (c4, o4) ∈ led) (k4 : CodeOk o4) (n4 : c4 ∉ frs l) (e4 : @Ne Nat c4 370) : Q v { s with heap := h', toks := tk' } :=
  hX _ _ _ hB ⟨hR, c0, c1, c2, c3, c4, o0, o1, o2, o3, o4, ⟨N.get h370, ⟨N.get m0, k0⟩, ⟨N.get m1, k1⟩, ⟨N.get m2, k2⟩, ⟨N.get m3, k3⟩, ⟨N.get m4, k4⟩⟩, freshT hgk N m0 n0 e0, freshT hgk N m1 n1 e1, freshT hgk N m2 n2 e2, freshT hgk N m3 n3 e3, freshT hgk N m4 n4 e4⟩
theorem readers_fresh {w : World} {b : Array UInt8} {ks : List Int} {a : Int} {t1 t2 : Tok} (hb : KBw.bInts b = ks) (hz : ks.length ≤ 1000) (hz3 : ks.length ≤ 300) (ha : 0 ≤ a) :
    SpecT w 375 700 700 [.bytes b t1, .int a t2] [(370, tabObj #[])] (fun h h' v => ReadP ks a h h' v ∧ NewTab h h') := by
  ((refine' enterT ?ho ?hcd ?hD ?hb ?hkd ?hnd ?_ ?c1 ?c2 ?c3; (case ho => exact rfl); (case hcd => exact rfl); (case hD => decide); (case hb => exact fun s'r X'r => BindsTo.of_eq rfl); (case hkd => exact rfl); (case hnd => decide +kernel); (case c1 => exact rfl); (case c2 => exact rfl); (case c3 => exact rfl); intro p'r loose'r mean'r mg'r mb'r gd'r l'r s'r Q'r E'r g'r L'r h₁'r tk'r cells'r F'r N'r Y'r X'r T'r fs'r hLe'r hgk'r hfl'r hfp'r hlt'r hX'r; (try (refine (let mk := _; (fun (FK : Fr _ _ _ mk) => ?_) F'r); clear F'r)); (have C := code_hd X'r); (refine xE1_4 (frame_tail hfp'r hLe'r) ?_; intro fl hfle hFl hFo h370); (have hFlt := frs_lt fs'r hLe'r); (have hrs0 : ∀ p'r ∈ ([] : List (Addr × Obj)), p'r ∈ fl ∧ p'r.1 ∉ frs l'r := fun _ h => nomatch h); (have hA0 : DatAll ([] : List (Addr × Obj)) [] [] := .nil); (rw [← hfle] at N'r); revert X'r; k_fill; intro X'r; (try k_lt hlt'r); k_cells Y'r; (try simp only [List.cons_append, List.nil_append] at N'r); (try dsimp only); (try (refine (let mA := _; let mE := _; (?_ : wpAny _ mA (execs _ mE) _ _ _)))); (try k_fold)))
  (repeat' (first | ((with_reducible first | refine nextN ?_ | refine nextR ?_); (try dsimp only)) | (k_unfold; (try dsimp only)) | (k_end; kc_close) | ((with_reducible first | show wpAny _ _ (exec _ _) _ _ _ | show wpAny _ _ (eval (Expr.Call ..) _) _ _ _ | show wpAny _ _ (eval (Expr.BinOp ..) _) _ _ _ | show wpAny _ _ (eval (Expr.Subscript ..) _) _ _ _ | show wpAny _ _ (eval (Expr.List ..) _) _ _ _ | show wpAny _ _ (eval (Expr.Tuple ..) _) _ _ _); (fail_if_success (fail_if_success k_fold)); refine (let qk := _; (?_ : wpAny _ _ _ qk _ _))) | ((with_reducible refine execsN ?_); (try k_gentoks)) | ((with_reducible refine args_cons ?_ ?he); (case he => exact rfl)) | ((with_reducible show wpAny _ _ (callWith _ (Value.ref _) _ _ _) _ _ _); (refine' callWith_K ?k1 ?k2 ?_; (case k1 => k_asm); (case k2 => k_is); k_whole)) | ((with_reducible show wpAny _ _ (call (Value.ref _) _ _) _ _ _); first | ((k_here; (try dsimp only); k_dflt (refine' SpecC.here (heard_spec (.head _) (lam_script (by kba_ints) (by assumption) (by assumption) ?hl ?hoc ?hvs ?hod ?hoa)) ?F ?N ?UF ?hro ?hro2 ?X ?T ?fs ?hFl ?hfl ?hrs ?O ?hadr ?hadr2 ?hA ?hf ?hke ?hh ?hd ?hu ?_; (case F => k_asm); (case hFl => assumption); (case N => k_asm); (case hro => exact mem4 (by k_mem) (by k_mem) (by k_mem) (by k_mem)); (case hl => exact rfl); (case hoc => assumption); (case hvs => assumption); (case hod => assumption); (case hoa => assumption); (case UF => ((repeat (first | exact FrontF.here | (refine' FrontF.cons (by (first | exact (by assumption : (370 : Addr) ∉ frs _) | exact nofr_of (by assumption) (by (try dsimp only); omega))) ?_; rotate_left))))); (case hro2 => exact all4 (by (first | exact (by assumption : (370 : Addr) ∉ frs _) | exact nofr_of (by assumption) (by (try dsimp only); omega))) (by (first | exact (by assumption : (370 : Addr) ∉ frs _) | exact nofr_of (by assumption) (by (try dsimp only); omega))) (by (first | exact (by assumption : (370 : Addr) ∉ frs _) | exact nofr_of (by assumption) (by (try dsimp only); omega))) (by (first | exact (by assumption : (370 : Addr) ∉ frs _) | exact nofr_of (by assumption) (by (try dsimp only); omega)))); (case X => k_asm); (case T => k_asm); (case fs => assumption); (case hfl => assumption); (case hrs => assumption); (case O => assumption); (case hadr => exact hadr3 (by k_mem) (by k_mem) (by k_mem)); (case hadr2 => exact all3 (by (first | exact (by assumption : (370 : Addr) ∉ frs _) | exact nofr_of (by assumption) (by (try dsimp only); omega))) (by (first | exact (by assumption : (370 : Addr) ∉ frs _) | exact nofr_of (by assumption) (by (try dsimp only); omega))) (by (first | exact (by assumption : (370 : Addr) ∉ frs _) | exact nofr_of (by assumption) (by (try dsimp only); omega)))); (case hA => exact rfl); (case hf => exact rfl); (case hke => exact rfl); (case hh => exact rfl); (case hd => exact Nat.le_of_ble_eq_true rfl); (case hu => exact Nat.le_of_ble_eq_true rfl)); intro v'r h'r tk'r t1'r rs1'r d'r F'r N'r hFl'r hrs'r hsub'r O'r hD'r hX'r; (have hA'r := DatAll.append (DatAll.mono hsub'r (by assumption)) (.one hD'r)); clear hD'r; (try dsimp only at N'r); (try k_sweep); (try k_fold))) | ((k_here; (try dsimp only); k_dflt (refine' SpecC.here (heard_spec (.head _) (lam_feature (by kba_ints) (by assumption) ?hl ?hoc ?hvs ?hod ?hoa)) ?F ?N ?UF ?hro ?hro2 ?X ?T ?fs ?hFl ?hfl ?hrs ?O ?hadr ?hadr2 ?hA ?hf ?hke ?hh ?hd ?hu ?_; (case F => k_asm); (case hFl => assumption); (case N => k_asm); (case hro => exact mem4 (by k_mem) (by k_mem) (by k_mem) (by k_mem)); (case hl => exact rfl); (case hoc => assumption); (case hvs => assumption); (case hod => assumption); (case hoa => assumption); (case UF => ((repeat (first | exact FrontF.here | (refine' FrontF.cons (by (first | exact (by assumption : (370 : Addr) ∉ frs _) | exact nofr_of (by assumption) (by (try dsimp only); omega))) ?_; rotate_left))))); (case hro2 => exact all4 (by (first | exact (by assumption : (370 : Addr) ∉ frs _) | exact nofr_of (by assumption) (by (try dsimp only); omega))) (by (first | exact (by assumption : (370 : Addr) ∉ frs _) | exact nofr_of (by assumption) (by (try dsimp only); omega))) (by (first | exact (by assumption : (370 : Addr) ∉ frs _) | exact nofr_of (by assumption) (by (try dsimp only); omega))) (by (first | exact (by assumption : (370 : Addr) ∉ frs _) | exact nofr_of (by assumption) (by (try dsimp only); omega)))); (case X => k_asm); (case T => k_asm); (case fs => assumption); (case hfl => assumption); (case hrs => assumption); (case O => assumption); (case hadr => exact hadr3 (by k_mem) (by k_mem) (by k_mem)); (case hadr2 => exact all3 (by (first | exact (by assumption : (370 : Addr) ∉ frs _) | exact nofr_of (by assumption) (by (try dsimp only); omega))) (by (first | exact (by assumption : (370 : Addr) ∉ frs _) | exact nofr_of (by assumption) (by (try dsimp only); omega))) (by (first | exact (by assumption : (370 : Addr) ∉ frs _) | exact nofr_of (by assumption) (by (try dsimp only); omega)))); (case hA => exact rfl); (case hf => exact rfl); (case hke => exact rfl); (case hh => exact rfl); (case hd => exact Nat.le_of_ble_eq_true rfl); (case hu => exact Nat.le_of_ble_eq_true rfl)); intro v'r h'r tk'r t1'r rs1'r d'r F'r N'r hFl'r hrs'r hsub'r O'r hD'r hX'r; (have hA'r := DatAll.append (DatAll.mono hsub'r (by assumption)) (.one hD'r)); clear hD'r; (try dsimp only at N'r); (try k_sweep); (try k_fold))) | ((k_here; (try dsimp only); k_dflt (refine' SpecC.here (heard_spec (.head _) (lam_rec1 (by kba_ints) (by assumption) ?hl ?hoc ?hvs ?hod ?hoa)) ?F ?N ?UF ?hro ?hro2 ?X ?T ?fs ?hFl ?hfl ?hrs ?O ?hadr ?hadr2 ?hA ?hf ?hke ?hh ?hd ?hu ?_; (case F => k_asm); (case hFl => assumption); (case N => k_asm); (case hro => exact mem4 (by k_mem) (by k_mem) (by k_mem) (by k_mem)); (case hl => exact rfl); (case hoc => assumption); (case hvs => assumption); (case hod => assumption); (case hoa => assumption); (case UF => ((repeat (first | exact FrontF.here | (refine' FrontF.cons (by (first | exact (by assumption : (370 : Addr) ∉ frs _) | exact nofr_of (by assumption) (by (try dsimp only); omega))) ?_; rotate_left))))); (case hro2 => exact all4 (by (first | exact (by assumption : (370 : Addr) ∉ frs _) | exact nofr_of (by assumption) (by (try dsimp only); omega))) (by (first | exact (by assumption : (370 : Addr) ∉ frs _) | exact nofr_of (by assumption) (by (try dsimp only); omega))) (by (first | exact (by assumption : (370 : Addr) ∉ frs _) | exact nofr_of (by assumption) (by (try dsimp only); omega))) (by (first | exact (by assumption : (370 : Addr) ∉ frs _) | exact nofr_of (by assumption) (by (try dsimp only); omega)))); (case X => k_asm); (case T => k_asm); (case fs => assumption); (case hfl => assumption); (case hrs => assumption); (case O => assumption); (case hadr => exact hadr3 (by k_mem) (by k_mem) (by k_mem)); (case hadr2 => exact all3 (by (first | exact (by assumption : (370 : Addr) ∉ frs _) | exact nofr_of (by assumption) (by (try dsimp only); omega))) (by (first | exact (by assumption : (370 : Addr) ∉ frs _) | exact nofr_of (by assumption) (by (try dsimp only); omega))) (by (first | exact (by assumption : (370 : Addr) ∉ frs _) | exact nofr_of (by assumption) (by (try dsimp only); omega)))); (case hA => exact rfl); (case hf => exact rfl); (case hke => exact rfl); (case hh => exact rfl); (case hd => exact Nat.le_of_ble_eq_true rfl); (case hu => exact Nat.le_of_ble_eq_true rfl)); intro v'r h'r tk'r t1'r rs1'r d'r F'r N'r hFl'r hrs'r hsub'r O'r hD'r hX'r; (have hA'r := DatAll.append (DatAll.mono hsub'r (by assumption)) (.one hD'r)); clear hD'r; (try dsimp only at N'r); (try k_sweep); (try k_fold))) | ((k_here; (try dsimp only); k_dflt (refine' SpecC.here (heard_spec (.head _) (lam_rec2 (by kba_ints) (by assumption) ?hl ?hoc ?hvs ?hod ?hoa)) ?F ?N ?UF ?hro ?hro2 ?X ?T ?fs ?hFl ?hfl ?hrs ?O ?hadr ?hadr2 ?hA ?hf ?hke ?hh ?hd ?hu ?_; (case F => k_asm); (case hFl => assumption); (case N => k_asm); (case hro => exact mem4 (by k_mem) (by k_mem) (by k_mem) (by k_mem)); (case hl => exact rfl); (case hoc => assumption); (case hvs => assumption); (case hod => assumption); (case hoa => assumption); (case UF => ((repeat (first | exact FrontF.here | (refine' FrontF.cons (by (first | exact (by assumption : (370 : Addr) ∉ frs _) | exact nofr_of (by assumption) (by (try dsimp only); omega))) ?_; rotate_left))))); (case hro2 => exact all4 (by (first | exact (by assumption : (370 : Addr) ∉ frs _) | exact nofr_of (by assumption) (by (try dsimp only); omega))) (by (first | exact (by assumption : (370 : Addr) ∉ frs _) | exact nofr_of (by assumption) (by (try dsimp only); omega))) (by (first | exact (by assumption : (370 : Addr) ∉ frs _) | exact nofr_of (by assumption) (by (try dsimp only); omega))) (by (first | exact (by assumption : (370 : Addr) ∉ frs _) | exact nofr_of (by assumption) (by (try dsimp only); omega)))); (case X => k_asm); (case T => k_asm); (case fs => assumption); (case hfl => assumption); (case hrs => assumption); (case O => assumption); (case hadr => exact hadr3 (by k_mem) (by k_mem) (by k_mem)); (case hadr2 => exact all3 (by (first | exact (by assumption : (370 : Addr) ∉ frs _) | exact nofr_of (by assumption) (by (try dsimp only); omega))) (by (first | exact (by assumption : (370 : Addr) ∉ frs _) | exact nofr_of (by assumption) (by (try dsimp only); omega))) (by (first | exact (by assumption : (370 : Addr) ∉ frs _) | exact nofr_of (by assumption) (by (try dsimp only); omega)))); (case hA => exact rfl); (case hf => exact rfl); (case hke => exact rfl); (case hh => exact rfl); (case hd => exact Nat.le_of_ble_eq_true rfl); (case hu => exact Nat.le_of_ble_eq_true rfl)); intro v'r h'r tk'r t1'r rs1'r d'r F'r N'r hFl'r hrs'r hsub'r O'r hD'r hX'r; (have hA'r := DatAll.append (DatAll.mono hsub'r (by assumption)) (.one hD'r)); clear hD'r; (try dsimp only at N'r); (try k_sweep); (try k_fold))) | ((k_here; (try dsimp only); k_dflt (refine' SpecC.here (heard_spec (.head _) (lam_look (by kba_ints) (by assumption) (by assumption) ?hl ?hoc ?hvs ?hod ?hoa)) ?F ?N ?UF ?hro ?hro2 ?X ?T ?fs ?hFl ?hfl ?hrs ?O ?hadr ?hadr2 ?hA ?hf ?hke ?hh ?hd ?hu ?_; (case F => k_asm); (case hFl => assumption); (case N => k_asm); (case hro => exact mem4 (by k_mem) (by k_mem) (by k_mem) (by k_mem)); (case hl => exact rfl); (case hoc => assumption); (case hvs => assumption); (case hod => assumption); (case hoa => assumption); (case UF => ((repeat (first | exact FrontF.here | (refine' FrontF.cons (by (first | exact (by assumption : (370 : Addr) ∉ frs _) | exact nofr_of (by assumption) (by (try dsimp only); omega))) ?_; rotate_left))))); (case hro2 => exact all4 (by (first | exact (by assumption : (370 : Addr) ∉ frs _) | exact nofr_of (by assumption) (by (try dsimp only); omega))) (by (first | exact (by assumption : (370 : Addr) ∉ frs _) | exact nofr_of (by assumption) (by (try dsimp only); omega))) (by (first | exact (by assumption : (370 : Addr) ∉ frs _) | exact nofr_of (by assumption) (by (try dsimp only); omega))) (by (first | exact (by assumption : (370 : Addr) ∉ frs _) | exact nofr_of (by assumption) (by (try dsimp only); omega)))); (case X => k_asm); (case T => k_asm); (case fs => assumption); (case hfl => assumption); (case hrs => assumption); (case O => assumption); (case hadr => exact hadr3 (by k_mem) (by k_mem) (by k_mem)); (case hadr2 => exact all3 (by (first | exact (by assumption : (370 : Addr) ∉ frs _) | exact nofr_of (by assumption) (by (try dsimp only); omega))) (by (first | exact (by assumption : (370 : Addr) ∉ frs _) | exact nofr_of (by assumption) (by (try dsimp only); omega))) (by (first | exact (by assumption : (370 : Addr) ∉ frs _) | exact nofr_of (by assumption) (by (try dsimp only); omega)))); (case hA => exact rfl); (case hf => exact rfl); (case hke => exact rfl); (case hh => exact rfl); (case hd => exact Nat.le_of_ble_eq_true rfl); (case hu => exact Nat.le_of_ble_eq_true rfl)); intro v'r h'r tk'r t1'r rs1'r d'r F'r N'r hFl'r hrs'r hsub'r O'r hD'r hX'r; (have hA'r := DatAll.append (DatAll.mono hsub'r (by assumption)) (.one hD'r)); clear hD'r; (try dsimp only at N'r); (try k_sweep); (try k_fold)))) | walk1 | (dsimp only; walk1) | (dsimp only [mA]; walk1) | (dsimp only [mE]; walk1) | (dsimp only [mA, mE]; walk1) | (leave1; (try dsimp only))))
  (try k_unfold)
  (try dsimp only)
  rename News _ _ _ _ => N9
  rename Fr _ _ _ _ => F9
  rename FlOk _ _ _ => hFl9
  rename OwnOff _ _ => hO9
  rename DatAll _ _ _ => hA9
  have hB9 := backT_of (o370 := tabObj #[]) (by assumption) F9 N9 hFl9 (by ((repeat (first | exact sub_self _ | refine sub_cons ?_)))) (by assumption)
  have hR9 := read_made (ks := ks) (a := a) (o370 := tabObj #[]) (by assumption) N9 (by ((repeat (first | exact sub_self _ | refine sub_cons ?_)))) (by assumption) hO9 (.head _) (by (first | exact (by assumption : (370 : Addr) ∉ frs _) | exact nofr_of (by assumption) (by (try dsimp only); omega))) (by k_ne) hA9 (by assumption) (by assumption) (by assumption) (by assumption) (by assumption)
  refine fresh_end (by assumption) (by assumption) N9 hB9 hR9 (by k_mem) (by k_mem) ⟨_, _, by assumption, by assumption⟩ (by (first | exact (by assumption : (370 : Addr) ∉ frs _) | exact nofr_of (by assumption) (by (try dsimp only); omega))) (by k_ne) (by k_mem) ⟨_, _, by assumption, by assumption⟩ (by (first | exact (by assumption : (370 : Addr) ∉ frs _) | exact nofr_of (by assumption) (by (try dsimp only); omega))) (by k_ne) (by k_mem) ⟨_, _, by assumption, by assumption⟩ (by (first | exact (by assumption : (370 : Addr) ∉ frs _) | exact nofr_of (by assumption) (by (try dsimp only); omega))) (by k_ne) (by k_mem) ⟨_, _, by assumption, by assumption⟩ (by (first | exact (by assumption : (370 : Addr) ∉ frs _) | exact nofr_of (by assumption) (by (try dsimp only); omega))) (by k_ne) (by k_mem) ⟨_, _, by assumption, by assumption⟩ (by (first | exact (by assumption : (370 : Addr) ∉ frs _) | exact nofr_of (by assumption) (by (try dsimp only); omega))) (by k_ne)
end
section
open PySem.Calls
structure FullTab (ps : Array Value) (c0 c1 c2 c3 c4 : Addr) : Prop where
  tr : TriplesOk ps.toList
  hit0 : codeAmong (lamP 0) ps.toList = some (.ref c0)
  hit1 : codeAmong (lamP 1) ps.toList = some (.ref c1)
  hit2 : codeAmong (lamP 2) ps.toList = some (.ref c2)
  hit3 : codeAmong (lamP 3) ps.toList = some (.ref c3)
  hit4 : codeAmong (lamP 4) ps.toList = some (.ref c4)
section
variable {ps : Array Value} {c0 c1 c2 c3 c4 : Addr} {pos : Pos}
theorem FullTab.h0 (h : FullTab ps c0 c1 c2 c3 c4) (e : pos = lamP 0) : codeAmong pos ps.toList = some (.ref c0) := e ▸ h.hit0
theorem FullTab.h1 (h : FullTab ps c0 c1 c2 c3 c4) (e : pos = lamP 1) : codeAmong pos ps.toList = some (.ref c1) := e ▸ h.hit1
theorem FullTab.h2 (h : FullTab ps c0 c1 c2 c3 c4) (e : pos = lamP 2) : codeAmong pos ps.toList = some (.ref c2) := e ▸ h.hit2
theorem FullTab.h3 (h : FullTab ps c0 c1 c2 c3 c4) (e : pos = lamP 3) : codeAmong pos ps.toList = some (.ref c3) := e ▸ h.hit3
theorem FullTab.h4 (h : FullTab ps c0 c1 c2 c3 c4) (e : pos = lamP 4) : codeAmong pos ps.toList = some (.ref c4) := e ▸ h.hit4
end
theorem full_list {c0 c1 c2 c3 c4 : Addr} : (psOf c0 c1 c2 c3 c4).toList = [rawInt (lamP 0).line, rawInt (lamP 0).col, .ref c0, rawInt (lamP 1).line, rawInt (lamP 1).col, .ref c1, rawInt (lamP 2).line, rawInt (lamP 2).col, .ref c2, rawInt (lamP 3).line, rawInt (lamP 3).col, .ref c3, rawInt (lamP 4).line, rawInt (lamP 4).col, .ref c4] := by
  kernel_rfl
theorem triples5 {a0 b0 a1 b1 a2 b2 a3 b3 a4 b4 : Nat} {c0 c1 c2 c3 c4 : Value} : TriplesOk [rawInt a0, rawInt b0, c0, rawInt a1, rawInt b1, c1, rawInt a2, rawInt b2, c2, rawInt a3, rawInt b3, c3, rawInt a4, rawInt b4, c4] := by simp [TriplesOk, rawInt]
theorem full_psOf (c0 c1 c2 c3 c4 : Addr) : FullTab (psOf c0 c1 c2 c3 c4) c0 c1 c2 c3 c4 :=
  by exact ⟨by rw [full_list]; exact triples5, by kernel_rfl, by kernel_rfl, by kernel_rfl, by kernel_rfl, by kernel_rfl⟩
section
variable {s g h' : Heap} {L : Addr} {m : Str → Option Value} {led t1 rs : List (Addr × Obj)} {l : List Env} {fa : List Addr}
theorem backT_ofG (hgk : ∀ b o, s.get? b = some o → b ∉ fa → b ∉ frs l → g.get? b = some o) (F : Fr g L h' m) (N : News g L h' led) (hFl : FlOk s (frs l) t1) (ht : ∀ p ∈ t1, p ∈ led) (hL : s.objs.size = L) : BackT l fa s h' := by
  refine ⟨fun b o q hb hn => F.keep b o (hgk b o q hb hn), fun b o q hb => ?_, by rw [hL]; exact Nat.le_of_lt F.ns.lt⟩
  by_cases hn : b ∈ frs l
  · refine xE1_1 (hFl b hn o q) ?_; intro sl h3
    exact ⟨sl, (N _ (ht _ h3)).1⟩
  · exact ⟨o.slots, F.keep b o (hgk b o q hb hn)⟩
theorem freshG (hgk : ∀ b o, s.get? b = some o → b ∉ fa → b ∉ frs l → g.get? b = some o) {x : Addr} {o : Obj} (N : News g L h' led) (hx : (x, o) ∈ led) (h1 : x ∉ frs l) (h2 : x ∉ fa) : s.get? x = none := by
  cases q : s.get? x with
  | none => rfl
  | some o' =>
    exfalso
    have := (N _ hx).2.2
    rw [hgk x o' q h2 h1] at this
    cases this
theorem read_madeG {ks : List Int} {a : Int} {ll : Addr} {v0 v1 v2 v3 v4 : Value} {d0 d1 d2 d3 d4 : Dat} {adr : List Addr} (hgk : ∀ b o, s.get? b = some o → b ∉ fa → b ∉ frs l → g.get? b = some o) (hlt : ∀ b ∈ fa, b < L) (N : News g L h' led) (ht : ∀ p ∈ t1, p ∈ led) (hrs : ∀ p ∈ rs, p ∈ t1 ∧ p.1 ∉ frs l) (O : OwnOff t1 adr) (hfa : ∀ b ∈ fa, b ∈ adr)
    (hl : (ll, listOf #[v0, v1, v2, v3, v4] 0) ∈ led) (n1 : ll ∉ frs l) (n2 : @LE.le Nat _ L ll) (hA : DatAll rs ([] ++ [v0] ++ [v1] ++ [v2] ++ [v3] ++ [v4]) ([] ++ [d0] ++ [d1] ++ [d2] ++ [d3] ++ [d4])) (x0 : heard0 ks a d0) (x1 : heard1 ks a d1) (x2 : heard2 ks a 2 true d2) (x3 : heard2 ks a 0 false d3) (x4 : heard4 ks a d4) : ReadP ks a s h' (.ref ll) := by
  refine xI6_7 ((ll, listOf #[v0, v1, v2, v3, v4] 0) :: rs) d0 d1 d2 d3 d4 (fun p hp => ?_) (.list (vs := [v0, v1, v2, v3, v4]) (.head _) (DatAll.mono (fun p hp => .tail _ hp) hA)) x0 x1 x2 x3 x4
  rcases List.mem_cons.mp hp with rfl | hp
  · exact ⟨(N _ hl).1, freshG hgk N hl n1 fun hm => Nat.lt_irrefl _ (Nat.lt_of_lt_of_le (hlt _ hm) n2)⟩
  · have z := ht _ (hrs p hp).1
    exact ⟨(N _ z).1, freshG (o := p.2) hgk N z (hrs p hp).2 fun hm => O p (hrs p hp).1 _ (hfa _ hm) rfl⟩
end
theorem all6 {α : Type} {P : α → Prop} {a b c d e f : α} (h1 : P a) (h2 : P b) (h3 : P c) (h4 : P d) (h5 : P e) (h6 : P f) : ∀ x ∈ [a, b, c, d, e, f], P x :=
  List.forall_mem_cons.mpr ⟨h1, List.forall_mem_cons.mpr ⟨h2, List.forall_mem_cons.mpr ⟨h3, all3 h4 h5 h6⟩⟩⟩
theorem all8 {α : Type} {P : α → Prop} {a b c d e f g h : α} (h1 : P a) (h2 : P b) (h3 : P c) (h4 : P d) (h5 : P e) (h6 : P f) (h7 : P g) (h8 : P h) : ∀ x ∈ [a, b, c, d, e, f, g, h], P x :=
  List.forall_mem_cons.mpr ⟨h1, List.forall_mem_cons.mpr ⟨h2, all6 h3 h4 h5 h6 h7 h8⟩⟩
theorem frame_tail6 {s : Heap} {l : List Env} {L : Addr} {ps : Array Value} {c0 c1 c2 c3 c4 : Addr} {o0 o1 o2 o3 o4 : Obj} (hfp : ∀ q ∈ [((370 : Addr), tabObj ps), (c0, o0), (c1, o1), (c2, o2), (c3, o3), (c4, o4)], s.get? q.1 = some q.2 ∧ q.1 ∉ frs l) (hLe : s.objs.size = L) : ∃ fl, fl = objsAt s (frs l) ∧ FlOk s (frs l) fl ∧ OwnOff fl [370, L + 1, L + 1 + 1, c0, c1, c2, c3, c4] ∧ (370 : Addr) ∉ frs l ∧ c0 ∉ frs l ∧ c1 ∉ frs l ∧ c2 ∉ frs l ∧ c3 ∉ frs l ∧ c4 ∉ frs l := by
  have h6 := fun q hq => (hfp q hq).2
  have n0 := h6 _ (.head _)
  have n1 := h6 _ (.tail _ (.head _))
  have n2 := h6 _ (.tail _ (.tail _ (.head _)))
  have n3 := h6 _ (.tail _ (.tail _ (.tail _ (.head _))))
  have n4 := h6 _ (.tail _ (.tail _ (.tail _ (.tail _ (.head _)))))
  have n5 := h6 _ (.tail _ (.tail _ (.tail _ (.tail _ (.tail _ (.head _))))))
  refine xI1_9 _ rfl (flOk_same fun _ h => h) (fun p hp => ?_) n0 n1 n2 n3 n4 n5
  refine xE0_2 (mem_objsAt.mp hp) ?_; intro h1 h2
  have hlt : @LT.lt Nat _ p.1 L := hLe ▸ Heap.lt_size h2
  exact all8 (fun e => n0 (e ▸ h1)) (neN (by omega)) (neN (by omega)) (fun e => n1 (e ▸ h1)) (fun e => n2 (e ▸ h1)) (fun e => n3 (e ▸ h1)) (fun e => n4 (e ▸ h1)) (fun e => n5 (e ▸ h1))
theorem sub6 {α : Type} {l : List α} {a b c d e f : α} (h1 : a ∈ l) (h2 : b ∈ l) (h3 : c ∈ l) (h4 : d ∈ l) (h5 : e ∈ l) (h6 : f ∈ l) : ∀ x ∈ [a, b, c, d, e, f], x ∈ l := all6 h1 h2 h3 h4 h5 h6
theorem full_end {s : Shared} {g h' : Heap} {L : Addr} {led fp : List (Addr × Obj)} {l : List Env} {Q : Value → Shared → Prop} {v : Value} {tk' : Nat} {ks : List Int} {a : Int}
    (hX : ∀ v h' tk', BackT l (fp.map (·.1)) s.heap h' → (ReadP ks a s.heap h' v ∧ ∀ q ∈ fp, h'.get? q.1 = some q.2) → Q v { s with heap := h', toks := tk' }) (N : News g L h' led)
    (hB : BackT l (fp.map (·.1)) s.heap h') (hR : ReadP ks a s.heap h' v) (h6 : ∀ q ∈ fp, q ∈ led) : Q v { s with heap := h', toks := tk' } :=
  hX _ _ _ hB ⟨hR, fun q hq => (N q (h6 q hq)).1⟩
structure LtAll (fa : List Addr) (L : Addr) : Prop where
  out : ∀ b ∈ fa, b < L
theorem lt_all {fp : List (Addr × Obj)} {L : Addr} (h : ∀ q ∈ fp, q.1 < L) : LtAll (fp.map (·.1)) L := ⟨fun b hb => by
  refine xE1_2 (List.mem_map.mp hb) ?_; intro q hq zq1'; subst zq1'
  exact h q hq⟩
theorem readers_fullG {w : World} {b : Array UInt8} {ks : List Int} {a : Int} {t1 t2 : Tok} {ps : Array Value} {c0 c1 c2 c3 c4 : Addr} {o0 o1 o2 o3 o4 : Obj} (hb : KBw.bInts b = ks) (hz : ks.length ≤ 1000) (hz3 : ks.length ≤ 300) (ha : 0 ≤ a) (hfull : FullTab ps c0 c1 c2 c3 c4) (k0 : CodeOk o0) (k1 : CodeOk o1) (k2 : CodeOk o2) (k3 : CodeOk o3) (k4 : CodeOk o4) :
    SpecT w 375 700 700 [.bytes b t1, .int a t2] [(370, tabObj ps), (c0, o0), (c1, o1), (c2, o2), (c3, o3), (c4, o4)] (fun h h' v => ReadP ks a h h' v ∧ ∀ q ∈ [(370, tabObj ps), (c0, o0), (c1, o1), (c2, o2), (c3, o3), (c4, o4)], h'.get? q.1 = some q.2) := by
  refine xE2_2 k0 ?_; (try clear k0); intro u0 w0 p0 q0
  refine xE2_2 k1 ?_; (try clear k1); intro u1 w1 p1 q1
  refine xE2_2 k2 ?_; (try clear k2); intro u2 w2 p2 q2
  refine xE2_2 k3 ?_; (try clear k3); intro u3 w3 p3 q3
  refine xE2_2 k4 ?_; (try clear k4); intro u4 w4 p4 q4
  ((refine' enterT ?ho ?hcd ?hD ?hb ?hkd ?hnd ?_ ?c1 ?c2 ?c3; (case ho => exact rfl); (case hcd => exact rfl); (case hD => decide); (case hb => exact fun s'r X'r => BindsTo.of_eq rfl); (case hkd => exact rfl); (case hnd => decide +kernel); (case c1 => exact rfl); (case c2 => exact rfl); (case c3 => exact rfl); intro p'r loose'r mean'r mg'r mb'r gd'r l'r s'r Q'r E'r g'r L'r h₁'r tk'r cells'r F'r N'r Y'r X'r T'r fs'r hLe'r hgk'r hfl'r hfp'r hlt'r hX'r; (try (refine (let mk := _; (fun (FK : Fr _ _ _ mk) => ?_) F'r); clear F'r)); (have C := code_hd X'r); (refine xE1_9 (frame_tail6 hfp'r hLe'r) ?_; intro fl hfle hFl hFo h370 hn0 hn1 hn2 hn3 hn4); (have hFlt := frs_lt fs'r hLe'r); (have hLtA := lt_all hlt'r); (have hrs0 : ∀ p'r ∈ ([] : List (Addr × Obj)), p'r ∈ fl ∧ p'r.1 ∉ frs l'r := fun _ h => nomatch h); (have hA0 : DatAll ([] : List (Addr × Obj)) [] [] := .nil); (rw [← hfle] at N'r); revert X'r; k_fill; intro X'r; (try k_lt hlt'r); k_cells Y'r; (try simp only [List.cons_append, List.nil_append] at N'r); (try dsimp only); (try (refine (let mA := _; let mE := _; (?_ : wpAny _ mA (execs _ mE) _ _ _)))); (try k_fold)))
  (repeat' (first | ((with_reducible first | refine nextN ?_ | refine nextR ?_); (try dsimp only)) | (k_unfold; (try dsimp only)) | (k_end; kc_close) | ((with_reducible first | show wpAny _ _ (exec _ _) _ _ _ | show wpAny _ _ (eval (Expr.Call ..) _) _ _ _ | show wpAny _ _ (eval (Expr.BinOp ..) _) _ _ _ | show wpAny _ _ (eval (Expr.Subscript ..) _) _ _ _ | show wpAny _ _ (eval (Expr.List ..) _) _ _ _ | show wpAny _ _ (eval (Expr.Tuple ..) _) _ _ _); (fail_if_success (fail_if_success k_fold)); refine (let qk := _; (?_ : wpAny _ _ _ qk _ _))) | ((with_reducible refine execsN ?_); (try k_gentoks)) | ((with_reducible refine args_cons ?_ ?he); (case he => exact rfl)) | ((with_reducible show wpAny _ _ (callWith _ (Value.ref _) _ _ _) _ _ _); (refine' callWith_K ?k1 ?k2 ?_; (case k1 => k_asm); (case k2 => k_is); k_whole)) | ((with_reducible show wpAny _ _ (call (Value.ref _) _ _) _ _ _); first | ((k_here; (try dsimp only); k_dflt (refine' SpecC.here (heard_spec (.head _) (lam_script (by kba_ints) (by assumption) (by assumption) ?hl ?hoc ?hvs ?hod ?hoa)) ?F ?N ?UF ?hro ?hro2 ?X ?T ?fs ?hFl ?hfl ?hrs ?O ?hadr ?hadr2 ?hA ?hf ?hke ?hh ?hd ?hu ?_; (case F => k_asm); (case hFl => assumption); (case N => k_asm); (case hro => exact mem4 (by k_mem) (by k_mem) (by k_mem) (by k_mem)); (case hl => exact rfl); (case hoc => assumption); (case hvs => assumption); (case hod => assumption); (case hoa => assumption); (case UF => ((repeat (first | exact FrontF.here | (refine' FrontF.cons (by (first | (with_reducible assumption) | exact nofr_of (by assumption) (by (try dsimp only); omega))) ?_; rotate_left))))); (case hro2 => exact all4 (by (first | (with_reducible assumption) | exact nofr_of (by assumption) (by (try dsimp only); omega))) (by (first | (with_reducible assumption) | exact nofr_of (by assumption) (by (try dsimp only); omega))) (by (first | (with_reducible assumption) | exact nofr_of (by assumption) (by (try dsimp only); omega))) (by (first | (with_reducible assumption) | exact nofr_of (by assumption) (by (try dsimp only); omega)))); (case X => k_asm); (case T => k_asm); (case fs => assumption); (case hfl => assumption); (case hrs => assumption); (case O => assumption); (case hadr => exact all8 ⟨_, by k_mem⟩ ⟨_, by k_mem⟩ ⟨_, by k_mem⟩ ⟨_, by k_mem⟩ ⟨_, by k_mem⟩ ⟨_, by k_mem⟩ ⟨_, by k_mem⟩ ⟨_, by k_mem⟩); (case hadr2 => exact all8 (by (first | (with_reducible assumption) | exact nofr_of (by assumption) (by (try dsimp only); omega))) (by (first | (with_reducible assumption) | exact nofr_of (by assumption) (by (try dsimp only); omega))) (by (first | (with_reducible assumption) | exact nofr_of (by assumption) (by (try dsimp only); omega))) (by (first | (with_reducible assumption) | exact nofr_of (by assumption) (by (try dsimp only); omega))) (by (first | (with_reducible assumption) | exact nofr_of (by assumption) (by (try dsimp only); omega))) (by (first | (with_reducible assumption) | exact nofr_of (by assumption) (by (try dsimp only); omega))) (by (first | (with_reducible assumption) | exact nofr_of (by assumption) (by (try dsimp only); omega))) (by (first | (with_reducible assumption) | exact nofr_of (by assumption) (by (try dsimp only); omega)))); (case hA => exact rfl); (case hf => exact rfl); (case hke => exact rfl); (case hh => exact rfl); (case hd => exact Nat.le_of_ble_eq_true rfl); (case hu => exact Nat.le_of_ble_eq_true rfl)); intro v'r h'r tk'r t1'r rs1'r d'r F'r N'r hFl'r hrs'r hsub'r O'r hD'r hX'r; (have hA'r := DatAll.append (DatAll.mono hsub'r (by assumption)) (.one hD'r)); clear hD'r; (try dsimp only at N'r); (try k_sweep); (try k_fold))) | ((k_here; (try dsimp only); k_dflt (refine' SpecC.here (heard_spec (.head _) (lam_feature (by kba_ints) (by assumption) ?hl ?hoc ?hvs ?hod ?hoa)) ?F ?N ?UF ?hro ?hro2 ?X ?T ?fs ?hFl ?hfl ?hrs ?O ?hadr ?hadr2 ?hA ?hf ?hke ?hh ?hd ?hu ?_; (case F => k_asm); (case hFl => assumption); (case N => k_asm); (case hro => exact mem4 (by k_mem) (by k_mem) (by k_mem) (by k_mem)); (case hl => exact rfl); (case hoc => assumption); (case hvs => assumption); (case hod => assumption); (case hoa => assumption); (case UF => ((repeat (first | exact FrontF.here | (refine' FrontF.cons (by (first | (with_reducible assumption) | exact nofr_of (by assumption) (by (try dsimp only); omega))) ?_; rotate_left))))); (case hro2 => exact all4 (by (first | (with_reducible assumption) | exact nofr_of (by assumption) (by (try dsimp only); omega))) (by (first | (with_reducible assumption) | exact nofr_of (by assumption) (by (try dsimp only); omega))) (by (first | (with_reducible assumption) | exact nofr_of (by assumption) (by (try dsimp only); omega))) (by (first | (with_reducible assumption) | exact nofr_of (by assumption) (by (try dsimp only); omega)))); (case X => k_asm); (case T => k_asm); (case fs => assumption); (case hfl => assumption); (case hrs => assumption); (case O => assumption); (case hadr => exact all8 ⟨_, by k_mem⟩ ⟨_, by k_mem⟩ ⟨_, by k_mem⟩ ⟨_, by k_mem⟩ ⟨_, by k_mem⟩ ⟨_, by k_mem⟩ ⟨_, by k_mem⟩ ⟨_, by k_mem⟩); (case hadr2 => exact all8 (by (first | (with_reducible assumption) | exact nofr_of (by assumption) (by (try dsimp only); omega))) (by (first | (with_reducible assumption) | exact nofr_of (by assumption) (by (try dsimp only); omega))) (by (first | (with_reducible assumption) | exact nofr_of (by assumption) (by (try dsimp only); omega))) (by (first | (with_reducible assumption) | exact nofr_of (by assumption) (by (try dsimp only); omega))) (by (first | (with_reducible assumption) | exact nofr_of (by assumption) (by (try dsimp only); omega))) (by (first | (with_reducible assumption) | exact nofr_of (by assumption) (by (try dsimp only); omega))) (by (first | (with_reducible assumption) | exact nofr_of (by assumption) (by (try dsimp only); omega))) (by (first | (with_reducible assumption) | exact nofr_of (by assumption) (by (try dsimp only); omega)))); (case hA => exact rfl); (case hf => exact rfl); (case hke => exact rfl); (case hh => exact rfl); (case hd => exact Nat.le_of_ble_eq_true rfl); (case hu => exact Nat.le_of_ble_eq_true rfl)); intro v'r h'r tk'r t1'r rs1'r d'r F'r N'r hFl'r hrs'r hsub'r O'r hD'r hX'r; (have hA'r := DatAll.append (DatAll.mono hsub'r (by assumption)) (.one hD'r)); clear hD'r; (try dsimp only at N'r); (try k_sweep); (try k_fold))) | ((k_here; (try dsimp only); k_dflt (refine' SpecC.here (heard_spec (.head _) (lam_rec1 (by kba_ints) (by assumption) ?hl ?hoc ?hvs ?hod ?hoa)) ?F ?N ?UF ?hro ?hro2 ?X ?T ?fs ?hFl ?hfl ?hrs ?O ?hadr ?hadr2 ?hA ?hf ?hke ?hh ?hd ?hu ?_; (case F => k_asm); (case hFl => assumption); (case N => k_asm); (case hro => exact mem4 (by k_mem) (by k_mem) (by k_mem) (by k_mem)); (case hl => exact rfl); (case hoc => assumption); (case hvs => assumption); (case hod => assumption); (case hoa => assumption); (case UF => ((repeat (first | exact FrontF.here | (refine' FrontF.cons (by (first | (with_reducible assumption) | exact nofr_of (by assumption) (by (try dsimp only); omega))) ?_; rotate_left))))); (case hro2 => exact all4 (by (first | (with_reducible assumption) | exact nofr_of (by assumption) (by (try dsimp only); omega))) (by (first | (with_reducible assumption) | exact nofr_of (by assumption) (by (try dsimp only); omega))) (by (first | (with_reducible assumption) | exact nofr_of (by assumption) (by (try dsimp only); omega))) (by (first | (with_reducible assumption) | exact nofr_of (by assumption) (by (try dsimp only); omega)))); (case X => k_asm); (case T => k_asm); (case fs => assumption); (case hfl => assumption); (case hrs => assumption); (case O => assumption); (case hadr => exact all8 ⟨_, by k_mem⟩ ⟨_, by k_mem⟩ ⟨_, by k_mem⟩ ⟨_, by k_mem⟩ ⟨_, by k_mem⟩ ⟨_, by k_mem⟩ ⟨_, by k_mem⟩ ⟨_, by k_mem⟩); (case hadr2 => exact all8 (by (first | (with_reducible assumption) | exact nofr_of (by assumption) (by (try dsimp only); omega))) (by (first | (with_reducible assumption) | exact nofr_of (by assumption) (by (try dsimp only); omega))) (by (first | (with_reducible assumption) | exact nofr_of (by assumption) (by (try dsimp only); omega))) (by (first | (with_reducible assumption) | exact nofr_of (by assumption) (by (try dsimp only); omega))) (by (first | (with_reducible assumption) | exact nofr_of (by assumption) (by (try dsimp only); omega))) (by (first | (with_reducible assumption) | exact nofr_of (by assumption) (by (try dsimp only); omega))) (by (first | (with_reducible assumption) | exact nofr_of (by assumption) (by (try dsimp only); omega))) (by (first | (with_reducible assumption) | exact nofr_of (by assumption) (by (try dsimp only); omega)))); (case hA => exact rfl); (case hf => exact rfl); (case hke => exact rfl); (case hh => exact rfl); (case hd => exact Nat.le_of_ble_eq_true rfl); (case hu => exact Nat.le_of_ble_eq_true rfl)); intro v'r h'r tk'r t1'r rs1'r d'r F'r N'r hFl'r hrs'r hsub'r O'r hD'r hX'r; (have hA'r := DatAll.append (DatAll.mono hsub'r (by assumption)) (.one hD'r)); clear hD'r; (try dsimp only at N'r); (try k_sweep); (try k_fold))) | ((k_here; (try dsimp only); k_dflt (refine' SpecC.here (heard_spec (.head _) (lam_rec2 (by kba_ints) (by assumption) ?hl ?hoc ?hvs ?hod ?hoa)) ?F ?N ?UF ?hro ?hro2 ?X ?T ?fs ?hFl ?hfl ?hrs ?O ?hadr ?hadr2 ?hA ?hf ?hke ?hh ?hd ?hu ?_; (case F => k_asm); (case hFl => assumption); (case N => k_asm); (case hro => exact mem4 (by k_mem) (by k_mem) (by k_mem) (by k_mem)); (case hl => exact rfl); (case hoc => assumption); (case hvs => assumption); (case hod => assumption); (case hoa => assumption); (case UF => ((repeat (first | exact FrontF.here | (refine' FrontF.cons (by (first | (with_reducible assumption) | exact nofr_of (by assumption) (by (try dsimp only); omega))) ?_; rotate_left))))); (case hro2 => exact all4 (by (first | (with_reducible assumption) | exact nofr_of (by assumption) (by (try dsimp only); omega))) (by (first | (with_reducible assumption) | exact nofr_of (by assumption) (by (try dsimp only); omega))) (by (first | (with_reducible assumption) | exact nofr_of (by assumption) (by (try dsimp only); omega))) (by (first | (with_reducible assumption) | exact nofr_of (by assumption) (by (try dsimp only); omega)))); (case X => k_asm); (case T => k_asm); (case fs => assumption); (case hfl => assumption); (case hrs => assumption); (case O => assumption); (case hadr => exact all8 ⟨_, by k_mem⟩ ⟨_, by k_mem⟩ ⟨_, by k_mem⟩ ⟨_, by k_mem⟩ ⟨_, by k_mem⟩ ⟨_, by k_mem⟩ ⟨_, by k_mem⟩ ⟨_, by k_mem⟩); (case hadr2 => exact all8 (by (first | (with_reducible assumption) | exact nofr_of (by assumption) (by (try dsimp only); omega))) (by (first | (with_reducible assumption) | exact nofr_of (by assumption) (by (try dsimp only); omega))) (by (first | (with_reducible assumption) | exact nofr_of (by assumption) (by (try dsimp only); omega))) (by (first | (with_reducible assumption) | exact nofr_of (by assumption) (by (try dsimp only); omega))) (by (first | (with_reducible assumption) | exact nofr_of (by assumption) (by (try dsimp only); omega))) (by (first | (with_reducible assumption) | exact nofr_of (by assumption) (by (try dsimp only); omega))) (by (first | (with_reducible assumption) | exact nofr_of (by assumption) (by (try dsimp only); omega))) (by (first | (with_reducible assumption) | exact nofr_of (by assumption) (by (try dsimp only); omega)))); (case hA => exact rfl); (case hf => exact rfl); (case hke => exact rfl); (case hh => exact rfl); (case hd => exact Nat.le_of_ble_eq_true rfl); (case hu => exact Nat.le_of_ble_eq_true rfl)); intro v'r h'r tk'r t1'r rs1'r d'r F'r N'r hFl'r hrs'r hsub'r O'r hD'r hX'r; (have hA'r := DatAll.append (DatAll.mono hsub'r (by assumption)) (.one hD'r)); clear hD'r; (try dsimp only at N'r); (try k_sweep); (try k_fold))) | ((k_here; (try dsimp only); k_dflt (refine' SpecC.here (heard_spec (.head _) (lam_look (by kba_ints) (by assumption) (by assumption) ?hl ?hoc ?hvs ?hod ?hoa)) ?F ?N ?UF ?hro ?hro2 ?X ?T ?fs ?hFl ?hfl ?hrs ?O ?hadr ?hadr2 ?hA ?hf ?hke ?hh ?hd ?hu ?_; (case F => k_asm); (case hFl => assumption); (case N => k_asm); (case hro => exact mem4 (by k_mem) (by k_mem) (by k_mem) (by k_mem)); (case hl => exact rfl); (case hoc => assumption); (case hvs => assumption); (case hod => assumption); (case hoa => assumption); (case UF => ((repeat (first | exact FrontF.here | (refine' FrontF.cons (by (first | (with_reducible assumption) | exact nofr_of (by assumption) (by (try dsimp only); omega))) ?_; rotate_left))))); (case hro2 => exact all4 (by (first | (with_reducible assumption) | exact nofr_of (by assumption) (by (try dsimp only); omega))) (by (first | (with_reducible assumption) | exact nofr_of (by assumption) (by (try dsimp only); omega))) (by (first | (with_reducible assumption) | exact nofr_of (by assumption) (by (try dsimp only); omega))) (by (first | (with_reducible assumption) | exact nofr_of (by assumption) (by (try dsimp only); omega)))); (case X => k_asm); (case T => k_asm); (case fs => assumption); (case hfl => assumption); (case hrs => assumption); (case O => assumption); (case hadr => exact all8 ⟨_, by k_mem⟩ ⟨_, by k_mem⟩ ⟨_, by k_mem⟩ ⟨_, by k_mem⟩ ⟨_, by k_mem⟩ ⟨_, by k_mem⟩ ⟨_, by k_mem⟩ ⟨_, by k_mem⟩); (case hadr2 => exact all8 (by (first | (with_reducible assumption) | exact nofr_of (by assumption) (by (try dsimp only); omega))) (by (first | (with_reducible assumption) | exact nofr_of (by assumption) (by (try dsimp only); omega))) (by (first | (with_reducible assumption) | exact nofr_of (by assumption) (by (try dsimp only); omega))) (by (first | (with_reducible assumption) | exact nofr_of (by assumption) (by (try dsimp only); omega))) (by (first | (with_reducible assumption) | exact nofr_of (by assumption) (by (try dsimp only); omega))) (by (first | (with_reducible assumption) | exact nofr_of (by assumption) (by (try dsimp only); omega))) (by (first | (with_reducible assumption) | exact nofr_of (by assumption) (by (try dsimp only); omega))) (by (first | (with_reducible assumption) | exact nofr_of (by assumption) (by (try dsimp only); omega)))); (case hA => exact rfl); (case hf => exact rfl); (case hke => exact rfl); (case hh => exact rfl); (case hd => exact Nat.le_of_ble_eq_true rfl); (case hu => exact Nat.le_of_ble_eq_true rfl)); intro v'r h'r tk'r t1'r rs1'r d'r F'r N'r hFl'r hrs'r hsub'r O'r hD'r hX'r; (have hA'r := DatAll.append (DatAll.mono hsub'r (by assumption)) (.one hD'r)); clear hD'r; (try dsimp only at N'r); (try k_sweep); (try k_fold)))) | ((with_reducible show wpAny _ _ (eval (Expr.Lambda ..) _) _ _ _); (k_here; k_dflt ((refine kla_eval ?d0 ?_; (case d0 => exact rfl)); (refine' kla_hit ?F ?N ?T ?C ?cd ?mem ?t ?n ?cl ?_; (case F => k_asm); (case N => k_asm); (case T => k_asm); (case cd => exact rfl); (case C => kn_code); (case mem => k_mem); (case t => exact FullTab.tr (by assumption)); (case n => first | (refine FullTab.h0 (by assumption) ?_; decide +kernel) | (refine FullTab.h1 (by assumption) ?_; decide +kernel) | (refine FullTab.h2 (by assumption) ?_; decide +kernel) | (refine FullTab.h3 (by assumption) ?_; decide +kernel) | (refine FullTab.h4 (by assumption) ?_; decide +kernel)); (case cl => exact rfl); k_whole); intro f'r ct'r h'r tk'r F'r N'r l1; (try dsimp only at N'r); (try k_lt l1)))) | walk1 | (dsimp only; walk1) | (dsimp only [mA]; walk1) | (dsimp only [mE]; walk1) | (dsimp only [mA, mE]; walk1) | (leave1; (try dsimp only))))
  (try k_unfold)
  (try dsimp only)
  rename News _ _ _ _ => N9
  rename Fr _ _ _ _ => F9
  rename FlOk _ _ _ => hFl9
  rename OwnOff _ _ => hO9
  rename DatAll _ _ _ => hA9
  rename LtAll _ _ => hlt9
  have hlt8 := hlt9.out
  have hB9 := backT_ofG (by assumption) F9 N9 hFl9 (by ((repeat (first | exact sub_self _ | refine sub_cons ?_)))) (by assumption)
  have hR9 := read_madeG (ks := ks) (a := a) (by assumption) hlt8 N9 (by ((repeat (first | exact sub_self _ | refine sub_cons ?_)))) (by assumption) hO9 (sub6 (by k_mem) (by k_mem) (by k_mem) (by k_mem) (by k_mem) (by k_mem)) (.head _) (by (first | (with_reducible assumption) | exact nofr_of (by assumption) (by (try dsimp only); omega))) (by (try dsimp only); omega) hA9 (by assumption) (by assumption) (by assumption) (by assumption) (by assumption)
  refine full_end (by assumption) N9 hB9 hR9 (all6 (by k_mem) (by k_mem) (by k_mem) (by k_mem) (by k_mem) (by k_mem))
end
section
open PySem.Calls
noncomputable def cellV (p : Int × Tok) : Value := .int p.1 p.2
noncomputable abbrev cellsO (cs : List (Int × Tok)) (e : Nat) : Obj := listOf (cs.map cellV).toArray e
noncomputable abbrev penO (C : Addr) (n r : Int) (t u : Tok) (e : Nat) : Obj := listOf #[.ref C, .int n t, .int r u] e
theorem cells_all {tl : List (Addr × Obj)} : ∀ cs : List (Int × Tok), DatAll tl (cs.map cellV) (cs.map fun p => Dat.int p.1)
  | [] => .nil
  | p :: r => .cons (.int p.1 p.2) (cells_all r)
section
variable {prog : Program} {w : World} {A : Around} {E : Value → Shared → Prop} {s : Shared} {g : Heap} {L a b : Addr} {led : List (Addr × Obj)} {Q : Value → Shared → Prop}
theorem cells_ne {cs : List (Int × Tok)} {ka kb : Nat} (N : News g L s.heap led) (ma : (a, cellsO cs ka) ∈ led) (mb : (b, listOf #[] kb) ∈ led)
    (hu : A.units + 64 < cLine) (h : Q (.bool (!cs.isEmpty)) s) : wpAny (model prog w) A (compareOp .NotEq (.ref a) (.ref b)) Q E s := by
  refine kqd_ne (n₁ := []) (n₂ := []) (ys := []) (es := []) N ma rfl rfl (cells_all cs) (fun _ hp => nomatch hp) mb rfl rfl .nil (fun _ hp => nomatch hp) (fun d hd => ?_) (fun _ hd => nomatch hd) hu ?_
  · refine xE1_2 (List.mem_map.mp hd) ?_; intro r hr zq1'; subst zq1'
    simp [kqdOk]
  · cases cs with
    | nil => simpa using h
    | cons r rs => simpa using h
theorem cells_pop {D : Addr} {m : Str → Option Value} {e : Nat} {u : Tok} {p : Int × Tok} {cs : List (Int × Tok)} {news news' : List (Addr × Obj)} (F : Fr g L s.heap m) (N : News g L s.heap news) (U : Upd D (cellsO (p :: cs) e) (cellsO cs (e + 1)) news news') (hz : (p :: cs).length ≤ 64)
    (h : ∀ h', Fr g L h' m → News g L h' news' → Q (.int p.1 p.2) { s with heap := h' }) : wpAny (model prog w) A (call (.builtin "list.pop") [.ref D, .int 0 u]) Q E s :=
  kl_popAt (k := 0) (p := []) (q := cs.map cellV) (y := cellV p) F N rfl (by simp [seqIndex?]; try omega) rfl U (by rw [sizeLine_eq]; simp only [List.map_cons, List.length_cons, List.length_map] at hz ⊢; omega) h
end
def DrawP (P C : Addr) (many : Int) (h h' : Heap) (v : Value) : Prop := ∃ d t cs e n r t1 t2 e2, v = .int d t ∧ 0 ≤ d ∧ d < many ∧ h'.get? P = some (penO C n r t1 t2 e2) ∧ h'.get? C = some (cellsO cs e) ∧ cs.length ≤ 64
theorem draw_end {P C : Addr} {many x : Int} {g h h' : Heap} {L : Addr} {tv : Tok} {cs : List (Int × Tok)} {e : Nat} {n r : Int} {t1 t2 : Tok} {e2 : Nat} {led : List (Addr × Obj)} (hm : 0 < many) (N : News g L h' led) (h1 : (P, penO C n r t1 t2 e2) ∈ led) (h2 : (C, cellsO cs e) ∈ led) (hz : cs.length ≤ 64) : DrawP P C many h h' (.int (x.fmod many) tv) :=
  by exact xI9_6 _ _ cs e n r t1 t2 e2 rfl (Int.fmod_nonneg_of_pos _ hm) (Int.fmod_lt_of_pos _ hm) (N.get h1) (N.get h2) hz
theorem draw_spec {w : World} {P C : Addr} {n r many : Int} {t u tm : Tok} {cs : List (Int × Tok)} {e e2 : Nat} (hm : 0 < many) (hz : cs.length ≤ 64) (hlt : @LT.lt Nat _ C P) (hM : many ≤ 100000) :
    Spec w 325 800 800 [.ref P, .int many tm] [(P, penO C n r t u e2), (C, cellsO cs e)] (DrawP P C many) (fun _ _ => False) := by
  cases cs with
  | nil =>
    ((refine' enter ?ho ?hcd ?hD ?hb ?hl ?_ ?hc ?c1 ?c2 ?c3; (case ho => exact rfl); (case hcd => exact rfl); (case hD => decide); (case hb => exact fun s'r X'r => BindsTo.of_eq rfl); (case hl => exact locs rfl); (case hc => decide); (case c1 => exact rfl); (case c2 => exact rfl); (case c3 => exact rfl); intro p'r loose'r mean'r mg'r mb'r gd'r l'r s'r Q'r E'r g'r L'r h₁'r F'r N'r B'r X'r T'r hL'r hgk'r hgs'r hfp'r hX'r; (try (refine (let mk := _; (fun (FK : Fr _ _ _ mk) => ?_) F'r); clear F'r)); revert X'r; k_fill; intro X'r; (try dsimp only); (try (refine (let mA := _; let mE := _; (?_ : wpAny _ mA (execs _ mE) _ _ _)))); k_fold))
    (repeat' (first | ((with_reducible first | refine nextN ?_ | refine nextR ?_); (try dsimp only)) | (k_unfold; (try dsimp only)) | (k_end; kc_close) | ((with_reducible first | show wpAny _ _ (exec _ _) _ _ _ | show wpAny _ _ (eval (Expr.Call ..) _) _ _ _ | show wpAny _ _ (eval (Expr.BinOp ..) _) _ _ _ | show wpAny _ _ (eval (Expr.Subscript ..) _) _ _ _ | show wpAny _ _ (eval (Expr.List ..) _) _ _ _ | show wpAny _ _ (eval (Expr.Tuple ..) _) _ _ _); (fail_if_success (fail_if_success k_fold)); refine (let qk := _; (?_ : wpAny _ _ _ qk _ _))) | ((with_reducible refine execsN ?_); (try k_gentoks)) | ((with_reducible refine args_cons ?_ ?he); (case he => exact rfl)) | ((with_reducible show wpAny _ _ (subscriptTail (Expr.Name ..) (Expr.Constant ..) (Value.ref _) (Value.int ..)) _ _ _); (k_here; (with_unfolding_all refine' item_litK ?k1 ?k2 ?k3 ?k4 ?_ ?k6; (case k1 => is_list); (case k2 => decide); (case k3 => decide); (case k4 => rfl); (case k6 => with_unfolding_all rfl); k_whole))) | ((with_reducible show wpAny _ _ (compareOp CmpOp.NotEq (Value.ref _) (Value.ref _)) _ _ _); (k_here; k_dflt (refine' cells_ne ?N ?ma ?mb ?hu ?_; (case N => k_asm); (case ma => k_mem); (case mb => k_mem); (case hu => exact Nat.le_of_ble_eq_true rfl)))) | ((with_reducible show wpAny _ _ (setItem (Value.ref _) (Value.int ..) _) _ _ _); (k_here; k_dflt (refine' ki_set ?F ?N ?a ?b ?e ?U ?_; (case F => k_asm); (case N => k_asm); (case U => k_upd); (case a => decide); (case b => decide); (case e => rfl)); ki_rest)) | ((with_reducible show wpAny _ _ (storeName _ _ _) _ _ _); (k_here; k_dflt (refine' storeX_L ?sF ?sN ?_ rfl rfl; (case sF => k_asm); (case sN => k_asm); k_whole; intro hS FS NS; (try k_sweep); refine (let mk := _; (fun (FK : Fr _ _ _ mk) => ?_) FS); clear FS))) | walk1 | (dsimp only; walk1) | (dsimp only [mA]; walk1) | (dsimp only [mE]; walk1) | (dsimp only [mA, mE]; walk1) | (leave1; (try dsimp only))))
    all_goals ((try k_unfold); (try dsimp only); refine ends_ret (by assumption) (by assumption) (P := _) ?_; (rename News _ _ _ _ => N9); exact draw_end hm N9 (by k_mem) (by k_mem) (by first | assumption | (simp only [List.length_cons] at *; omega)))
  | cons p cs =>
    ((refine' enter ?ho ?hcd ?hD ?hb ?hl ?_ ?hc ?c1 ?c2 ?c3; (case ho => exact rfl); (case hcd => exact rfl); (case hD => decide); (case hb => exact fun s'r X'r => BindsTo.of_eq rfl); (case hl => exact locs rfl); (case hc => decide); (case c1 => exact rfl); (case c2 => exact rfl); (case c3 => exact rfl); intro p'r loose'r mean'r mg'r mb'r gd'r l'r s'r Q'r E'r g'r L'r h₁'r F'r N'r B'r X'r T'r hL'r hgk'r hgs'r hfp'r hX'r; (try (refine (let mk := _; (fun (FK : Fr _ _ _ mk) => ?_) F'r); clear F'r)); revert X'r; k_fill; intro X'r; (try dsimp only); (try (refine (let mA := _; let mE := _; (?_ : wpAny _ mA (execs _ mE) _ _ _)))); k_fold))
    (repeat' (first | ((with_reducible first | refine nextN ?_ | refine nextR ?_); (try dsimp only)) | (k_unfold; (try dsimp only)) | (k_end; kc_close) | ((with_reducible first | show wpAny _ _ (exec _ _) _ _ _ | show wpAny _ _ (eval (Expr.Call ..) _) _ _ _ | show wpAny _ _ (eval (Expr.BinOp ..) _) _ _ _ | show wpAny _ _ (eval (Expr.Subscript ..) _) _ _ _ | show wpAny _ _ (eval (Expr.List ..) _) _ _ _ | show wpAny _ _ (eval (Expr.Tuple ..) _) _ _ _); (fail_if_success (fail_if_success k_fold)); refine (let qk := _; (?_ : wpAny _ _ _ qk _ _))) | ((with_reducible refine execsN ?_); (try k_gentoks)) | ((with_reducible refine args_cons ?_ ?he); (case he => exact rfl)) | ((with_reducible show wpAny _ _ (subscriptTail (Expr.Name ..) (Expr.Constant ..) (Value.ref _) (Value.int ..)) _ _ _); (k_here; (with_unfolding_all refine' item_litK ?k1 ?k2 ?k3 ?k4 ?_ ?k6; (case k1 => is_list); (case k2 => decide); (case k3 => decide); (case k4 => rfl); (case k6 => with_unfolding_all rfl); k_whole))) | ((with_reducible show wpAny _ _ (compareOp CmpOp.NotEq (Value.ref _) (Value.ref _)) _ _ _); (k_here; k_dflt (refine' cells_ne ?N ?ma ?mb ?hu ?_; (case N => k_asm); (case ma => k_mem); (case mb => k_mem); (case hu => exact Nat.le_of_ble_eq_true rfl)))) | ((with_reducible show wpAny _ _ (setItem (Value.ref _) (Value.int ..) _) _ _ _); (k_here; k_dflt (refine' ki_set ?F ?N ?a ?b ?e ?U ?_; (case F => k_asm); (case N => k_asm); (case U => k_upd); (case a => decide); (case b => decide); (case e => rfl)); ki_rest)) | ((with_reducible show wpAny _ _ (call (Value.builtin "list.pop") _ _) _ _ _); (k_here; k_dflt (refine' cells_pop ?F ?N ?U ?z ?_; (case F => k_asm); (case N => k_asm); (case U => k_upd); (case z => assumption)); intro h'r F'r N'r)) | ((with_reducible show wpAny _ _ (storeName _ _ _) _ _ _); (k_here; k_dflt (refine' storeX_L ?sF ?sN ?_ rfl rfl; (case sF => k_asm); (case sN => k_asm); k_whole; intro hS FS NS; (try k_sweep); refine (let mk := _; (fun (FK : Fr _ _ _ mk) => ?_) FS); clear FS))) | walk1 | (dsimp only; walk1) | (dsimp only [mA]; walk1) | (dsimp only [mE]; walk1) | (dsimp only [mA, mE]; walk1) | (leave1; (try dsimp only))))
    all_goals ((try k_unfold); (try dsimp only); refine ends_ret (by assumption) (by assumption) (P := _) ?_; (rename News _ _ _ _ => N9); exact draw_end hm N9 (by k_mem) (by k_mem) (by first | assumption | (simp only [List.length_cons] at *; omega)))
end
section
open PySem.Calls
def PenTo (P C : Addr) (h h' : Heap) : Prop := (∀ b o, h.get? b = some o → b ≠ P → b ≠ C → h'.get? b = some o) ∧ ∃ n r t1 t2 e2 cs e, h'.get? P = some (penO C n r t1 t2 e2) ∧ h'.get? C = some (cellsO cs e) ∧ cs.length ≤ 64
theorem DrawP.to {P C : Addr} {many : Int} {h h' : Heap} {v : Value} (hb : Back [P, C] h h') (hp : DrawP P C many h h' v) : (∃ d t, v = .int d t ∧ 0 ≤ d ∧ d < many) ∧ PenTo P C h h' := by
  refine xE9_6 hp ?_; (try clear hp); intro d t cs e n r t1 t2 e2 zq1' h1 h2 h3 h4 h5; subst zq1'
  exact ⟨⟨d, t, rfl, h1, h2⟩, fun b o q n1 n2 => hb.keep b o q (by simp [n1, n2]), n, r, t1, t2, e2, cs, e, h3, h4, h5⟩
theorem news_turn2 {g h h' : Heap} {L P C : Addr} {oP oP' oC oC' : Obj} {n0 n1 n2 : List (Addr × Obj)} (N : News g L h n0) (hb : ∀ b o, h.get? b = some o → b ≠ P → b ≠ C → h'.get? b = some o) (U1 : Upd P oP oP' n0 n1) (U2 : Upd C oC oC' n1 n2) (h1 : h'.get? P = some oP') (h2 : h'.get? C = some oC') : News g L h' n2 := by
  have N1 : ∀ p ∈ n1, (@Ne Nat p.1 C → h'.get? p.1 = some p.2) ∧ p.1 ≠ L ∧ g.get? p.1 = none := by
    refine xE2_4 (U1.split) ?_; intro pre post zq2' zq3' a1 a2; subst zq2'; subst zq3'
    intro p hp
    rcases List.mem_append.mp hp with hp | hp
    · have z := N p (List.mem_append_left _ hp)
      exact ⟨fun hc => hb _ _ z.1 (a1 p hp) hc, z.2⟩
    · rcases List.mem_cons.mp hp with rfl | hp
      · exact ⟨fun _ => h1, (N (P, oP) (by simp)).2⟩
      · have z := N p (by simp [hp])
        exact ⟨fun hc => hb _ _ z.1 (a2 p hp) hc, z.2⟩
  refine xE2_4 (U2.split) ?_; intro pre post zq4' zq5' a1 a2; subst zq4'; subst zq5'
  intro p hp
  rcases List.mem_append.mp hp with hp | hp
  · have z := N1 p (List.mem_append_left _ hp)
    exact ⟨z.1 (a1 p hp), z.2⟩
  · rcases List.mem_cons.mp hp with rfl | hp
    · exact ⟨h2, (N1 (C, oC) (by simp)).2⟩
    · have z := N1 p (by simp [hp])
      exact ⟨z.1 (a2 p hp), z.2⟩
theorem pen_to2 {s g h' : Heap} {L P C : Addr} {m : Str → Option Value} {oP oC : Obj} {led : List (Addr × Obj)} {n r : Int} {t1 t2 : Tok} {e2 e : Nat} {cs : List (Int × Tok)} (hgk : ∀ b o, s.get? b = some o → b ∉ [(P, oP), (C, oC)].map (·.1) → g.get? b = some o) (F : Fr g L h' m) (N : News g L h' led)
    (h1 : (P, penO C n r t1 t2 e2) ∈ led) (h2 : (C, cellsO cs e) ∈ led) (hz : cs.length ≤ 64) : PenTo P C s h' :=
  by exact ⟨fun b o q n1 n2 => F.keep b o (hgk b o q (by simp [n1, n2])), n, r, t1, t2, e2, cs, e, N.get h1, N.get h2, hz⟩
theorem pen_to3 {s g h' : Heap} {L P C S : Addr} {m : Str → Option Value} {oP oC oS : Obj} {led : List (Addr × Obj)} {n r : Int} {t1 t2 : Tok} {e2 e : Nat} {cs : List (Int × Tok)} (hgk : ∀ b o, s.get? b = some o → b ∉ [(P, oP), (C, oC), (S, oS)].map (·.1) → g.get? b = some o) (hfp : ∀ q ∈ [(P, oP), (C, oC), (S, oS)], s.get? q.1 = some q.2) (F : Fr g L h' m) (N : News g L h' led)
    (h1 : (P, penO C n r t1 t2 e2) ∈ led) (h2 : (C, cellsO cs e) ∈ led) (h3 : (S, oS) ∈ led) (hz : cs.length ≤ 64) : PenTo P C s h' := by
  refine ⟨fun b o q n1 n2 => ?_, n, r, t1, t2, e2, cs, e, N.get h1, N.get h2, hz⟩
  by_cases hS : b = S
  · subst hS
    have := hfp (b, oS) (by simp)
    rw [q] at this
    rw [N.get h3, Option.some.inj this]
  · exact F.keep b o (hgk b o q (by simp [n1, n2, hS]))
def IntsLe (M : Int) (its : List Value) : Prop := ∀ v ∈ its, ∃ x t, v = .int x t ∧ 0 ≤ x ∧ x ≤ M
theorem IntsLe.nil {M : Int} : IntsLe M [] := fun _ h => nomatch h
theorem IntsLe.cons {M x : Int} {t : Tok} {r : List Value} (h0 : 0 ≤ x) (h1 : x ≤ M) (h : IntsLe M r) : IntsLe M (.int x t :: r) := List.forall_mem_cons.mpr ⟨⟨x, t, rfl, h0, h1⟩, h⟩
section
variable {prog : Program} {w : World} {A : Around} {E : Value → Shared → Prop} {s : Shared} {Q : Value → Shared → Prop}
theorem item_open {value slice : PySem.Expr} {l : Addr} {u : Tok} {i M : Int} {its : List Value} (hl : s.heap.IsList l (List.toArray its)) (hI : IntsLe M its) (h0 : 0 ≤ i) (h1 : i < (List.toArray its).size) (hz : (List.toArray its).size ≤ 1000) (h : ∀ x t, 0 ≤ x → x ≤ M → Q (.int x t) s)
    (hs : subscripted slice false (.ref l) (.int i u) = operate [.ref l, .int i u] (getItem (.ref l) (.int i u)) := by with_unfolding_all rfl) :
    wpAny (model prog w) A (subscriptTail value slice (.ref l) (.int i u)) Q E s := by
  have hlt : i.toNat < its.length := by rw [List.size_toArray] at h1; omega
  refine xE2_3 (hI _ (List.getElem_mem hlt)) ?_; intro x t e hx0 hx1
  refine tail_any hl.typeIs slot_list_getitem.lookup (wpAny_getItem_list (x := .int x t) hl h0 (by omega) (by rw [List.getElem?_toArray, List.getElem?_eq_getElem hlt, e]) (h x t hx0 hx1)) hs
end
theorem news3d {g h : Heap} {L : Addr} {news : List (Addr × Obj)} {p q r : Addr × Obj} (N : News g L h news) (hp : p ∈ news) (hq : q ∈ news) (hr : r ∈ news) : News g L h [p, q, r] := fun x hx => by
  rcases List.mem_cons.mp hx with rfl | hx
  · exact N _ hp
  · exact news2 N hq hr x hx
def PickP (P C : Addr) (M : Int) (h h' : Heap) (v : Value) : Prop := (∃ d t, v = .int d t ∧ 0 ≤ d ∧ d ≤ M) ∧ PenTo P C h h'
theorem pick_spec {w : World} {P C S : Addr} {n r M : Int} {t u : Tok} {cs : List (Int × Tok)} {e e2 e3 : Nat} {its : List Value} (hz : cs.length ≤ 64) (hlt : @LT.lt Nat _ C P) (hlt2 : @LT.lt Nat _ P S) (hI : IntsLe M its) (hn0n : 0 < (List.toArray its).size) (hn1 : (List.toArray its).size ≤ 1000) :
    Spec w 332 780 780 [.ref P, .ref S] [(P, penO C n r t u e2), (C, cellsO cs e), (S, listOf (List.toArray its) e3)] (PickP P C M) (fun _ _ => False) := by
  have hn0 : 0 < ((List.toArray its).size : Int) := by omega
  ((refine' enter ?ho ?hcd ?hD ?hb ?hl ?_ ?hc ?c1 ?c2 ?c3; (case ho => exact rfl); (case hcd => exact rfl); (case hD => decide); (case hb => exact fun s'r X'r => BindsTo.of_eq rfl); (case hl => exact locs rfl); (case hc => decide); (case c1 => exact rfl); (case c2 => exact rfl); (case c3 => exact rfl); intro p'r loose'r mean'r mg'r mb'r gd'r l'r s'r Q'r E'r g'r L'r h₁'r F'r N'r B'r X'r T'r hL'r hgk'r hgs'r hfp'r hX'r; (try (refine (let mk := _; (fun (FK : Fr _ _ _ mk) => ?_) F'r); clear F'r)); revert X'r; k_fill; intro X'r; (try dsimp only); (try (refine (let mA := _; let mE := _; (?_ : wpAny _ mA (execs _ mE) _ _ _)))); k_fold))
  (repeat' (first | ((with_reducible first | refine nextN ?_ | refine nextR ?_); (try dsimp only)) | (k_unfold; (try dsimp only)) | (k_end; kc_close) | ((with_reducible first | show wpAny _ _ (exec _ _) _ _ _ | show wpAny _ _ (eval (Expr.Call ..) _) _ _ _ | show wpAny _ _ (eval (Expr.BinOp ..) _) _ _ _ | show wpAny _ _ (eval (Expr.Subscript ..) _) _ _ _ | show wpAny _ _ (eval (Expr.List ..) _) _ _ _ | show wpAny _ _ (eval (Expr.Tuple ..) _) _ _ _); (fail_if_success (fail_if_success k_fold)); refine (let qk := _; (?_ : wpAny _ _ _ qk _ _))) | ((with_reducible refine execsN ?_); (try k_gentoks)) | ((with_reducible refine args_cons ?_ ?he); (case he => exact rfl)) | ((with_reducible show wpAny _ _ (subscriptTail (Expr.Name ..) (Expr.Call ..) (Value.ref _) (Value.int ..)) _ _ _); (k_here; k_dflt (refine' item_open (News.isList (by k_asm) (by k_mem)) ?hI ?h0 ?h1 ?hz ?_; (case hI => assumption); (case h0 => assumption); (case h1 => assumption); (case hz => assumption)); intro x'r t'r hx0 hx1)) | ((with_reducible show wpAny _ _ (call (Value.ref _) _ _) _ _ _); (k_here; (try ((fail_if_success (fail_if_success k_fold)); refine (let qk := _; (?_ : wpAny _ _ _ qk _ _)))); k_dflt (refine' Spec.calm (draw_spec (by first | assumption | omega) (by assumption) (by assumption) (by first | assumption | omega)) ?B ?F ?X ?T rfl rfl rfl rfl (Nat.le_of_ble_eq_true rfl) (Nat.le_of_ble_eq_true rfl) ?N ?hR ?_; ((case B => assumption); (case F => k_asm); (case X => k_asm); (case T => k_asm)); (case N => exact news2 (by assumption) (by k_mem) (by k_mem)); (case hR => exact fun _ _ h => h); intro v'r h'r tk'r F'r hb'r hP'r; (try simp only [List.map_cons, List.map_nil] at hb'r); refine xE0_3 (DrawP.to hb'r hP'r) ?_; intro zq6'r hk'r zq7'r; refine xE2_3 zq6'r ?_; clear zq6'r; intro d'r t'r e0'r hd1 hd2; refine xE7_3 zq7'r ?_; clear zq7'r; intro n'r r'r t1'r t2'r e2'r cs'r e'r hp1 hp2 hz2; subst e0'r; (have N'r := news_turn2 (by assumption) hk'r (by k_upd) (by k_upd) hp1 hp2); (try k_sweep)))) | walk1 | (dsimp only; walk1) | (dsimp only [mA]; walk1) | (dsimp only [mE]; walk1) | (dsimp only [mA, mE]; walk1) | (leave1; (try dsimp only))))
  (try k_unfold)
  (try dsimp only)
  rename News _ _ _ _ => N9
  rename Fr _ _ _ _ => F9
  refine ends_ret (by assumption) F9 (P := _) ?_
  exact ⟨⟨_, _, rfl, by assumption, by assumption⟩, pen_to3 (by assumption) (by assumption) F9 N9 (by k_mem) (by k_mem) (by k_mem) (by assumption)⟩
end
section
open PySem.Calls
theorem slot_bytes_join : Slot "bytes" "join" "bytes.join" :=
  .of (owner := "bytes") (n := "join") (by rw [typeLookup_type, builtinLookup_eq_fast]; kernel_rfl) (by decide +kernel) (by decide +kernel) (by decide +kernel)
    (by first | exact .inl (by decide +kernel) | exact .inr (by decide +kernel)) (by rw [isSubtype_type]; kernel_rfl)
theorem type_bytes_join : typeOf (.builtin "bytes.join") = pure (.type "method_descriptor") := by show builtinType _ = _; rw [builtinType_eq_fast]; kernel_rfl
theorem entry_bytes_join : entryFor table "bytes.join" = some Builtin.«bytes.join» := entryFor_of_tree (by kernel_rfl)
theorem args_bytes_join_2 (a b : Value) : argsOk "bytes.join" ⟨[a, b], []⟩ := by
  unfold argsOk; rw [signature?_of (id := "bytes.join") (n := ['n', 'i', 'o', 'j']) (o := ['s', 'e', 't', 'y', 'b']) (by kernel_rfl) FB.owner_bytes]; kernel_rfl
open Builtin in
theorem take_eq {b : Array UInt8} {t : Tok} {id : String} : Bytes.takeBufferQuiet? id (.bytes b t) 0 = pure (some (b, none)) := by
  unfold Bytes.takeBufferQuiet? Bytes.takeBuffer?
  rw [KBy.special_eq KBy.look_buffer, KBy.own_buffer]
  simp only [pure_bind]
  have e : ((0 : Int) == Bytes.fullReadOnly) = false := by decide +kernel
  rw [e, KBy.buffer_eq]
  kernel_rfl
noncomputable def bytV (p : Array UInt8 × Tok) : Value := .bytes p.1 p.2
noncomputable def total (ps : List (Array UInt8 × Tok)) : Nat := (ps.map (·.1.size)).sum
open Builtin in
theorem joinLetGo_wp {M : Model} {A : Around} {E : Value → Shared → Prop} {s : Shared} {Q : Unit → Shared → Prop} (h : Q () s) : ∀ (ps : List (Array UInt8 × Tok)) (keep : List Value), wpAny M A (Bytes.joinLetGo (ps.map fun p => (bytV p, none)) keep) Q E s
  | [], _ => wpAny_pure h
  | p :: r, keep => by
    rw [List.map_cons]
    unfold Bytes.joinLetGo
    (try dsimp only)
    exact wpAny_bind (wpAny_letGo (joinLetGo_wp h r keep))
theorem heap_none : ∀ ps : List (Array UInt8 × Tok), ((ps.map fun p => (bytV p, (none : Option Value))).any fun x => x.1.onHeap) = false
  | [] => rfl
  | _ :: r => by rw [List.map_cons, List.any_cons, heap_none r]; rfl
theorem foldl_sizes : ∀ (l : List (Array UInt8)) (n : Nat), l.foldl (fun a b => a + b.size) n = n + (l.map (·.size)).sum
  | [], n => by simp
  | a :: r, n => by rw [List.foldl_cons, foldl_sizes r, List.map_cons, List.sum_cons]; omega
theorem joined_size (l : List (Array UInt8)) : (Builtin.Bytes.joined #[] l).size = (l.map (·.size)).sum := by
  unfold Builtin.Bytes.joined
  have go : ∀ (l : List (Array UInt8)) (k : Nat) (out : Array UInt8), ((l.zipIdx k).foldl (fun out (p : Array UInt8 × Nat) => (if p.2 > 0 then out ++ #[] else out) ++ p.1) out).size = out.size + (l.map (·.size)).sum := by
    intro l
    induction l with
    | nil => intro k out; simp
    | cons a r ih =>
      intro k out
      rw [List.zipIdx_cons, List.foldl_cons, ih, List.map_cons, List.sum_cons]
      split <;> simp <;> omega
  have := go l 0 #[]
  simpa using this
open Builtin in
theorem meets_join (D : Addr) (t : Tok) (ps : List (Array UInt8 × Tok)) (hz : total ps ≤ 16777216) :
    Meets («bytes.join» ⟨[.bytes #[] t, .ref D], []⟩) (fun _ R s => s.heap.IsList D (List.toArray (ps.map bytV)) ∧ ∀ b t' k, b.size = total ps → R (.ok (.ret (.bytes b t'))) { s with toks := k }) := by
  refine .of_wp fun prog w A R s hS => ?_
  refine xE0_2 hS ?_; (try clear hS); intro hl h
  have hT := hl.typeIs
  refine xE1_3 hl ?_; (try clear hl); intro o ho hc zq1'; refine xE1_1 zq1' ?_; clear zq1'; intro n hd
  have items : ∀ {E : Value → Shared → Prop} {Q : Option (Array Value) → Shared → Prop}, Q (some (List.toArray (ps.map bytV))) s → wpAny (model prog w) A.in1 (seqItems? (.ref D)) Q E s := fun hq => by
    unfold seqItems?
    refine wpAny_bind (wpAny_load ho ?_)
    rw [hd]
    exact wpAny_pure hq
  show wpAny _ _ (Bytes.joinM .bytes _) _ _ s
  unfold Bytes.joinM
  refine wpAny_bind (wpAny_of_eq (a := (Value.bytes #[] t, Value.ref D)) rfl ?_)
  (try dsimp only)
  refine wpAny_bind ?_
  unfold Bytes.joinItems
  refine wpAny_bind (wpAny_typeOf hT ?_)
  refine wpAny_pure ?_
  refine wpAny_bind (items ?_)
  (try dsimp only)
  rw [if_pos (show (Bytes.Kind.bytes == Bytes.Kind.bytes) = true from rfl)]
  by_cases hn1 : ps.length = 1
  · obtain ⟨p, rfl⟩ : ∃ p, ps = [p] := by
      match ps, hn1 with
      | [p], _ => exact ⟨p, rfl⟩
    refine wpAny_bind (wpAny_typeOf (typeIs_bytes s p.1 p.2) ?_)
    rw [if_pos (show (Value.type "bytes" == Value.type "bytes") = true from rfl)]
    refine wpAny_bind (wpAny_rule (wpAny_pure ⟨_, rfl, h p.1 p.2 s.toks (by simp [total])⟩))
  · delta Bytes.joinM.match_1
    rw [dif_neg (by simpa using hn1)]
    refine wpAny_bind ?_
    rw [Std.Legacy.Range.forIn_eq_forIn_range']
    refine wpAny_forIn_list _ (fun rest b s' => ∃ i, i ≤ ps.length ∧ rest = List.range' i (ps.length - i) ∧ b = (((ps.take i).map (·.1)).toArray, (ps.take i).map fun p => (bytV p, none)) ∧ s' = s) _ ?_ ?_ _ _ ?_
    · rintro x rest b s' ⟨i, hi, hr, rfl, rfl⟩
      obtain ⟨k, hk⟩ : ∃ k, ps.length - i = k + 1 := by
        cases e : ps.length - i with
        | zero => rw [e] at hr; cases hr
        | succ k => exact ⟨k, rfl⟩
      rw [hk, List.range'_succ] at hr
      refine xE0_2 (List.cons.inj hr) ?_; intro zq2' zq3'; subst zq2'; subst zq3'
      have hlt : x < ps.length := by omega
      have hx : (List.toArray (ps.map bytV)).getD x .none = bytV ps[x] := by simp [Array.getD, hlt]
      refine wpAny_bind (items ?_)
      (try dsimp only)
      rw [heap_none, if_neg (by decide)]
      rw [hx]
      refine wpAny_bind (wpAny_holding (wpAny_of_eq take_eq ?_))
      (try dsimp only)
      refine wpAny_bind (items ?_)
      (try dsimp only)
      rw [if_neg (by simp)]
      refine wpAny_pure ⟨x + 1, by omega, by rw [show ps.length - (x + 1) = k by omega], ?_, rfl⟩
      have e : ps.take (x + 1) = ps.take x ++ [ps[x]] := by rw [List.take_add_one, List.getElem?_eq_getElem hlt]; rfl
      rw [e, List.map_append, List.map_append, List.push_toArray]
      rfl
    · rintro b s' ⟨i, hi, hr, rfl, rfl⟩
      have hi2 : i = ps.length := by
        cases e : ps.length - i with
        | zero => omega
        | succ k => rw [e, List.range'_succ] at hr; cases hr
      subst hi2
      rw [List.take_length]
      refine wpAny_bind (wpAny_of_eq (a := #[]) rfl ?_)
      have hsum : (ps.map (·.1)).toArray.foldl (fun x y => x + y.size) ((#[] : Array UInt8).size * ((ps.map (·.1)).toArray.size - 1)) = total ps := by
        rw [List.foldl_toArray', foldl_sizes]
        simp [total, List.map_map, Function.comp_def]
        simp
      have hj : (Bytes.joined #[] (ps.map (·.1)).toArray.toList).size = total ps := by rw [joined_size]; simp [total, List.map_map, Function.comp_def]
      (try dsimp only)
      rw [if_neg (by rw [hsum, KBy.tooLong_not hz]; exact Bool.false_ne_true)]
      refine wpAny_bind (wpAny_mkBytes (wpAny_bind (wpAny_holding (wpAny_point (wpAny_bind (joinLetGo_wp ?_ _ _))))) (by rw [hj, sizeLine_eq]; exact hz))
      exact wpAny_pure ⟨_, rfl, h _ _ _ hj⟩
    · exact xI1_4 0 (Nat.zero_le _) (by simp [Std.Legacy.Range.size]) rfl rfl
section
variable {prog : Program} {w : World} {A : Around} {E : Value → Shared → Prop} {s : Shared} {Q : Value → Shared → Prop}
theorem join_bytes {D : Addr} {t : Tok} {ps : List (Array UInt8 × Tok)} (hl : s.heap.IsList D (List.toArray (ps.map bytV))) (hz : total ps ≤ 16777216) (h : ∀ b t' k, b.size = total ps → Q (.bytes b t') { s with toks := k }) :
    wpAny (model prog w) A (call (.builtin "bytes.join") [.bytes #[] t, .ref D]) Q E s :=
  call_meets slot_bytes_join (typeIs_bytes _ _ _) entry_bytes_join (args_bytes_join_2 _ _) (meets_join D t ps hz) ⟨hl, h⟩
end
end
section
open PySem.Calls
theorem ga_bytes : typeLookup (.type "bytes") "__getattribute__" = pure (some (.builtin "bytes.__getattribute__")) := by rw [typeLookup_type, builtinLookup_eq_fast]; kernel_rfl
theorem canon_ga_bytes : (Manifest.canonical "bytes.__getattribute__" != "object.__getattribute__") = false := by decide +kernel
theorem no_getattr_bytes : typeLookup (.type "bytes") "__getattr__" = pure none := by rw [typeLookup_type, builtinLookup_eq_fast]; kernel_rfl
theorem join_method {M : Model} {A : Around} {E : Value → Shared → Prop} {s : Shared} {x : Array UInt8} {t : Tok} {pl : Sem Bool} {Q : Value × List Value → Shared → Prop} (h : Q (.builtin "bytes.join", [.bytes x t]) s) :
    wpAny M A (getMethod (.bytes x t) (PySem.Str.ofString "join") pl) Q E s :=
  getMethod_value (T := "bytes") (name := PySem.Str.ofString "join") (ga := "bytes.__getattribute__") (id := "bytes.join") (typeIs_bytes s x t) (by intro _ x; cases x) ga_bytes canon_ga_bytes no_getattr_bytes slot_bytes_join.lookup type_bytes_join h
def RowJ (S : Addr) (oS : Obj) (k i : Nat) (ys : List Value) (news : List (Addr × Obj)) : Prop := Side ((S, oS) ∈ news ∧ ∃ ps, ys = List.map bytV ps ∧ ps.length = i ∧ ∀ p ∈ ps, p.1.size = k)
theorem total_of {k : Nat} : ∀ {ps : List (Array UInt8 × Tok)}, (∀ p ∈ ps, p.1.size = k) → total ps = k * ps.length
  | [], _ => by simp [total]
  | p :: r, h => by
    have e1 := h p (.head _)
    have e2 := total_of fun q hq => h q (.tail _ hq)
    unfold total at e2 ⊢
    rw [List.map_cons, List.sum_cons, e1, e2, List.length_cons, Nat.mul_add]
    omega
theorem kept_all {s g h' : Heap} {L : Addr} {m : Str → Option Value} {fp led : List (Addr × Obj)} (hgk : ∀ b o, s.get? b = some o → b ∉ fp.map (·.1) → g.get? b = some o) (hfp : ∀ q ∈ fp, s.get? q.1 = some q.2) (F : Fr g L h' m) (N : News g L h' led) (h3 : ∀ q ∈ fp, q ∈ led) : ∀ b o, s.get? b = some o → h'.get? b = some o := fun b o q => by
  by_cases hm : b ∈ fp.map (·.1)
  · refine xE1_2 (List.mem_map.mp hm) ?_; intro x hx zq1'; subst zq1'
    rw [hfp x hx] at q
    cases q
    exact (N _ (h3 x hx)).1
  · exact F.keep b o (hgk b o q hm)
theorem bytV_snoc {ps : List (Array UInt8 × Tok)} {i k : Nat} {b : Array UInt8} {t : Tok} (hlen : ps.length = i) (hps : ∀ p ∈ ps, p.1.size = k) (hb : b.size = k) : ∃ ps', List.map bytV ps ++ [.bytes b t] = List.map bytV ps' ∧ ps'.length = i + 1 ∧ ∀ p ∈ ps', p.1.size = k :=
  by exact xI1_3 (ps ++ [(b, t)]) (by rw [List.map_append]; rfl) (by rw [List.length_append, hlen]; rfl) (fun p hp => (List.mem_append.mp hp).elim (hps p) fun h => by rw [List.mem_singleton.mp h]; exact hb)
theorem two_in {x : Int} (h0 : 0 ≤ x) (h1 : x ≤ 65535) : (0 ≤ x.fdiv 256 ∧ x.fdiv 256 < 256) ∧ 0 ≤ x.fmod 256 ∧ x.fmod 256 < 256 := by
  rw [Int.fdiv_eq_ediv_of_nonneg _ (by decide : (0 : Int) ≤ 256), Int.fmod_eq_emod_of_nonneg _ (by decide : (0 : Int) ≤ 256)]
  omega
theorem row_spec {w : World} {S : Addr} {e3 : Nat} {its : List Value} (hI : IntsLe 65535 its) (hn1 : (List.toArray its).size ≤ 100) :
    Spec w 337 800 800 [.ref S] [(S, listOf (List.toArray its) e3)] (fun h h' v => ∃ b t, v = .bytes b t ∧ b.size = 2 * its.length ∧ ∀ b o, h.get? b = some o → h'.get? b = some o) (fun _ _ => False) := by
  ((refine' enter ?ho ?hcd ?hD ?hb ?hl ?_ ?hc ?c1 ?c2 ?c3; (case ho => exact rfl); (case hcd => exact rfl); (case hD => decide); (case hb => exact fun s'r X'r => BindsTo.of_eq rfl); (case hl => exact locs rfl); (case hc => decide); (case c1 => exact rfl); (case c2 => exact rfl); (case c3 => exact rfl); intro p'r loose'r mean'r mg'r mb'r gd'r l'r s'r Q'r E'r g'r L'r h₁'r F'r N'r B'r X'r T'r hL'r hgk'r hgs'r hfp'r hX'r; (try (refine (let mk := _; (fun (FK : Fr _ _ _ mk) => ?_) F'r); clear F'r)); revert X'r; k_fill; intro X'r; (try dsimp only); (try (refine (let mA := _; let mE := _; (?_ : wpAny _ mA (execs _ mE) _ _ _)))); k_fold))
  (repeat' (first | ((with_reducible first | refine nextN ?_ | refine nextR ?_); (try dsimp only)) | (k_unfold; (try dsimp only)) | (k_end; kc_close) | ((with_reducible first | show wpAny _ _ (exec _ _) _ _ _ | show wpAny _ _ (eval (Expr.Call ..) _) _ _ _ | show wpAny _ _ (eval (Expr.BinOp ..) _) _ _ _ | show wpAny _ _ (eval (Expr.Subscript ..) _) _ _ _ | show wpAny _ _ (eval (Expr.List ..) _) _ _ _ | show wpAny _ _ (eval (Expr.Tuple ..) _) _ _ _); (fail_if_success (fail_if_success k_fold)); refine (let qk := _; (?_ : wpAny _ _ _ qk _ _))) | ((with_reducible refine execsN ?_); (try k_gentoks)) | ((with_reducible refine args_cons ?_ ?he); (case he => exact rfl)) | ((with_reducible show wpAny _ _ (getMethod (Value.bytes ..) _ _) _ _ _); (k_here; k_dflt (refine join_method ?_))) | ((with_reducible show wpAny _ _ (eval (Expr.ListComp ..) _) _ _ _); (k_here; k_dflt (refine comp_held (by k_asm) (by with_unfolding_all rfl) (by decide) (by rfl) (by decide) (by rfl) ?_))) | walk1 | (dsimp only; walk1) | (dsimp only [mA]; walk1) | (dsimp only [mE]; walk1) | (dsimp only [mA, mE]; walk1) | (leave1; (try dsimp only))))
  rename News _ _ _ _ => N9
  rename Fr _ _ _ _ => F9
  refine Side.mk (src_list (by rfl) F9 N9 (by k_mem) (by rw [sizeLine_eq]; omega) fun g' => ?_)
  refine comp_turns (RowJ S (listOf (List.toArray its) e3) 2) ?_ ?_ _ 0 [] _ (Nat.zero_add _) ⟨by k_mem, [], rfl, rfl, fun _ h => nomatch h⟩
  · intro i v ys news I oI C oC D m₂ h tk E' hi hv hJ hC hx F N off ne
    refine xE0_2 (hJ.out) ?_; intro hm zq2'; refine xE1_3 zq2' ?_; clear zq2'; intro ps zq3' hlen hps; subst zq3'
    refine xE2_3 (hI v (by have := List.mem_of_getElem? (l := its) (i := i) (by simpa using hv); exact this)) ?_; intro x t zq4' hx0 hx1; subst zq4'
    have hO := own_of3 off
    have N := news_add N (mem1 hm)
    simp only [List.cons_append, List.nil_append] at N
    clear off
    (repeat' (first | ((with_reducible first | refine nextN ?_ | refine nextR ?_); (try dsimp only)) | (k_unfold; (try dsimp only)) | (k_end; kc_close) | ((with_reducible first | show wpAny _ _ (exec _ _) _ _ _ | show wpAny _ _ (eval (Expr.Call ..) _) _ _ _ | show wpAny _ _ (eval (Expr.BinOp ..) _) _ _ _ | show wpAny _ _ (eval (Expr.Subscript ..) _) _ _ _ | show wpAny _ _ (eval (Expr.List ..) _) _ _ _ | show wpAny _ _ (eval (Expr.Tuple ..) _) _ _ _); (fail_if_success (fail_if_success k_fold)); refine (let qk := _; (?_ : wpAny _ _ _ qk _ _))) | ((with_reducible refine execsN ?_); (try k_gentoks)) | ((with_reducible refine args_cons ?_ ?he); (case he => exact rfl)) | ((with_reducible show wpAny _ _ (call (Value.type "bytes") _ _) _ _ _); (k_here; (with_reducible show wpAny _ _ (call (Value.type _) [Value.ref _]) _ _ _); k_dflt (refine' bytes_K ?F ?N ?l ?i ?r ?z ?h ?_; (case F => k_asm); (case N => k_asm); (case l => is_list); (case i => first | l_ints | l_intsW); (case r => (simp only [List.forall_mem_cons, List.not_mem_nil, false_implies, implies_true, and_true]; exact two_in (by assumption) (by assumption))); (case z => first | size_fits | (simp only [sizeLine_eq, List.length_cons, List.length_nil]; decide)); (case h => with_unfolding_all rfl); k_whole); intro h'r t'r k'r F'r N'r hB'r; (try k_sweep))) | walk1 | (dsimp only; walk1) | (dsimp only [mA]; walk1) | (dsimp only [mE]; walk1) | (dsimp only [mA, mE]; walk1) | (leave1; (try dsimp only))))
    (try k_unfold)
    (try dsimp only)
    rename News _ _ _ _ => N9
    rename Fr _ _ _ _ => F9
    exact xI3_6 _ _ _ rfl F9 (fun p hp => N9 p (.tail _ hp)) (off3_of (own_add hO (mem1 hm))) (.inr ⟨_, .head _, rfl, e3, rfl⟩) ⟨.head _, bytV_snoc hlen hps rfl⟩
  · intro ys news hJ
    refine xE0_2 (hJ.out) ?_; intro hm zq5'; refine xE1_3 zq5' ?_; clear zq5'; intro ps zq6' hlen hps; subst zq6'
    intro D h tk F N o1
    have hz9 : total ps ≤ 16777216 := by rw [total_of hps]; omega
    (repeat' (first | ((with_reducible first | refine nextN ?_ | refine nextR ?_); (try dsimp only)) | (k_unfold; (try dsimp only)) | (k_end; kc_close) | ((with_reducible first | show wpAny _ _ (exec _ _) _ _ _ | show wpAny _ _ (eval (Expr.Call ..) _) _ _ _ | show wpAny _ _ (eval (Expr.BinOp ..) _) _ _ _ | show wpAny _ _ (eval (Expr.Subscript ..) _) _ _ _ | show wpAny _ _ (eval (Expr.List ..) _) _ _ _ | show wpAny _ _ (eval (Expr.Tuple ..) _) _ _ _); (fail_if_success (fail_if_success k_fold)); refine (let qk := _; (?_ : wpAny _ _ _ qk _ _))) | ((with_reducible refine execsN ?_); (try k_gentoks)) | ((with_reducible refine args_cons ?_ ?he); (case he => exact rfl)) | ((with_reducible show wpAny _ _ (call (Value.builtin "bytes.join") _ _) _ _ _); (k_here; k_dflt (refine' join_bytes ?hl ?hz ?_; (case hl => exact News.isList (by k_asm) (by k_mem)); (case hz => assumption)); intro b'r t'r k'r hb'r)) | walk1 | (dsimp only; walk1) | (dsimp only [mA]; walk1) | (dsimp only [mE]; walk1) | (dsimp only [mA, mE]; walk1) | (leave1; (try dsimp only))))
    (try k_unfold)
    (try dsimp only)
    rename News _ _ _ _ => N9
    rename Fr _ _ _ _ => F9
    rename @Eq Nat _ _ => hb9
    refine ends_ret (by assumption) F9 (P := _) ?_
    exact xI2_3 _ _ rfl (by rw [hb9, total_of hps, hlen, List.size_toArray]) (kept_all (fp := [(S, listOf (List.toArray its) e3)]) (by assumption) (by assumption) F9 N9 (mem1 (by first | exact hm | exact .tail _ hm)))
end
section
open PySem.Calls
def BentP (P C : Addr) (h h' : Heap) (v : Value) : Prop := (∃ b t, v = .bytes b t ∧ b.size ≤ 201) ∧ PenTo P C h h'
theorem bent_size {b : Array UInt8} {x : Int} {l1 h1 l2 h2 : Option Int} (h : b.size ≤ 100) : (KBy.picked b l1 h1 ++ (List.map (fun n : Int => n.toNat.toUInt8) [x]).toArray ++ KBy.picked b l2 h2).size ≤ 201 := by
  have a1 := KBc.size_picked_le b l1 h1
  have a2 := KBc.size_picked_le b l2 h2
  simp only [Array.size_append, List.size_toArray, List.length_map, List.length_cons, List.length_nil]
  omega
theorem bent_spec {w : World} {P C : Addr} {n r : Int} {t u tb : Tok} {cs : List (Int × Tok)} {e e2 : Nat} {b : Array UInt8} {ks : List Int} (hz : cs.length ≤ 64) (hlt : @LT.lt Nat _ C P) (hb : KBw.bInts b = ks) (hb0 : 0 < ks.length) (hb1 : ks.length ≤ 100) :
    Spec w 354 740 740 [.ref P, .bytes b tb] [(P, penO C n r t u e2), (C, cellsO cs e)] (BentP P C) (fun _ _ => False) := by
  have hs : b.size ≤ 100 := by have := KBw.ints_length b; rw [hb] at this; omega
  ((refine' enter ?ho ?hcd ?hD ?hb ?hl ?_ ?hc ?c1 ?c2 ?c3; (case ho => exact rfl); (case hcd => exact rfl); (case hD => decide); (case hb => exact fun s'r X'r => BindsTo.of_eq rfl); (case hl => exact locs rfl); (case hc => decide); (case c1 => exact rfl); (case c2 => exact rfl); (case c3 => exact rfl); intro p'r loose'r mean'r mg'r mb'r gd'r l'r s'r Q'r E'r g'r L'r h₁'r F'r N'r B'r X'r T'r hL'r hgk'r hgs'r hfp'r hX'r; (try (refine (let mk := _; (fun (FK : Fr _ _ _ mk) => ?_) F'r); clear F'r)); revert X'r; k_fill; intro X'r; (try dsimp only); (try (refine (let mA := _; let mE := _; (?_ : wpAny _ mA (execs _ mE) _ _ _)))); k_fold))
  (repeat' (first | ((with_reducible first | refine nextN ?_ | refine nextR ?_); (try dsimp only)) | (k_unfold; (try dsimp only)) | (k_end; kc_close) | ((with_reducible first | show wpAny _ _ (exec _ _) _ _ _ | show wpAny _ _ (eval (Expr.Call ..) _) _ _ _ | show wpAny _ _ (eval (Expr.BinOp ..) _) _ _ _ | show wpAny _ _ (eval (Expr.Subscript ..) _) _ _ _ | show wpAny _ _ (eval (Expr.List ..) _) _ _ _ | show wpAny _ _ (eval (Expr.Tuple ..) _) _ _ _); (fail_if_success (fail_if_success k_fold)); refine (let qk := _; (?_ : wpAny _ _ _ qk _ _))) | ((with_reducible refine execsN ?_); (try k_gentoks)) | ((with_reducible refine args_cons ?_ ?he); (case he => exact rfl)) | ((with_reducible show wpAny _ _ (call (Value.type "bytes") _ _) _ _ _); (k_here; (with_reducible show wpAny _ _ (call (Value.type _) [Value.ref _]) _ _ _); k_dflt (refine' bytes_K ?F ?N ?l ?i ?r ?z ?h ?_; (case F => k_asm); (case N => k_asm); (case l => is_list); (case i => first | l_ints | l_intsW); (case r => (simp only [List.forall_mem_cons, List.not_mem_nil, false_implies, implies_true, and_true]; omega)); (case z => first | size_fits | (simp only [sizeLine_eq, List.length_cons, List.length_nil]; decide)); (case h => with_unfolding_all rfl); k_whole); intro h'r t'r k'r F'r N'r hB'r; (try k_sweep))) | ((with_reducible show wpAny _ _ (call (Value.ref _) _ _) _ _ _); first | ((k_here; (try ((fail_if_success (fail_if_success k_fold)); refine (let qk := _; (?_ : wpAny _ _ _ qk _ _)))); k_dflt (refine' Spec.calm (pick_spec (M := 255) (by assumption) (by assumption) (by first | assumption | omega) ?hI ?hn0 ?hn1) ?B ?F ?X ?T rfl rfl rfl rfl (Nat.le_of_ble_eq_true rfl) (Nat.le_of_ble_eq_true rfl) ?N ?hR ?_; ((case B => assumption); (case F => k_asm); (case X => k_asm); (case T => k_asm)); (case N => exact news3 (by assumption) (by k_mem) (by k_mem) (by k_mem)); (case hI => ((repeat' (first | exact IntsLe.nil | refine IntsLe.cons (by decide) (by decide) ?_)))); (case hn0 => exact Nat.le_of_ble_eq_true rfl); (case hn1 => exact Nat.le_of_ble_eq_true rfl); (case hR => exact fun _ _ h => h); intro v'r h'r tk'r F'r hb'r hP'r; (try simp only [List.map_cons, List.map_nil] at hb'r); refine xE0_3 hP'r ?_; clear hP'r; intro zq3'r hk'r zq4'r; refine xE2_3 zq3'r ?_; clear zq3'r; intro d'r t'r e0'r hd1 hd2; refine xE7_3 zq4'r ?_; clear zq4'r; intro n'r r'r t1'r t2'r e2'r cs'r e'r hp1 hp2 hz2; subst e0'r; (have N'r := news_turn2 (by assumption) hk'r (by k_upd) (by k_upd) hp1 hp2); (try k_sweep)))) | ((k_here; (try ((fail_if_success (fail_if_success k_fold)); refine (let qk := _; (?_ : wpAny _ _ _ qk _ _)))); k_dflt (refine' Spec.calm (draw_spec (by first | assumption | omega) (by assumption) (by assumption) (by first | assumption | omega)) ?B ?F ?X ?T rfl rfl rfl rfl (Nat.le_of_ble_eq_true rfl) (Nat.le_of_ble_eq_true rfl) ?N ?hR ?_; ((case B => assumption); (case F => k_asm); (case X => k_asm); (case T => k_asm)); (case N => exact news2 (by assumption) (by k_mem) (by k_mem)); (case hR => exact fun _ _ h => h); intro v'r h'r tk'r F'r hb'r hP'r; (try simp only [List.map_cons, List.map_nil] at hb'r); refine xE0_3 (DrawP.to hb'r hP'r) ?_; intro zq1'r hk'r zq2'r; refine xE2_3 zq1'r ?_; clear zq1'r; intro d'r t'r e0'r hd1 hd2; refine xE7_3 zq2'r ?_; clear zq2'r; intro n'r r'r t1'r t2'r e2'r cs'r e'r hp1 hp2 hz2; subst e0'r; (have N'r := news_turn2 (by assumption) hk'r (by k_upd) (by k_upd) hp1 hp2); (try k_sweep))))) | ((with_reducible show wpAny _ _ (storeName _ _ _) _ _ _); (k_here; k_dflt (refine' storeX_L ?sF ?sN ?_ rfl rfl; (case sF => k_asm); (case sN => k_asm); k_whole; intro hS FS NS; (try k_sweep); refine (let mk := _; (fun (FK : Fr _ _ _ mk) => ?_) FS); clear FS))) | walk1 | (dsimp only; walk1) | (dsimp only [mA]; walk1) | (dsimp only [mE]; walk1) | (dsimp only [mA, mE]; walk1) | (leave1; (try dsimp only))))
  (try k_unfold)
  all_goals
    (try dsimp only)
    rename News _ _ _ _ => N9
    rename Fr _ _ _ _ => F9
    refine ends_ret (by assumption) F9 (P := _) ?_
    refine ⟨⟨_, _, rfl, ?_⟩, pen_to2 (by assumption) F9 N9 (by k_mem) (by k_mem) (by assumption)⟩
    first | omega | exact bent_size hs | exact Nat.le_trans (KBc.size_picked_le b _ _) (by omega)
end
section
open PySem.Calls
theorem IntsLe.append {M : Int} {a b : List Value} (h1 : IntsLe M a) (h2 : IntsLe M b) : IntsLe M (a ++ b) := fun v hv => (List.mem_append.mp hv).elim (h1 v) (h2 v)
theorem IntsLe.snoc {M x : Int} {t : Tok} {its : List Value} (h : IntsLe M its) (h0 : 0 ≤ x) (h1 : x ≤ M) : IntsLe M (its ++ [.int x t]) := h.append (.cons h0 h1 .nil)
theorem IntsLe.are {M : Int} : ∀ {its : List Value}, IntsLe M its → ∃ ns, IntsAre its ns ∧ (∀ n ∈ ns, 0 ≤ n ∧ n ≤ M) ∧ ns.length = its.length
  | [], _ => ⟨[], .nil, (fun _ h => nomatch h), rfl⟩
  | v :: r, h => by
    refine xE2_3 (h v (.head _)) ?_; intro x t zq1' h0 h1; subst zq1'
    refine xE1_3 (IntsLe.are fun q hq => h q (.tail _ hq)) ?_; intro ns a b c
    exact xI1_3 (x :: ns) (.cons x t a) (List.forall_mem_cons.mpr ⟨⟨h0, h1⟩, b⟩) (by rw [List.length_cons, List.length_cons, c])
structure LenIn (lo hi : Nat) (its : List Value) : Prop where
  lo : lo ≤ its.length
  hi : its.length ≤ hi
theorem LenIn.nil : LenIn 0 0 [] := ⟨Nat.le_refl _, Nat.le_refl _⟩
theorem LenIn.cons {v : Value} {r : List Value} {a b : Nat} (h : LenIn a b r) : LenIn (a + 1) (b + 1) (v :: r) := ⟨Nat.succ_le_succ h.1, Nat.succ_le_succ h.2⟩
theorem LenIn.append {x y : List Value} {a b c d : Nat} (h1 : LenIn a b x) (h2 : LenIn c d y) : LenIn (a + c) (b + d) (x ++ y) := ⟨by rw [List.length_append]; exact Nat.add_le_add h1.1 h2.1, by rw [List.length_append]; exact Nat.add_le_add h1.2 h2.2⟩
structure Sz (lo hi : Nat) (b : Array UInt8) : Prop where
  lo : lo ≤ b.size
  hi : b.size ≤ hi
theorem Sz.app {x y : Array UInt8} {a b c d : Nat} (h1 : Sz a b x) (h2 : Sz c d y) : Sz (a + c) (b + d) (x ++ y) := ⟨by rw [Array.size_append]; exact Nat.add_le_add h1.1 h2.1, by rw [Array.size_append]; exact Nat.add_le_add h1.2 h2.2⟩
section
variable {prog : Program} {w : World} {A : Around} {E : Value → Shared → Prop} {s : Shared} {g : Heap} {L a b : Addr} {m : Str → Option Value} {news : List (Addr × Obj)} {Q : Value → Shared → Prop}
theorem add_ll {vs ws : List Value} {ka kb j0 j k0 k : Nat}
    (F : Fr g L s.heap m) (N : News g L s.heap news) (ma : (a, listOf (List.toArray vs) ka) ∈ news) (mb : (b, listOf (List.toArray ws) kb) ∈ news) (ha : LenIn j0 j vs) (hb : LenIn k0 k ws) (hz : Nat.ble (j + k) 1000 = true)
    (h : ∀ D h', Fr g L h' m → News g L h' ((D, listOf (List.toArray (vs ++ ws)) 0) :: news) → (∀ p ∈ news, p.1 < D) → Q (.ref D) { s with heap := h' }) : wpAny (model prog w) A (binaryOp .Add (.ref a) (.ref b)) Q E s :=
  kmk_add_lit F N (News.isList N ma) (News.isList N mb) rfl h (by
    have h1 := Nat.le_of_ble_eq_true hz
    have h2 := ha.2
    have h3 := hb.2
    show vs.length + ws.length ≤ sizeLine
    rw [sizeLine_eq]; omega)
theorem add_sz {x y : Array UInt8} {t u : Tok} {j0 j k0 k : Nat} (h1 : Sz j0 j x) (h2 : Sz k0 k y) (hz : Nat.ble (j + k) 1000 = true) (h : ∀ z t' k', Sz (j0 + k0) (j + k) z → Q (.bytes z t') { s with toks := k' }) :
    wpAny (model prog w) A (binaryOp .Add (.bytes x t) (.bytes y u)) Q E s :=
  KBy.add_bytes (by have a1 := Nat.le_of_ble_eq_true hz; have a2 := h1.2; have a3 := h2.2; omega) fun t' k' => h _ t' k' (h1.app h2)
theorem bytes_le {l : Addr} {its : List Value} {kl lo hi : Nat} (F : Fr g L s.heap m) (N : News g L s.heap news) (hl : (l, listOf (List.toArray its) kl) ∈ news) (hI : IntsLe 255 its) (hL : LenIn lo hi its) (hz : Nat.ble hi 1000 = true) (hh : A.handled = none)
    (h : ∀ z h' t k, Sz lo hi z → Fr g L h' m → News g L h' news → Q (.bytes z t) { s with heap := h', toks := k }) : wpAny (model prog w) A (call (.type "bytes") [.ref l]) Q E s := by
  refine xE1_3 (hI.are) ?_; intro ns h1 h2 h3
  have h4 := Nat.le_of_ble_eq_true hz
  refine bytes_K F N (News.isList N hl) h1 (fun n hn => ⟨(h2 n hn).1, by have := (h2 n hn).2; omega⟩) (by rw [sizeLine_eq]; have := hL.2; omega) hh fun h' t k F' N' _ => h _ h' t k ⟨?_, ?_⟩ F' N'
  · rw [List.size_toArray, List.length_map, h3]; exact hL.1
  · rw [List.size_toArray, List.length_map, h3]; exact hL.2
end
theorem row_spec2 {w : World} {S : Addr} {e3 lo hi : Nat} {its : List Value} (hI : IntsLe 65535 its) (hL : LenIn lo hi its) (hz : Nat.ble hi 100 = true) :
    Spec w 337 800 800 [.ref S] [(S, listOf (List.toArray its) e3)] (fun h h' v => ∃ b t, v = .bytes b t ∧ Sz (2 * lo) (2 * hi) b ∧ ∀ b o, h.get? b = some o → h'.get? b = some o) (fun _ _ => False) := by
  have h1 := Nat.le_of_ble_eq_true hz
  have h2 := hL.1
  have h3 := hL.2
  intro p loose mean mg mb H A l s Q E S1 S2 S3 S4
  refine row_spec hI (by rw [List.size_toArray]; omega) p loose mean mg mb H A l s Q E S1 S2 (fun v h' tk' hb hp => S3 v h' tk' hb ?_) S4
  refine xE2_3 hp ?_; (try clear hp); intro b t e hs hk
  exact xI2_3 b t e ⟨by omega, by omega⟩ hk
theorem news1 {g h : Heap} {L : Addr} {news : List (Addr × Obj)} {p : Addr × Obj} (N : News g L h news) (hp : p ∈ news) : News g L h [p] := fun r hr => by
  rw [List.mem_singleton.mp hr]; exact N _ hp
theorem news_same {g h h' : Heap} {L : Addr} {news : List (Addr × Obj)} (N : News g L h news) (hk : ∀ b o, h.get? b = some o → h'.get? b = some o) : News g L h' news := fun p hp => ⟨hk _ _ (N p hp).1, (N p hp).2⟩
def OctP (lo hi : Nat) (P C : Addr) (h h' : Heap) (v : Value) : Prop := (∃ b t, v = .bytes b t ∧ Sz lo hi b) ∧ PenTo P C h h'
end
section
open PySem.Calls
theorem head_le {d c : Int} {i : Nat} (h1 : d < 3) (hi : i < (1 + d - 0).toNat) (hc : c ≤ 2) : 6 + 2 * (1 + d) + c + 2 * (0 + (i : Int)) ≤ 65535 := by omega
theorem head_ge {d c : Int} {i : Nat} (h1 : 0 ≤ d) (hc : 0 ≤ c) : 0 ≤ 6 + 2 * (1 + d) + c + 2 * (0 + (i : Int)) := by omega
theorem len_in {ys : List Value} {n k : Nat} (h : ys.length = n) (hn : n ≤ k) : LenIn 0 k ys := ⟨Nat.zero_le _, h ▸ hn⟩
theorem Sz.weak {a b lo hi : Nat} {x : Array UInt8} (h : Sz a b x) (h1 : Nat.ble lo a = true) (h2 : Nat.ble b hi = true) : Sz lo hi x := ⟨Nat.le_trans (Nat.le_of_ble_eq_true h1) h.1, Nat.le_trans h.2 (Nat.le_of_ble_eq_true h2)⟩
theorem len_snoc {ys : List Value} {v : Value} {i : Nat} (h : ys.length = i) : (ys ++ [v]).length = i + 1 := by rw [List.length_append, h]; rfl
theorem pen4 {g h : Heap} {L P C : Addr} {m : Str → Option Value} {led : List (Addr × Obj)} {o1 o2 : Obj} {n r : Int} {t1 t2 : Tok} {e2 e : Nat} {cs : List (Int × Tok)} (_F : Fr g L h m) (N : News g L h led) (h1 : (L + 1 + 1, o1) ∈ led) (h2 : (L + 1, o2) ∈ led)
    (h3 : (P, penO C n r t1 t2 e2) ∈ led) (h4 : (C, cellsO cs e) ∈ led) : News g L h [(L + 1 + 1, o1), (L + 1, o2), (P, penO C n r t1 t2 e2), (C, cellsO cs e)] := fun p hp => N p (mem4 h1 h2 h3 h4 p hp)
theorem lookoct_spec {w : World} {P C : Addr} {n r : Int} {t u : Tok} {cs : List (Int × Tok)} {e e2 : Nat} (hz : cs.length ≤ 64) (hlt : @LT.lt Nat _ C P) :
    Spec w 347 740 740 [.ref P] [(P, penO C n r t u e2), (C, cellsO cs e)] (OctP 1 100 P C) (fun _ _ => False) := by
  ((refine' enterC ?ho ?hcd ?hD ?hb ?hkd ?hnd ?_ ?c1 ?c2 ?c3; (case ho => exact rfl); (case hcd => exact rfl); (case hD => decide); (case hb => exact fun s'r X'r => BindsTo.of_eq rfl); (case hkd => exact rfl); (case hnd => decide +kernel); (case c1 => exact rfl); (case c2 => exact rfl); (case c3 => exact rfl); intro p'r loose'r mean'r mg'r mb'r gd'r l'r s'r Q'r E'r g'r L'r h₁'r tk'r cells'r F'r N'r Y'r B'r X'r T'r hL'r hgk'r hgs'r hfp'r l1'r hX'r; (try (refine (let mk := _; (fun (FK : Fr _ _ _ mk) => ?_) F'r); clear F'r)); revert X'r; k_fill; intro X'r; (try k_lt l1'r); k_cells Y'r; (try simp only [List.cons_append, List.nil_append] at N'r); (try dsimp only); (try (refine (let mA := _; let mE := _; (?_ : wpAny _ mA (execs _ mE) _ _ _)))); (try k_fold)))
  (repeat' (first | ((with_reducible first | refine nextN ?_ | refine nextR ?_); (try dsimp only)) | (k_unfold; (try dsimp only)) | (k_end; kc_close) | ((with_reducible first | show wpAny _ _ (exec _ _) _ _ _ | show wpAny _ _ (eval (Expr.Call ..) _) _ _ _ | show wpAny _ _ (eval (Expr.BinOp ..) _) _ _ _ | show wpAny _ _ (eval (Expr.Subscript ..) _) _ _ _ | show wpAny _ _ (eval (Expr.List ..) _) _ _ _ | show wpAny _ _ (eval (Expr.Tuple ..) _) _ _ _); (fail_if_success (fail_if_success k_fold)); refine (let qk := _; (?_ : wpAny _ _ _ qk _ _))) | ((with_reducible refine execsN ?_); (try k_gentoks)) | ((with_reducible refine args_cons ?_ ?he); (case he => exact rfl)) | ((with_reducible show wpAny _ _ (eval (Expr.ListComp ..) _) _ _ _); (k_here; k_dflt (refine comp_held (by k_asm) (by with_unfolding_all rfl) (by decide) (by rfl) (by decide) (by rfl) ?_))) | ((with_reducible show wpAny _ _ (call (Value.ref _) _ _) _ _ _); first | ((k_here; (try ((fail_if_success (fail_if_success k_fold)); refine (let qk := _; (?_ : wpAny _ _ _ qk _ _)))); k_dflt (refine' Spec.calm (pick_spec (M := 255) (by assumption) (by assumption) (by first | assumption | omega) ?hI ?hn0 ?hn1) ?B ?F ?X ?T rfl rfl rfl rfl (Nat.le_of_ble_eq_true rfl) (Nat.le_of_ble_eq_true rfl) ?N ?hR ?_; ((case B => assumption); (case F => k_asm); (case X => k_asm); (case T => k_asm)); (case N => exact news3 (by assumption) (by k_mem) (by k_mem) (by k_mem)); (case hI => ((repeat' (first | exact IntsLe.nil | assumption | refine IntsLe.cons (by first | decide | omega) (by first | decide | omega) ?_ | refine IntsLe.append ?_ ?_)))); (case hn0 => exact Nat.le_of_ble_eq_true rfl); (case hn1 => exact Nat.le_of_ble_eq_true rfl); (case hR => exact fun _ _ h => h); intro v'r h'r tk'r F'r hb'r hP'r; (try simp only [List.map_cons, List.map_nil] at hb'r); obtain ⟨⟨d'r, t'r, e0'r, hd1, hd2⟩, hk'r, n'r, r'r, t1'r, t2'r, e2'r, cs'r, e'r, hp1, hp2, hz2⟩ := hP'r; subst e0'r; (have N'r := news_turn2 (by assumption) hk'r (by k_upd) (by k_upd) hp1 hp2); (try k_sweep)))) | ((k_here; (try ((fail_if_success (fail_if_success k_fold)); refine (let qk := _; (?_ : wpAny _ _ _ qk _ _)))); k_dflt (refine' Spec.calm (draw_spec (by first | assumption | omega) (by assumption) (by assumption) (by first | assumption | omega)) ?B ?F ?X ?T rfl rfl rfl rfl (Nat.le_of_ble_eq_true rfl) (Nat.le_of_ble_eq_true rfl) ?N ?hR ?_; ((case B => assumption); (case F => k_asm); (case X => k_asm); (case T => k_asm)); (case N => exact news2 (by assumption) (by k_mem) (by k_mem)); (case hR => exact fun _ _ h => h); intro v'r h'r tk'r F'r hb'r hP'r; (try simp only [List.map_cons, List.map_nil] at hb'r); obtain ⟨⟨d'r, t'r, e0'r, hd1, hd2⟩, hk'r, n'r, r'r, t1'r, t2'r, e2'r, cs'r, e'r, hp1, hp2, hz2⟩ := DrawP.to hb'r hP'r; subst e0'r; (have N'r := news_turn2 (by assumption) hk'r (by k_upd) (by k_upd) hp1 hp2); (try k_sweep))))) | ((with_reducible show wpAny _ _ (storeName _ _ _) _ _ _); (k_here; k_dflt (refine' storeX_L ?sF ?sN ?_ rfl rfl; (case sF => k_asm); (case sN => k_asm); k_whole; intro hS FS NS; (try k_sweep); refine (let mk := _; (fun (FK : Fr _ _ _ mk) => ?_) FS); clear FS))) | walk1 | (dsimp only; walk1) | (dsimp only [mA]; walk1) | (dsimp only [mE]; walk1) | (dsimp only [mA, mE]; walk1) | (leave1; (try dsimp only))))
  all_goals
    rename News _ _ _ _ => N9
    rename Fr _ _ _ _ => F9
    refine Side.mk (LCg.CompSrc.range (by rfl) F9 N9 (by assumption) (small_one (by omega) (by omega) (by omega) (by omega)) (rangeSize_nat _ _) (by rw [sizeLine_eq]; omega) fun g' => ?_)
    refine comp_turns (fun i ys news => Side (news = _ ∧ IntsLe 65535 ys ∧ ys.length = i)) ?_ ?_ _ 0 [] _ (Nat.zero_add _) ⟨rfl, IntsLe.nil, rfl⟩
    · intro i v ys news I oI C oC D m₂ h tk E' hi hv hJ hC hx F N off ne
      refine xE0_3 (hJ.out) ?_; intro zq1' hys hlen; subst zq1'
      refine xE1_1 hv ?_; (try clear hv); intro t9 zq2'; subst zq2'
      have hoff := off
      simp only [LCg.Off3, and_true] at off
      (repeat' (first | ((with_reducible first | refine nextN ?_ | refine nextR ?_); (try dsimp only)) | (k_unfold; (try dsimp only)) | (k_end; kc_close) | ((with_reducible first | show wpAny _ _ (exec _ _) _ _ _ | show wpAny _ _ (eval (Expr.Call ..) _) _ _ _ | show wpAny _ _ (eval (Expr.BinOp ..) _) _ _ _ | show wpAny _ _ (eval (Expr.Subscript ..) _) _ _ _ | show wpAny _ _ (eval (Expr.List ..) _) _ _ _ | show wpAny _ _ (eval (Expr.Tuple ..) _) _ _ _); (fail_if_success (fail_if_success k_fold)); refine (let qk := _; (?_ : wpAny _ _ _ qk _ _))) | ((with_reducible refine execsN ?_); (try k_gentoks)) | ((with_reducible refine args_cons ?_ ?he); (case he => exact rfl)) | ((with_reducible show LCg.CompEnd _ _ _ _ _ _ _ _ _ _ _ _ _ _); k_dflt (refine Side.out ?_)) | walk1 | (dsimp only; walk1) | (dsimp only [mA]; walk1) | (dsimp only [mE]; walk1) | (dsimp only [mA, mE]; walk1) | (leave1; (try dsimp only))))
      (try k_unfold)
      (try dsimp only)
      rename News _ _ _ _ => N9
      rename Fr _ _ _ _ => F9
      exact Side.mk ⟨_, _, _, rfl, F9, N9, hoff, trivial, Side.mk ⟨rfl, hys.snoc (head_ge (by assumption) (by decide)) (head_le (by assumption) hi (by decide)), by rw [List.length_append, hlen]; rfl⟩⟩
    · intro ys news hJ
      refine xE0_3 (hJ.out) ?_; intro zq3' hys hlen; subst zq3'
      intro D h tk F N o1
      have hL := len_in (k := 3) hlen (by omega)
      (repeat' (first | ((with_reducible first | refine nextN ?_ | refine nextR ?_); (try dsimp only)) | (k_unfold; (try dsimp only)) | (k_end; kc_close) | ((with_reducible first | show wpAny _ _ (exec _ _) _ _ _ | show wpAny _ _ (eval (Expr.Call ..) _) _ _ _ | show wpAny _ _ (eval (Expr.BinOp ..) _) _ _ _ | show wpAny _ _ (eval (Expr.Subscript ..) _) _ _ _ | show wpAny _ _ (eval (Expr.List ..) _) _ _ _ | show wpAny _ _ (eval (Expr.Tuple ..) _) _ _ _); (fail_if_success (fail_if_success k_fold)); refine (let qk := _; (?_ : wpAny _ _ _ qk _ _))) | ((with_reducible refine execsN ?_); (try k_gentoks)) | ((with_reducible refine args_cons ?_ ?he); (case he => exact rfl)) | ((with_reducible show wpAny _ _ (binaryOp Operator.Add (Value.ref _) (Value.ref _)) _ _ _); (k_here; k_dflt (refine' add_ll ?F ?N ?ma ?mb ?ha ?hb ?hz ?_; (case F => k_asm); (case N => k_asm); (case ma => k_mem); (case mb => k_mem); (case ha => ((repeat' (first | assumption | exact LenIn.nil | apply LenIn.cons | apply LenIn.append)))); (case hb => ((repeat' (first | assumption | exact LenIn.nil | apply LenIn.cons | apply LenIn.append)))); (case hz => exact rfl)); intro D'r h'r F'r N'r l1; (try k_lt l1); (try k_sweep))) | ((with_reducible show wpAny _ _ (eval (Expr.ListComp ..) _) _ _ _); (k_here; k_dflt (refine comp_held (by k_asm) (by with_unfolding_all rfl) (by decide) (by rfl) (by decide) (by rfl) ?_))) | ((with_reducible show wpAny _ _ (call (Value.ref _) _ _) _ _ _); (k_here; (try ((fail_if_success (fail_if_success k_fold)); refine (let qk := _; (?_ : wpAny _ _ _ qk _ _)))); (try dsimp only); k_dflt (refine' Spec.calm (row_spec2 ?hI ?hn1 ?hz1) ?B ?F ?X ?T rfl rfl rfl rfl (Nat.le_of_ble_eq_true rfl) (Nat.le_of_ble_eq_true rfl) ?N ?hR ?_; ((case B => assumption); (case F => k_asm); (case X => k_asm); (case T => k_asm)); (case N => exact news1 (by assumption) (by k_mem)); (case hI => ((repeat' (first | exact IntsLe.nil | assumption | refine IntsLe.cons (by first | decide | omega) (by first | decide | omega) ?_ | refine IntsLe.append ?_ ?_)))); (case hn1 => ((repeat' (first | assumption | exact LenIn.nil | apply LenIn.cons | apply LenIn.append)))); (case hz1 => exact rfl); (case hR => exact fun _ _ h => h); intro v'r h'r tk'r F'r hb'r hP'r; (try simp only [List.map_cons, List.map_nil] at hb'r); obtain ⟨b'r, t'r, e0'r, hsz'r, hk'r⟩ := hP'r; subst e0'r; (have N'r := news_same (by assumption) hk'r); (try dsimp only at N'r); (try k_sweep)))) | ((with_reducible show wpAny _ _ (storeName _ _ _) _ _ _); (k_here; k_dflt (refine' storeX_L ?sF ?sN ?_ rfl rfl; (case sF => k_asm); (case sN => k_asm); k_whole; intro hS FS NS; (try k_sweep); refine (let mk := _; (fun (FK : Fr _ _ _ mk) => ?_) FS); clear FS))) | walk1 | (dsimp only; walk1) | (dsimp only [mA]; walk1) | (dsimp only [mE]; walk1) | (dsimp only [mA, mE]; walk1) | (leave1; (try dsimp only))))
      all_goals
        (try dsimp only)
        rename News _ _ _ _ => N9
        rename Fr _ _ _ _ => F9
        have N8 := pen4 (P := P) (C := C) F9 N9 (by k_mem) (by k_mem) (by k_mem) (by k_mem)
        refine Side.mk (LCg.CompSrc.range (by rfl) F9 N8 (by assumption) (small_one (by omega) (by omega) (by omega) (by omega)) (rangeSize_nat _ _) (by rw [sizeLine_eq]; omega) fun g' => ?_)
        refine comp_turns (fun i ys news => Side (∃ nn rr a b c cc ee, news = [(_, _), (_, _), (P, penO C nn rr a b c), (C, cellsO cc ee)] ∧ cc.length ≤ 64 ∧ IntsLe 255 ys ∧ ys.length = i)) ?_ ?_ _ 0 [] _ (Nat.zero_add _) ⟨_, _, _, _, _, _, _, rfl, by assumption, IntsLe.nil, rfl⟩
        · intro i v ys news I oI C' oC D' m₂ h tk E' hi hv hJ hC hx F N off ne
          refine xE7_4 (hJ.out) ?_; intro nn rr a1 b1 c1 cc ee zq4' hcc hys hlen; subst zq4'
          have hoff := off
          simp only [LCg.Off3, and_true] at off
          (repeat' (first | ((with_reducible first | refine nextN ?_ | refine nextR ?_); (try dsimp only)) | (k_unfold; (try dsimp only)) | (k_end; kc_close) | ((with_reducible first | show wpAny _ _ (exec _ _) _ _ _ | show wpAny _ _ (eval (Expr.Call ..) _) _ _ _ | show wpAny _ _ (eval (Expr.BinOp ..) _) _ _ _ | show wpAny _ _ (eval (Expr.Subscript ..) _) _ _ _ | show wpAny _ _ (eval (Expr.List ..) _) _ _ _ | show wpAny _ _ (eval (Expr.Tuple ..) _) _ _ _); (fail_if_success (fail_if_success k_fold)); refine (let qk := _; (?_ : wpAny _ _ _ qk _ _))) | ((with_reducible refine execsN ?_); (try k_gentoks)) | ((with_reducible refine args_cons ?_ ?he); (case he => exact rfl)) | ((with_reducible show wpAny _ _ (call (Value.ref _) _ _) _ _ _); (k_here; (try ((fail_if_success (fail_if_success k_fold)); refine (let qk := _; (?_ : wpAny _ _ _ qk _ _)))); k_dflt (refine' Spec.calm (pick_spec (M := 255) (by assumption) (by assumption) (by first | assumption | omega) ?hI ?hn0 ?hn1) ?B ?F ?X ?T rfl rfl rfl rfl (Nat.le_of_ble_eq_true rfl) (Nat.le_of_ble_eq_true rfl) ?N ?hR ?_; ((case B => assumption); (case F => k_asm); (case X => k_asm); (case T => k_asm)); (case N => exact news3 (by assumption) (by k_mem) (by k_mem) (by k_mem)); (case hI => ((repeat' (first | exact IntsLe.nil | assumption | refine IntsLe.cons (by first | decide | omega) (by first | decide | omega) ?_ | refine IntsLe.append ?_ ?_)))); (case hn0 => exact Nat.le_of_ble_eq_true rfl); (case hn1 => exact Nat.le_of_ble_eq_true rfl); (case hR => exact fun _ _ h => h); intro v'r h'r tk'r F'r hb'r hP'r; (try simp only [List.map_cons, List.map_nil] at hb'r); obtain ⟨⟨d'r, t'r, e0'r, hd1, hd2⟩, hk'r, n'r, r'r, t1'r, t2'r, e2'r, cs'r, e'r, hp1, hp2, hz2⟩ := hP'r; subst e0'r; (have N'r := news_turn2 (by assumption) hk'r (by k_upd) (by k_upd) hp1 hp2); (try k_sweep)))) | ((with_reducible show LCg.CompEnd _ _ _ _ _ _ _ _ _ _ _ _ _ _); k_dflt (refine Side.out ?_)) | walk1 | (dsimp only; walk1) | (dsimp only [mA]; walk1) | (dsimp only [mE]; walk1) | (dsimp only [mA, mE]; walk1) | (leave1; (try dsimp only))))
          (try dsimp only)
          rename News _ _ _ _ => N9
          rename Fr _ _ _ _ => F9
          exact Side.mk ⟨_, _, _, rfl, F9, (fun p hp => N9 p (.tail _ hp)), hoff, trivial, Side.mk ⟨_, _, _, _, _, _, _, rfl, by assumption, hys.snoc (by assumption) (by assumption), len_snoc hlen⟩⟩
        · intro ys news hJ
          refine xE7_4 (hJ.out) ?_; intro nn rr a1 b1 c1 cc ee zq5' hcc hys hlen; subst zq5'
          intro D' h tk F N o1
          have hL := len_in (k := 6) hlen (by omega)
          (repeat' (first | ((with_reducible first | refine nextN ?_ | refine nextR ?_); (try dsimp only)) | (k_unfold; (try dsimp only)) | (k_end; kc_close) | ((with_reducible first | show wpAny _ _ (exec _ _) _ _ _ | show wpAny _ _ (eval (Expr.Call ..) _) _ _ _ | show wpAny _ _ (eval (Expr.BinOp ..) _) _ _ _ | show wpAny _ _ (eval (Expr.Subscript ..) _) _ _ _ | show wpAny _ _ (eval (Expr.List ..) _) _ _ _ | show wpAny _ _ (eval (Expr.Tuple ..) _) _ _ _); (fail_if_success (fail_if_success k_fold)); refine (let qk := _; (?_ : wpAny _ _ _ qk _ _))) | ((with_reducible refine execsN ?_); (try k_gentoks)) | ((with_reducible refine args_cons ?_ ?he); (case he => exact rfl)) | ((with_reducible show wpAny _ _ (binaryOp Operator.Add (Value.bytes ..) (Value.bytes ..)) _ _ _); (k_here; k_dflt (refine' add_sz (by assumption) (by assumption) ?hz ?_; (case hz => exact rfl)); intro z'r t'r k'r hs'r)) | ((with_reducible show wpAny _ _ (call (Value.type "bytes") _ _) _ _ _); (k_here; k_dflt (refine' bytes_le ?F ?N ?hl ?hI ?hL ?hz ?hh ?_; (case F => k_asm); (case N => k_asm); (case hl => k_mem); (case hI => ((repeat' (first | exact IntsLe.nil | assumption | refine IntsLe.cons (by first | decide | omega) (by first | decide | omega) ?_ | refine IntsLe.append ?_ ?_)))); (case hL => ((repeat' (first | assumption | exact LenIn.nil | apply LenIn.cons | apply LenIn.append)))); (case hz => exact rfl); (case hh => exact rfl)); intro z'r h'r t'r k'r hs'r F'r N'r; (try k_sweep))) | walk1 | (dsimp only; walk1) | (dsimp only [mA]; walk1) | (dsimp only [mE]; walk1) | (dsimp only [mA, mE]; walk1) | (leave1; (try dsimp only))))
          (try k_unfold)
          (try dsimp only)
          rename News _ _ _ _ => N9
          rename Fr _ _ _ _ => F9
          refine ends_ret (by assumption) F9 (P := _) ?_
          exact ⟨⟨_, _, rfl, Sz.weak (by assumption) rfl rfl⟩, pen_to2 (by assumption) F9 N9 (by k_mem) (by k_mem) (by assumption)⟩
end
section
open PySem.Calls
structure TagL (a b c : Value) (ts : List Value) : Prop where
  out : ts = [a, b, c] ∨ ts = [b, c] ∨ ts = [c] ∨ ts = []
theorem four {d : Int} (h0 : 0 ≤ d) (h1 : d < 4) : d = 0 ∨ d = 1 ∨ d = 2 ∨ d = 3 := by omega
theorem pick_tags {a b c : Value} {d : Int} (h0 : 0 ≤ d) (h1 : d < 4) : ∃ ts, slicePick #[a, b, c] (some d) none none = List.toArray ts ∧ TagL a b c ts := by
  rcases four h0 h1 with rfl | rfl | rfl | rfl
  · exact xI1_2 [a, b, c] (kmk_pick_nat (a := 0) (b := 3) _ rfl) ⟨.inl rfl⟩
  · exact xI1_2 [b, c] (kmk_pick_nat (a := 1) (b := 3) _ rfl) ⟨.inr (.inl rfl)⟩
  · exact xI1_2 [c] (kmk_pick_nat (a := 2) (b := 3) _ rfl) ⟨.inr (.inr (.inl rfl))⟩
  · exact xI1_2 [] (kmk_pick_nat (a := 3) (b := 3) _ rfl) ⟨.inr (.inr (.inr rfl))⟩
theorem TagL.size {a b c : Value} {ts : List Value} (h : TagL a b c ts) : (List.toArray ts).size ≤ 3 := by
  rcases h.out with rfl | rfl | rfl | rfl <;> simp
structure PartsIn (k n : Nat) (ps : List (Array UInt8 × Tok)) : Prop where
  all : ∀ p ∈ ps, p.1.size = k
  len : ps.length ≤ n
section
variable {prog : Program} {w : World} {A : Around} {E : Value → Shared → Prop} {s : Shared} {g : Heap} {L l : Addr} {m : Str → Option Value} {news : List (Addr × Obj)} {value slice : PySem.Expr} {Q : Value → Shared → Prop}
theorem tag_slice {a b c : Value} {d : Int} {td : Tok} {kl : Nat} (F : Fr g L s.heap m) (N : News g L s.heap news) (hl : (l, listOf #[a, b, c] kl) ∈ news) (h0 : 0 ≤ d) (h1 : d < 4)
    (h : ∀ D h' ts, Fr g L h' m → News g L h' ((D, listOf (List.toArray ts) 0) :: news) → (∀ p ∈ news, p.1 < D) → TagL a b c ts → (List.toArray ts).size ≤ 3 → Q (.ref D) { s with heap := h' })
    (hs : subscripted slice false (.ref l) (.ref s.heap.objs.size) = operate [.ref s.heap.objs.size, .ref l] (getItem (.ref l) (.ref s.heap.objs.size))) (ht : ∀ r, letTemporaryGo value (.ref l) r = pure ()) :
    wpAny (model prog w) A (subscriptTail value slice (.ref l) (.ref s.heap.objs.size)) Q E { s with heap := s.heap.push { cls := .type "slice", data := .fields #[.int d td, .none, .none] } } := by
  refine xE1_2 (pick_tags (a := a) (b := b) (c := c) h0 h1) ?_; intro ts e hT
  refine kmk_slice F N (News.isList N hl) (IsPart.int _ _) IsPart.none (fun D h' F' N' l1 => h D h' ts F' ?_ l1 hT hT.size) hs ht (Nat.le_of_ble_eq_true rfl)
  rw [← e]; exact N'
theorem join_sz {D : Addr} {t : Tok} {kl k n : Nat} {ps : List (Array UInt8 × Tok)} (N : News g L s.heap news) (hl : (D, listOf (List.toArray (ps.map bytV)) kl) ∈ news) (hp : PartsIn k n ps) (hz : Nat.ble (k * n) 1000 = true) (h : ∀ b t' k', Sz 0 (k * n) b → Q (.bytes b t') { s with toks := k' }) :
    wpAny (model prog w) A (call (.builtin "bytes.join") [.bytes #[] t, .ref D]) Q E s := by
  have h1 := Nat.le_of_ble_eq_true hz
  have h2 : total ps ≤ k * n := by rw [total_of hp.all]; exact Nat.mul_le_mul_left k hp.len
  exact join_bytes (News.isList N hl) (by omega) fun b t' k' hb => h b t' k' ⟨Nat.zero_le _, hb ▸ h2⟩
end
theorem sz_self (b : Array UInt8) : Sz b.size b.size b := ⟨Nat.le_refl _, Nat.le_refl _⟩
theorem pen4t {g h : Heap} {L P C Dt : Addr} {m : Str → Option Value} {led : List (Addr × Obj)} {o1 : Obj} {ts : List Value} {n r : Int} {t1 t2 : Tok} {e2 e e3 : Nat} {cs : List (Int × Tok)} {a b c : Value} (_F : Fr g L h m) (_hT : TagL a b c ts) (N : News g L h led) (h1 : (L + 1, o1) ∈ led) (h2 : (Dt, listOf (List.toArray ts) e3) ∈ led)
    (h3 : (P, penO C n r t1 t2 e2) ∈ led) (h4 : (C, cellsO cs e) ∈ led) : News g L h [(L + 1, o1), (Dt, listOf (List.toArray ts) e3), (P, penO C n r t1 t2 e2), (C, cellsO cs e)] := fun p hp => N p (mem4 h1 h2 h3 h4 p hp)
theorem parts_snoc {ps : List (Array UInt8 × Tok)} {i k : Nat} {b : Array UInt8} {t : Tok} (hlen : ps.length = i) (hps : ∀ p ∈ ps, p.1.size = k) (hb : Sz k k b) : ∃ ps', List.map bytV ps ++ [.bytes b t] = List.map bytV ps' ∧ ps'.length = i + 1 ∧ ∀ p ∈ ps', p.1.size = k := bytV_snoc hlen hps (Nat.le_antisymm hb.2 hb.1)
theorem pen_last {g h : Heap} {L : Addr} {x y : Addr × Obj} {r : List (Addr × Obj)} (N : News g L h (x :: y :: r)) : News g L h r := fun p hp => N p (.tail _ (.tail _ hp))
theorem nat_le3 {n : Nat} (h : n ≤ 3) : (n : Int) ≤ 65535 := by omega
theorem beg_ge {n : Nat} {k : Int} (h0 : 0 ≤ k) : 0 ≤ 4 + 6 * (n : Int) + 8 * (k + 1) := by omega
theorem beg_le {n : Nat} {k : Int} (h : n ≤ 3) (hk : k ≤ 3) : 4 + 6 * (n : Int) + 8 * (k + 1) ≤ 65535 := by omega
theorem fit3 {n : Nat} (h : n ≤ 3) : (n : Int) < 2 ^ 63 := by omega
def MidInt (s : Shared) (v : Value) (s' : Shared) : Prop := ∃ x t k, v = .int x t ∧ 0 ≤ x ∧ x ≤ 65535 ∧ s' = { s with toks := k }
theorem ite_join {c : Prop} [Decidable c] {M : Model} {A : Around} {t1 t2 : Sem Value} {Q E : Value → Shared → Prop} {s : Shared} (h1 : wpAny M A t1 (MidInt s) E s) (h2 : wpAny M A t2 (MidInt s) E s) (hk : ∀ x t k, 0 ≤ x → x ≤ 65535 → Q (.int x t) { s with toks := k }) :
    if c then wpAny M A t1 Q E s else wpAny M A t2 Q E s := by
  have go : ∀ v s', MidInt s v s' → Q v s' := fun v s' ⟨x, t, k, e1, h0, h1, e2⟩ => by subst e1 e2; exact hk x t k h0 h1
  split
  · exact wpAny_mono h1 go fun _ _ e => e
  · exact wpAny_mono h2 go fun _ _ e => e
theorem scriptoct_spec {w : World} {P C : Addr} {n r : Int} {t u : Tok} {cs : List (Int × Tok)} {e e2 : Nat} (hz : cs.length ≤ 64) (hlt : @LT.lt Nat _ C P) :
    Spec w 342 740 740 [.ref P] [(P, penO C n r t u e2), (C, cellsO cs e)] (OctP 1 100 P C) (fun _ _ => False) := by
  ((refine' enterC ?ho ?hcd ?hD ?hb ?hkd ?hnd ?_ ?c1 ?c2 ?c3; (case ho => exact rfl); (case hcd => exact rfl); (case hD => decide); (case hb => exact fun s'r X'r => BindsTo.of_eq rfl); (case hkd => exact rfl); (case hnd => decide +kernel); (case c1 => exact rfl); (case c2 => exact rfl); (case c3 => exact rfl); intro p'r loose'r mean'r mg'r mb'r gd'r l'r s'r Q'r E'r g'r L'r h₁'r tk'r cells'r F'r N'r Y'r B'r X'r T'r hL'r hgk'r hgs'r hfp'r l1'r hX'r; (try (refine (let mk := _; (fun (FK : Fr _ _ _ mk) => ?_) F'r); clear F'r)); revert X'r; k_fill; intro X'r; (try k_lt l1'r); k_cells Y'r; (try simp only [List.cons_append, List.nil_append] at N'r); (try dsimp only); (try (refine (let mA := _; let mE := _; (?_ : wpAny _ mA (execs _ mE) _ _ _)))); (try k_fold)))
  (repeat' (first | ((with_reducible first | refine nextN ?_ | refine nextR ?_); (try dsimp only)) | (k_unfold; (try dsimp only)) | (k_end; kc_close) | ((with_reducible first | show wpAny _ _ (exec _ _) _ _ _ | show wpAny _ _ (eval (Expr.Call ..) _) _ _ _ | show wpAny _ _ (eval (Expr.BinOp ..) _) _ _ _ | show wpAny _ _ (eval (Expr.Subscript ..) _) _ _ _ | show wpAny _ _ (eval (Expr.List ..) _) _ _ _ | show wpAny _ _ (eval (Expr.Tuple ..) _) _ _ _); (fail_if_success (fail_if_success k_fold)); refine (let qk := _; (?_ : wpAny _ _ _ qk _ _))) | ((with_reducible refine execsN ?_); (try k_gentoks)) | ((with_reducible refine args_cons ?_ ?he); (case he => exact rfl)) | ((with_reducible show wpAny _ _ (subscriptTail (Expr.Name ..) (Expr.Slice ..) (Value.ref _) (Value.ref _)) _ _ _); (k_here; k_dflt (refine' tag_slice ?F ?N ?hl ?h0 ?h1 ?_ ?s ?t; (case F => k_asm); (case N => k_asm); (case hl => k_mem); (case h0 => assumption); (case h1 => assumption); (case s => with_unfolding_all rfl); (case t => kmk_pure)); intro D'r h'r ts'r F'r N'r l1 hT'r hts'r; (try k_lt l1); (try k_sweep))) | ((with_reducible show wpAny _ _ (exec (Stmt.Assign (List.cons _ _) (Expr.ListComp ..) ..) _) _ _ _); (k_here; k_dflt (refine assign_raises (by k_asm) (by with_unfolding_all rfl) (by with_unfolding_all rfl) (by rfl) (by decide) ?_))) | ((with_reducible show wpAny _ _ (call (Value.builtin "len") _ _) _ _ _); (k_here; (with_reducible show wpAny _ _ (call (Value.builtin "len") [Value.ref _]) _ _ _); k_dflt (refine' PyProof.Rows.len_list ?hl ?hz ?_; (case hl => exact News.isList (by k_asm) (by k_mem)); (case hz => exact fit3 (by assumption))))) | ((with_reducible show wpAny _ _ (call (Value.ref _) _ _) _ _ _); (k_here; (try ((fail_if_success (fail_if_success k_fold)); refine (let qk := _; (?_ : wpAny _ _ _ qk _ _)))); k_dflt (refine' Spec.calm (draw_spec (by first | assumption | omega) (by assumption) (by assumption) (by first | assumption | omega)) ?B ?F ?X ?T rfl rfl rfl rfl (Nat.le_of_ble_eq_true rfl) (Nat.le_of_ble_eq_true rfl) ?N ?hR ?_; ((case B => assumption); (case F => k_asm); (case X => k_asm); (case T => k_asm)); (case N => exact news2 (by assumption) (by k_mem) (by k_mem)); (case hR => exact fun _ _ h => h); intro v'r h'r tk'r F'r hb'r hP'r; (try simp only [List.map_cons, List.map_nil] at hb'r); obtain ⟨⟨d'r, t'r, e0'r, hd1, hd2⟩, hk'r, n'r, r'r, t1'r, t2'r, e2'r, cs'r, e'r, hp1, hp2, hz2⟩ := DrawP.to hb'r hP'r; subst e0'r; (have N'r := news_turn2 (by assumption) hk'r (by k_upd) (by k_upd) hp1 hp2); (try k_sweep)))) | ((with_reducible show wpAny _ _ (storeName _ _ _) _ _ _); (k_here; k_dflt (refine' storeX_L ?sF ?sN ?_ rfl rfl; (case sF => k_asm); (case sN => k_asm); k_whole; intro hS FS NS; (try k_sweep); refine (let mk := _; (fun (FK : Fr _ _ _ mk) => ?_) FS); clear FS))) | walk1 | (dsimp only; walk1) | (dsimp only [mA]; walk1) | (dsimp only [mE]; walk1) | (dsimp only [mA, mE]; walk1) | (leave1; (try dsimp only))))
  (try k_unfold)
  (try dsimp only)
  rename News _ _ _ _ => N9
  rename Fr _ _ _ _ => F9
  rename TagL _ _ _ _ => hT
  have N8 := pen4t (P := P) (C := C) F9 hT N9 (by k_mem) (by k_mem) (by k_mem) (by k_mem)
  refine Side.mk (block_R (fun i ys news => ∃ nn rr a b c cc ee, news = [(_, _), (_, _), (P, penO C nn rr a b c), (C, cellsO cc ee)] ∧ cc.length ≤ 64 ∧ ∃ ps, ys = List.map bytV ps ∧ ps.length = i ∧ ∀ p ∈ ps, p.1.size = 8) (R := fun _ _ => False) (n := (List.toArray _).size + 1) (by assumption) rfl rfl rfl rfl (fun _ _ _ _ _ _ _ _ _ _ _ h => h.elim) (by decide) (by rfl) (by rfl) (by decide) (by assumption) (small_one (by omega) (by omega) (by omega) (by omega)) (by rw [sizeLine_eq]; omega) F9 N8
    ⟨_, _, _, _, _, _, _, rfl, by assumption, [], rfl, rfl, fun _ h => nomatch h⟩ ?_ ?_)
  · intro i ys news I oI C' oC D' m₂ h tk E' hi hJ hC hx F N off ne hE
    refine xE7_3 hJ ?_; (try clear hJ); intro nn rr a1 b1 c1 cc ee zq1' hcc zq2'; subst zq1'; refine xE1_3 zq2' ?_; clear zq2'; intro ps zq3' hlen hps; subst zq3'
    refine xE1_1 hx ?_; (try clear hx); intro t9 hx
    have hoff := off
    simp only [LCg.Off3, and_true] at off
    (repeat' (first | ((with_reducible first | refine nextN ?_ | refine nextR ?_); (try dsimp only)) | (k_unfold; (try dsimp only)) | (k_end; kc_close) | ((with_reducible first | show wpAny _ _ (exec _ _) _ _ _ | show wpAny _ _ (eval (Expr.Call ..) _) _ _ _ | show wpAny _ _ (eval (Expr.BinOp ..) _) _ _ _ | show wpAny _ _ (eval (Expr.Subscript ..) _) _ _ _ | show wpAny _ _ (eval (Expr.List ..) _) _ _ _ | show wpAny _ _ (eval (Expr.Tuple ..) _) _ _ _); (fail_if_success (fail_if_success k_fold)); refine (let qk := _; (?_ : wpAny _ _ _ qk _ _))) | ((with_reducible refine execsN ?_); (try k_gentoks)) | ((with_reducible refine args_cons ?_ ?he); (case he => exact rfl)) | ((with_reducible show wpAny _ _ (call (Value.ref _) _ _) _ _ _); first | ((k_here; (try ((fail_if_success (fail_if_success k_fold)); refine (let qk := _; (?_ : wpAny _ _ _ qk _ _)))); (try dsimp only); k_dflt (refine' Spec.calm (row_spec2 ?hI ?hn1 ?hz1) ?B ?F ?X ?T rfl rfl rfl rfl (Nat.le_of_ble_eq_true rfl) (Nat.le_of_ble_eq_true rfl) ?N ?hR ?_; ((case B => assumption); (case F => k_asm); (case X => k_asm); (case T => k_asm)); (case N => exact news1 (by assumption) (by k_mem)); (case hI => ((repeat' (first | exact IntsLe.nil | assumption | refine IntsLe.cons (by decide) (by decide) ?_ | refine IntsLe.cons (by assumption) (by assumption) ?_ | refine IntsLe.cons (Int.natCast_nonneg _) (nat_le3 (by first | assumption | exact Nat.le_of_ble_eq_true rfl)) ?_ | refine IntsLe.cons (beg_ge (by decide)) (beg_le (by first | assumption | exact Nat.le_of_ble_eq_true rfl) (by decide)) ?_ | refine IntsLe.cons (by omega) (by omega) ?_)))); (case hn1 => ((repeat' (first | assumption | exact LenIn.nil | apply LenIn.cons | apply LenIn.append)))); (case hz1 => exact rfl); (case hR => exact fun _ _ h => h); intro v'r h'r tk'r F'r hb'r hP'r; (try simp only [List.map_cons, List.map_nil] at hb'r); obtain ⟨b'r, t'r, e0'r, hsz'r, hk'r⟩ := hP'r; subst e0'r; (have N'r := news_same (by assumption) hk'r); (try dsimp only at N'r); (try k_sweep)))) | ((k_here; (try ((fail_if_success (fail_if_success k_fold)); refine (let qk := _; (?_ : wpAny _ _ _ qk _ _)))); k_dflt (refine' Spec.calm (pick_spec (M := 65535) (by assumption) (by assumption) (by first | assumption | omega) ?hI ?hn0 ?hn1) ?B ?F ?X ?T rfl rfl rfl rfl (Nat.le_of_ble_eq_true rfl) (Nat.le_of_ble_eq_true rfl) ?N ?hR ?_; ((case B => assumption); (case F => k_asm); (case X => k_asm); (case T => k_asm)); (case N => exact news3 (by assumption) (by k_mem) (by k_mem) (by k_mem)); (case hI => ((repeat' (first | exact IntsLe.nil | assumption | refine IntsLe.cons (by decide) (by decide) ?_ | refine IntsLe.cons (by assumption) (by assumption) ?_ | refine IntsLe.cons (Int.natCast_nonneg _) (nat_le3 (by first | assumption | exact Nat.le_of_ble_eq_true rfl)) ?_ | refine IntsLe.cons (beg_ge (by decide)) (beg_le (by first | assumption | exact Nat.le_of_ble_eq_true rfl) (by decide)) ?_ | refine IntsLe.cons (by omega) (by omega) ?_)))); (case hn0 => exact Nat.le_of_ble_eq_true rfl); (case hn1 => exact Nat.le_of_ble_eq_true rfl); (case hR => exact fun _ _ h => h); intro v'r h'r tk'r F'r hb'r hP'r; (try simp only [List.map_cons, List.map_nil] at hb'r); obtain ⟨⟨d'r, t'r, e0'r, hd1, hd2⟩, hk'r, n'r, r'r, t1'r, t2'r, e2'r, cs'r, e'r, hp1, hp2, hz2⟩ := hP'r; subst e0'r; (have N'r := news_turn2 (by assumption) hk'r (by k_upd) (by k_upd) hp1 hp2); (try k_sweep)))) | ((k_here; (try ((fail_if_success (fail_if_success k_fold)); refine (let qk := _; (?_ : wpAny _ _ _ qk _ _)))); k_dflt (refine' Spec.calm (draw_spec (by first | assumption | omega) (by assumption) (by assumption) (by first | assumption | omega)) ?B ?F ?X ?T rfl rfl rfl rfl (Nat.le_of_ble_eq_true rfl) (Nat.le_of_ble_eq_true rfl) ?N ?hR ?_; ((case B => assumption); (case F => k_asm); (case X => k_asm); (case T => k_asm)); (case N => exact news2 (by assumption) (by k_mem) (by k_mem)); (case hR => exact fun _ _ h => h); intro v'r h'r tk'r F'r hb'r hP'r; (try simp only [List.map_cons, List.map_nil] at hb'r); obtain ⟨⟨d'r, t'r, e0'r, hd1, hd2⟩, hk'r, n'r, r'r, t1'r, t2'r, e2'r, cs'r, e'r, hp1, hp2, hz2⟩ := DrawP.to hb'r hP'r; subst e0'r; (have N'r := news_turn2 (by assumption) hk'r (by k_upd) (by k_upd) hp1 hp2); (try k_sweep))))) | ((with_reducible show LCg.CompEnd _ _ _ _ _ _ _ _ _ _ _ _ _ _); k_dflt (refine Side.out ?_)) | walk1 | (dsimp only; walk1) | (dsimp only [mA]; walk1) | (dsimp only [mE]; walk1) | (dsimp only [mA, mE]; walk1) | (leave1; (try dsimp only))))
    refine Side.mk ?_
    (try k_unfold)
    (try dsimp only)
    rename News _ _ _ _ => N9
    rename Fr _ _ _ _ => F9
    exact ⟨_, _, _, rfl, F9, pen_last N9, hoff, trivial, _, _, _, _, _, _, _, rfl, by assumption, parts_snoc hlen hps (by assumption)⟩
  · intro D' C' h tk m' ys news' F N o1 hn hC₀ hCL hCD offC hJ
    refine xE7_3 hJ ?_; (try clear hJ); intro nn rr a1 b1 c1 cc ee zq4' hcc zq5'; subst zq4'; refine xE1_3 zq5' ?_; clear zq5'; intro ps zq6' hlen hps; subst zq6'
    refine post_assignP rfl (by with_unfolding_all rfl) (by rfl) F N hn hC₀ hCL hCD offC fun h₂ F₂ N₂ => ?_
    (try dsimp only)
    have hpi : PartsIn 8 4 ps := ⟨hps, by have := hT.size; omega⟩
    simp only [LCg.Off1, and_true] at o1
    have hts3 := hT.size
    clear hlen hps
    (repeat' (first | ((with_reducible first | refine nextN ?_ | refine nextR ?_); (try dsimp only)) | (k_unfold; (try dsimp only)) | (k_end; kc_close) | ((with_reducible first | show wpAny _ _ (exec _ _) _ _ _ | show wpAny _ _ (eval (Expr.Call ..) _) _ _ _ | show wpAny _ _ (eval (Expr.BinOp ..) _) _ _ _ | show wpAny _ _ (eval (Expr.Subscript ..) _) _ _ _ | show wpAny _ _ (eval (Expr.List ..) _) _ _ _ | show wpAny _ _ (eval (Expr.Tuple ..) _) _ _ _); (fail_if_success (fail_if_success k_fold)); refine (let qk := _; (?_ : wpAny _ _ _ qk _ _))) | ((with_reducible refine execsN ?_); (try k_gentoks)) | ((with_reducible refine args_cons ?_ ?he); (case he => exact rfl)) | ((with_reducible show wpAny _ _ (call (Value.builtin "len") _ _) _ _ _); (k_here; (with_reducible show wpAny _ _ (call (Value.builtin "len") [Value.ref _]) _ _ _); k_dflt (refine' PyProof.Rows.len_list ?hl ?hz ?_; (case hl => exact News.isList (by k_asm) (by k_mem)); (case hz => exact fit3 (by assumption))))) | ((with_reducible show wpAny _ _ (call (Value.ref _) _ _) _ _ _); (k_here; (try ((fail_if_success (fail_if_success k_fold)); refine (let qk := _; (?_ : wpAny _ _ _ qk _ _)))); k_dflt (refine' Spec.calm (draw_spec (by first | assumption | omega) (by assumption) (by assumption) (by first | assumption | omega)) ?B ?F ?X ?T rfl rfl rfl rfl (Nat.le_of_ble_eq_true rfl) (Nat.le_of_ble_eq_true rfl) ?N ?hR ?_; ((case B => assumption); (case F => k_asm); (case X => k_asm); (case T => k_asm)); (case N => exact news2 (by assumption) (by k_mem) (by k_mem)); (case hR => exact fun _ _ h => h); intro v'r h'r tk'r F'r hb'r hP'r; (try simp only [List.map_cons, List.map_nil] at hb'r); obtain ⟨⟨d'r, t'r, e0'r, hd1, hd2⟩, hk'r, n'r, r'r, t1'r, t2'r, e2'r, cs'r, e'r, hp1, hp2, hz2⟩ := DrawP.to hb'r hP'r; subst e0'r; (have N'r := news_turn2 (by assumption) hk'r (by k_upd) (by k_upd) hp1 hp2); (try k_sweep)))) | ((with_reducible show @ite _ _ _ _ _); k_dflt (refine Side.out ?_)) | ((with_reducible show wpAny _ _ (storeName _ _ _) _ _ _); (k_here; k_dflt (refine' storeX_L ?sF ?sN ?_ rfl rfl; (case sF => k_asm); (case sN => k_asm); k_whole; intro hS FS NS; (try k_sweep); refine (let mk := _; (fun (FK : Fr _ _ _ mk) => ?_) FS); clear FS))) | walk1 | (dsimp only; walk1) | (dsimp only [mA]; walk1) | (dsimp only [mE]; walk1) | (dsimp only [mA, mE]; walk1) | (leave1; (try dsimp only))))
    refine Side.mk (ite_join ?_ ?_ fun x tx kx hx0 hx1 => ?_)
    · (repeat' (first | ((with_reducible first | refine nextN ?_ | refine nextR ?_); (try dsimp only)) | (k_unfold; (try dsimp only)) | (k_end; kc_close) | ((with_reducible first | show wpAny _ _ (exec _ _) _ _ _ | show wpAny _ _ (eval (Expr.Call ..) _) _ _ _ | show wpAny _ _ (eval (Expr.BinOp ..) _) _ _ _ | show wpAny _ _ (eval (Expr.Subscript ..) _) _ _ _ | show wpAny _ _ (eval (Expr.List ..) _) _ _ _ | show wpAny _ _ (eval (Expr.Tuple ..) _) _ _ _); (fail_if_success (fail_if_success k_fold)); refine (let qk := _; (?_ : wpAny _ _ _ qk _ _))) | ((with_reducible refine execsN ?_); (try k_gentoks)) | ((with_reducible refine args_cons ?_ ?he); (case he => exact rfl)) | walk1 | (dsimp only; walk1) | (dsimp only [mA]; walk1) | (dsimp only [mE]; walk1) | (dsimp only [mA, mE]; walk1) | (leave1; (try dsimp only))))
      exact xI3_4 _ _ _ rfl (by omega) (by omega) rfl
    · (repeat' (first | ((with_reducible first | refine nextN ?_ | refine nextR ?_); (try dsimp only)) | (k_unfold; (try dsimp only)) | (k_end; kc_close) | ((with_reducible first | show wpAny _ _ (exec _ _) _ _ _ | show wpAny _ _ (eval (Expr.Call ..) _) _ _ _ | show wpAny _ _ (eval (Expr.BinOp ..) _) _ _ _ | show wpAny _ _ (eval (Expr.Subscript ..) _) _ _ _ | show wpAny _ _ (eval (Expr.List ..) _) _ _ _ | show wpAny _ _ (eval (Expr.Tuple ..) _) _ _ _); (fail_if_success (fail_if_success k_fold)); refine (let qk := _; (?_ : wpAny _ _ _ qk _ _))) | ((with_reducible refine execsN ?_); (try k_gentoks)) | ((with_reducible refine args_cons ?_ ?he); (case he => exact rfl)) | walk1 | (dsimp only; walk1) | (dsimp only [mA]; walk1) | (dsimp only [mE]; walk1) | (dsimp only [mA, mE]; walk1) | (leave1; (try dsimp only))))
      exact xI3_4 _ _ _ rfl (by omega) (by omega) rfl
    (try dsimp only)
    (repeat' (first | ((with_reducible first | refine nextN ?_ | refine nextR ?_); (try dsimp only)) | (k_unfold; (try dsimp only)) | (k_end; kc_close) | ((with_reducible first | show wpAny _ _ (exec _ _) _ _ _ | show wpAny _ _ (eval (Expr.Call ..) _) _ _ _ | show wpAny _ _ (eval (Expr.BinOp ..) _) _ _ _ | show wpAny _ _ (eval (Expr.Subscript ..) _) _ _ _ | show wpAny _ _ (eval (Expr.List ..) _) _ _ _ | show wpAny _ _ (eval (Expr.Tuple ..) _) _ _ _); (fail_if_success (fail_if_success k_fold)); refine (let qk := _; (?_ : wpAny _ _ _ qk _ _))) | ((with_reducible refine execsN ?_); (try k_gentoks)) | ((with_reducible refine args_cons ?_ ?he); (case he => exact rfl)) | ((with_reducible show wpAny _ _ (exec (Stmt.For (Expr.Tuple ..) (Expr.Call ..) ..) _) _ _ _); (k_here; (try ((fail_if_success (fail_if_success k_fold)); refine (let qk := _; (?_ : wpAny _ _ _ qk _ _)))); (rename TagL _ _ _ _ => hT'r); (rcases TagL.out hT'r with e4 | e4 | e4 | e4 <;> (clear hT'r; subst e4)))) | ((with_reducible show wpAny _ _ (binaryOp Operator.Add (Value.bytes ..) (Value.bytes ..)) _ _ _); (k_here; k_dflt (refine' add_sz ?h1 ?h2 ?hz ?_; (case h1 => (first | assumption | exact sz_self _)); (case h2 => (first | assumption | exact sz_self _)); (case hz => exact rfl)); intro z'r t'r k'r hs'r)) | ((with_reducible show wpAny _ _ (call (Value.builtin "len") _ _) _ _ _); (k_here; (with_reducible show wpAny _ _ (call (Value.builtin "len") [Value.ref _]) _ _ _); k_dflt (refine' PyProof.Rows.len_list ?hl ?hz ?_; (case hl => exact News.isList (by k_asm) (by k_mem)); (case hz => exact fit3 (by assumption))))) | ((with_reducible show wpAny _ _ (call (Value.builtin "bytes.join") _ _) _ _ _); (k_here; k_dflt (refine' join_sz ?N ?hl ?hp ?hz ?_; (case N => k_asm); (case hl => k_mem); (case hp => assumption); (case hz => exact rfl)); intro b'r t'r k'r hs'r)) | ((with_reducible show wpAny _ _ (getMethod (Value.bytes ..) _ _) _ _ _); (k_here; k_dflt (refine join_method ?_))) | ((with_reducible show wpAny _ _ (call (Value.ref _) _ _) _ _ _); (k_here; (try ((fail_if_success (fail_if_success k_fold)); refine (let qk := _; (?_ : wpAny _ _ _ qk _ _)))); (try dsimp only); k_dflt (refine' Spec.calm (row_spec2 ?hI ?hn1 ?hz1) ?B ?F ?X ?T rfl rfl rfl rfl (Nat.le_of_ble_eq_true rfl) (Nat.le_of_ble_eq_true rfl) ?N ?hR ?_; ((case B => assumption); (case F => k_asm); (case X => k_asm); (case T => k_asm)); (case N => exact news1 (by assumption) (by k_mem)); (case hI => ((repeat' (first | exact IntsLe.nil | assumption | refine IntsLe.cons (by decide) (by decide) ?_ | refine IntsLe.cons (by assumption) (by assumption) ?_ | refine IntsLe.cons (Int.natCast_nonneg _) (nat_le3 (by first | assumption | exact Nat.le_of_ble_eq_true rfl)) ?_ | refine IntsLe.cons (beg_ge (by decide)) (beg_le (by first | assumption | exact Nat.le_of_ble_eq_true rfl) (by decide)) ?_ | refine IntsLe.cons (by omega) (by omega) ?_)))); (case hn1 => ((repeat' (first | assumption | exact LenIn.nil | apply LenIn.cons | apply LenIn.append)))); (case hz1 => exact rfl); (case hR => exact fun _ _ h => h); intro v'r h'r tk'r F'r hb'r hP'r; (try simp only [List.map_cons, List.map_nil] at hb'r); obtain ⟨b'r, t'r, e0'r, hsz'r, hk'r⟩ := hP'r; subst e0'r; (have N'r := news_same (by assumption) hk'r); (try dsimp only at N'r); (try k_sweep)))) | ((with_reducible show wpAny _ _ (storeName _ _ _) _ _ _); (k_here; k_dflt (refine' storeX_L ?sF ?sN ?_ rfl rfl; (case sF => k_asm); (case sN => k_asm); k_whole; intro hS FS NS; (try k_sweep); refine (let mk := _; (fun (FK : Fr _ _ _ mk) => ?_) FS); clear FS))) | walk1 | (dsimp only; walk1) | (dsimp only [mA]; walk1) | (dsimp only [mE]; walk1) | (dsimp only [mA, mE]; walk1) | (leave1; (try dsimp only))))
    all_goals
      (try k_unfold)
      (try dsimp only)
      rename News _ _ _ _ => N9
      rename Fr _ _ _ _ => F9
      refine ends_ret (by assumption) F9 (P := _) ?_
      exact ⟨⟨_, _, rfl, Sz.weak (by assumption) rfl rfl⟩, pen_to2 (by assumption) F9 N9 (by k_mem) (by k_mem) (by assumption)⟩
end
section
open PySem.Calls
def SpecB (w : World) (f : Addr) (D U : Nat) (vs : List Value) (rd : List (Addr × Obj)) (P : Heap → Heap → Value → Prop) (R : Str → Int → Prop) : Prop :=
  ∀ (p : Program) (loose : List Str) (mean : ExcName → Option Value) (mg mb : Str → Option Value) (H : Heap) (A : Around) (l : List Env) (s : Shared) (Q E : Value → Shared → Prop),
    Sits w p loose mean mg mb H A l s.heap D U → (∀ q ∈ rd, s.heap.get? q.1 = some q.2) →
    (∀ v h' tk', Back [] s.heap h' → P s.heap h' v → Q v { s with heap := h', toks := tk' }) →
    (∀ e h' tk' what pl, Thrown l [] s.heap h' e what pl → R what pl → E (.ref e) { s with heap := h', toks := tk' }) →
    wpAny (model rw_pb0183_01.row.prog w) A (call (.ref f) vs) Q E s
section
variable {w : World} {D U : Nat} {f : Addr} {vs : List Value} {rd : List (Addr × Obj)} {P : Heap → Heap → Value → Prop} {R : Str → Int → Prop}
theorem enterB {name qual : Str} {params : Arguments} {body : List Stmt} {scope : Scope} {dV kV doc pm cdv ct oc : Value} {an od : Option Addr} {osl : Array (Option Value)} {binds : List (Str × Value)}
    (ho : (KK w.params).lookup f = some ⟨oc, od, .func (fnOf name qual params body scope dV kV doc pm an cdv ct), osl⟩) (hcd : codeIn (KK w.params) cdv qual = true) (hD : D < recursionLimit)
    (hbind : ∀ s : Shared, (KK w.params).In s.heap → BindsTo s (fnOf name qual params body scope dV kV doc pm an cdv ct) ⟨vs, []⟩ binds) (hloc : ∀ y ∈ binds, scope.names.lookup y.1 = some .local)
    (h : ∀ {p : Program} {loose : List Str} {mean : ExcName → Option Value} {mg mb : Str → Option Value} {gd : Option (List Code)} {l : List Env} {s : Shared} {Q E : Value → Shared → Prop} (g : Heap) (L : Addr) (h₁ : Heap),
      Fr g L h₁ (fun y => binds.reverse.lookup y) → Below (Aat D U gd l) noHeap l g → (KK w.params).In g → Top p loose mean mg mb g → s.heap.objs.size ≤ L → (∀ b o, s.heap.get? b = some o → g.get? b = some o) →
      (∀ b o, g.get? b = some o → s.heap.get? b = some o) → (∀ q ∈ rd, g.get? q.1 = some q.2) →
      Ends l (envOf qual scope L f cdv) g L s P R Q (fun e s' => wpAny (model rw_pb0183_01.row.prog w) ((Aat D U gd l).deeper (envOf qual scope L f cdv)) (leaving (envOf qual scope L f cdv) e) (fun _ s'' => E e s'') (fun e' s'' => E e' s'') s') →
      wpAny (model rw_pb0183_01.row.prog w) ((Aat D U gd l).deeper (envOf qual scope L f cdv)) (execs body (envOf qual scope L f cdv))
        (fun fl s' => Q (match fl with | .ret v => v | _ => .none) s')
        (fun e s' => wpAny (model rw_pb0183_01.row.prog w) ((Aat D U gd l).deeper (envOf qual scope L f cdv)) (leaving (envOf qual scope L f cdv) e) (fun _ s'' => E e s'') (fun e' s'' => E e' s'') s')
        { s with heap := h₁, toks := s.toks + binds.length })
    (hcell : ∀ x ∈ scope.names, x.2 ≠ .cell) (hco : scope.isCoroutine = false := by rfl) (hgen : scope.isGenerator = false := by rfl) (hk : scope.kind = .function := by rfl) : SpecB w f D U vs rd P R := by
  intro p loose mean mg mb H A l s Q E S hrd hret hexc
  obtain ⟨hd, dp, fr, gd, un⟩ := A
  obtain ⟨X, T, st, zq1', zq2', dep, unn, fs⟩ := S; subst zq1'; subst zq2'
  dsimp only at dep unn
  refine wpAny_up (B := Aat D U gd l) ?_ rfl dep rfl rfl unn
  have Xs : (KK w.params).In s.heap := X.keeps st
  have stg : H.StaysIn (hideAll s.heap []) := fun b o q => hideAll_get _ (st b o q) fun hm => nomatch hm
  refine wpAny_call (codeAny_call_def (fd := fnOf name qual params body scope dV kV doc pm an cdv ct) (body := body) (binds := binds) hD (Xs _ _ ho) rfl (T.nolimit.keeps st) (codeRec_of Xs hcd) rfl (hbind s Xs) hcell hloc (fun h₁ hns hk₁ => ?_) hco hgen hk)
  have hgk : ∀ b o, s.heap.get? b = some o → (hideAll s.heap []).get? b = some o := fun b o q => hideAll_get _ q fun hm => nomatch hm
  have F : Fr (hideAll s.heap []) s.heap.objs.size h₁ (fun y => binds.reverse.lookup y) := ⟨hns, fun b o q => hk₁ b o (of_hideAll _ q), Nat.le_of_eq (hideAll_size _ _)⟩
  have BF : (hideAll s.heap []).FunFrames noHeap l := funFrames_hideAll fs fun env he b hb hf => nomatch hb
  refine h (gd := gd) (l := l) (s := s) (Q := Q) (E := E) _ s.heap.objs.size h₁ F ⟨rfl, fun b o q => (by cases q), BF⟩ (X.keeps stg) (T.keeps stg) (Nat.le_refl _) hgk (fun b o q => of_hideAll _ q) (fun q hq => hgk _ _ (hrd q hq)) ⟨fun v h' tk' m F' hP => ?_, fun e h₂ h' tk' m fp' what pl F' hf' hT hR => ?_⟩
  · exact hret v h' tk' ⟨fun b o q _ => F'.keep b o (hgk b o q), Nat.le_of_lt F'.ns.lt⟩ hP
  · exact Thrown.leave (s := { s with heap := h', toks := tk' }) (A := (Aat D U gd l).deeper (envOf qual scope s.heap.objs.size f cdv)) rfl rfl hk BF (fun b o q _ => hgk b o q) (Nat.le_refl _) F' hf' hT fun h₃ hT' => hexc e h₃ tk' what pl hT' hR
end
theorem SpecB.calm {w : World} {A A₀ : Around} {p : Program} {loose : List Str} {mean : ExcName → Option Value} {mg mb : Str → Option Value} {l : List Env} {env : Env} {g h : Heap} {L : Addr} {s₀ : Shared} {Q₂ E : Value → Shared → Prop} {tk : Nat} {m : Str → Option Value}
    {f : Addr} {D U : Nat} {vs : List Value} {rd : List (Addr × Obj)} {P₂ : Heap → Heap → Value → Prop}
    (C : SpecB w f D U vs rd P₂ (fun _ _ => False)) (B : Below A₀ noHeap l g) (F : Fr g L h m) (X : (KK w.params).In g) (T : Top p loose mean mg mb g) (hA : A.frames = some (env :: l)) (hf : env.frame = some L) (hke : env.scope.kind = .function)
    (hh : A.handled = none) (hd : A.depth ≤ D) (hu : A.units ≤ U) (hrd : ∀ q ∈ rd, g.get? q.1 = some q.2)
    (hret : ∀ v h' tk', Fr g L h' m → (∀ b o, h.get? b = some o → h'.get? b = some o) → P₂ h h' v → Q₂ v { s₀ with heap := h', toks := tk' }) :
    wpAny (model rw_pb0183_01.row.prog w) A (call (.ref f) vs) Q₂ E { s₀ with heap := h, toks := tk } := by
  refine C _ _ _ _ _ g _ _ { s₀ with heap := h, toks := tk } _ _ (sits_of (s := { s₀ with heap := h, toks := tk }) B F X T hA hf hke hh hd hu) (fun q hq => F.keep _ _ (hrd q hq)) (fun v h' tk' hb hp => hret v h' tk' (Fr.back (fp := []) F hb fun _ h => nomatch h) (fun b o q => hb.keep b o q fun h => nomatch h) hp) fun _ _ _ _ _ _ hr => hr.elim
def PenNew (h h' : Heap) (v : Value) : Prop := ∃ P C n r t1 t2 e2 cs e, v = .ref P ∧ @LT.lt Nat _ C P ∧ h.get? P = none ∧ h.get? C = none ∧ h'.get? P = some (penO C n r t1 t2 e2) ∧ h'.get? C = some (cellsO cs e) ∧ cs.length ≤ 64
theorem ints_cell {vs : List Value} {ns : List Int} (h : IntsAre vs ns) : ∀ v ∈ vs, ∃ x t, v = .int x t := by
  induction h with
  | nil => exact fun _ h => nomatch h
  | cons n t _ ih => exact List.forall_mem_cons.mpr ⟨⟨n, t, rfl⟩, ih⟩
theorem cells_snoc {cs : List (Int × Tok)} {x : Int} {t : Tok} {i : Nat} (h : cs.length = i) : ∃ cs', List.map cellV cs ++ [.int x t] = List.map cellV cs' ∧ cs'.length = i + 1 := ⟨cs ++ [(x, t)], by rw [List.map_append]; rfl, by rw [List.length_append, h]; rfl⟩
theorem pen_new {s g h' : Heap} {L P C : Addr} {m : Str → Option Value} {led fp : List (Addr × Obj)} {n r : Int} {t1 t2 : Tok} {e2 e : Nat} {cs : List (Int × Tok)} (hgk : ∀ b o, s.get? b = some o → b ∉ fp.map (·.1) → g.get? b = some o) (hfp : ∀ q ∈ fp, s.get? q.1 = some q.2) (F : Fr g L h' m) (N : News g L h' led)
    (h1 : (P, penO C n r t1 t2 e2) ∈ led) (h2 : (C, cellsO cs e) ∈ led) (h3 : ∀ q ∈ fp, q ∈ led) (hlt : @LT.lt Nat _ C P) (n1 : P ∉ fp.map (·.1)) (n2 : C ∉ fp.map (·.1)) (hz : cs.length ≤ 64) : PenNew s h' (.ref P) ∧ ∀ b o, s.get? b = some o → h'.get? b = some o :=
  ⟨⟨P, C, n, r, t1, t2, e2, cs, e, rfl, hlt, fresh_of hgk N h1 n1, fresh_of hgk N h2 n2, N.get h1, N.get h2, hz⟩, kept_all hgk hfp F N h3⟩
theorem not_one2 {a b : Addr} {o : Obj} (h : @Ne Nat b a) : a ∉ [(b, o)].map (·.1) := by
  simp only [List.map_cons, List.map_nil, List.mem_singleton]
  exact fun e => h e.symm
theorem not_one {a b : Addr} {o : Obj} (h : @LT.lt Nat _ b a) : a ∉ [(b, o)].map (·.1) := by
  simp only [List.map_cons, List.map_nil, List.mem_singleton]
  exact fun e => Nat.lt_irrefl _ (e ▸ h)
theorem pen_newB {s g h' : Heap} {L P C : Addr} {m : Str → Option Value} {led : List (Addr × Obj)} {n r : Int} {t1 t2 : Tok} {e2 e : Nat} {cs : List (Int × Tok)} (hgk : ∀ b o, s.get? b = some o → g.get? b = some o) (F : Fr g L h' m) (N : News g L h' led)
    (h1 : (P, penO C n r t1 t2 e2) ∈ led) (h2 : (C, cellsO cs e) ∈ led) (hlt : @LT.lt Nat _ C P) (hz : cs.length ≤ 64) : PenNew s h' (.ref P) ∧ ∀ b o, s.get? b = some o → h'.get? b = some o :=
  ⟨⟨P, C, n, r, t1, t2, e2, cs, e, rfl, hlt, fresh_of (fp := []) (fun b o q _ => hgk b o q) N h1 (fun h => nomatch h), fresh_of (fp := []) (fun b o q _ => hgk b o q) N h2 (fun h => nomatch h), N.get h1, N.get h2, hz⟩, fun b o q => F.keep b o (hgk b o q)⟩
theorem pen_spec {w : World} {S : Addr} {o : Obj} {its : List Value} {ns : List Int} (hc : o.cls = .type "list") (hd : ∃ n, o.data = .seq (List.toArray its) n) (hI : IntsAre its ns) (hz : ns.length ≤ 63) :
    SpecB w 318 800 800 [.ref S] [(S, o)] (fun h h' v => PenNew h h' v ∧ ∀ b o, h.get? b = some o → h'.get? b = some o) (fun _ _ => False) := by
  refine' enterB ?ho ?hcd ?hD ?hb ?hl ?hbody ?hc ?c1 ?c2 ?c3; (case ho => exact rfl); (case hcd => exact rfl); (case hD => decide); (case hb => exact fun s X => BindsTo.of_eq rfl); (case hl => exact locs rfl); (case hc => decide); (case c1 => exact rfl); (case c2 => exact rfl); (case c3 => exact rfl)
  intro p loose mean mg mb gd l s Q E g L h₁ F B X T hL hgk hgs hrd hX
  have hSg : g.IsList S (List.toArray its) := ⟨o, hrd (S, o) (.head _), hc, hd⟩
  have N : News g L h₁ [] := fun _ h => nomatch h
  revert X
  k_fill
  intro X
  (try dsimp only)
  (try k_fold)
  (repeat' (first | ((with_reducible first | refine nextN ?_ | refine nextR ?_); (try dsimp only)) | (k_unfold; (try dsimp only)) | (k_end; kc_close) | ((with_reducible first | show wpAny _ _ (exec _ _) _ _ _ | show wpAny _ _ (eval (Expr.Call ..) _) _ _ _ | show wpAny _ _ (eval (Expr.BinOp ..) _) _ _ _ | show wpAny _ _ (eval (Expr.Subscript ..) _) _ _ _ | show wpAny _ _ (eval (Expr.List ..) _) _ _ _ | show wpAny _ _ (eval (Expr.Tuple ..) _) _ _ _); (fail_if_success (fail_if_success k_fold)); refine (let qk := _; (?_ : wpAny _ _ _ qk _ _))) | ((with_reducible refine execsN ?_); (try k_gentoks)) | ((with_reducible refine args_cons ?_ ?he); (case he => exact rfl)) | ((with_reducible show wpAny _ _ (eval (Expr.ListComp ..) _) _ _ _); (k_here; k_dflt (refine comp_held (by k_asm) (by with_unfolding_all rfl) (by decide) (by rfl) (by decide) (by rfl) ?_))) | walk1 | (dsimp only; walk1) | (dsimp only [mA]; walk1) | (dsimp only [mE]; walk1) | (dsimp only [mA, mE]; walk1) | (leave1; (try dsimp only))))
  rename News _ _ _ _ => N9
  rename Fr _ _ _ _ => F9
  rename IntsAre _ (List.take 40 ns) => hI9
  have hl9 := hI9.length
  rw [List.length_take] at hl9
  refine Side.mk (src_list (by rfl) F9 N9 (by k_mem) (by rw [List.size_toArray, sizeLine_eq]; omega) fun g' => ?_)
  refine comp_turns (fun i ys news => Side (news = _ ∧ ∃ cs, ys = List.map cellV cs ∧ cs.length = i)) ?_ ?_ _ 0 [] _ (Nat.zero_add _) ⟨rfl, [], rfl, rfl⟩
  · intro i v ys news I oI C oC D m₂ h tk E' hi hv hJ hC hx F N off ne
    refine xE0_2 (hJ.out) ?_; intro zq3' zq4'; subst zq3'; refine xE1_2 zq4' ?_; clear zq4'; intro cs zq5' hlen; subst zq5'
    refine xE2_1 (ints_cell hI9 v (List.mem_of_getElem? (i := i) (by simpa using hv))) ?_; intro x t zq6'; subst zq6'
    have hoff := off
    simp only [LCg.Off3, and_true] at off
    (repeat' (first | ((with_reducible first | refine nextN ?_ | refine nextR ?_); (try dsimp only)) | (k_unfold; (try dsimp only)) | (k_end; kc_close) | ((with_reducible first | show wpAny _ _ (exec _ _) _ _ _ | show wpAny _ _ (eval (Expr.Call ..) _) _ _ _ | show wpAny _ _ (eval (Expr.BinOp ..) _) _ _ _ | show wpAny _ _ (eval (Expr.Subscript ..) _) _ _ _ | show wpAny _ _ (eval (Expr.List ..) _) _ _ _ | show wpAny _ _ (eval (Expr.Tuple ..) _) _ _ _); (fail_if_success (fail_if_success k_fold)); refine (let qk := _; (?_ : wpAny _ _ _ qk _ _))) | ((with_reducible refine execsN ?_); (try k_gentoks)) | ((with_reducible refine args_cons ?_ ?he); (case he => exact rfl)) | ((with_reducible show LCg.CompEnd _ _ _ _ _ _ _ _ _ _ _ _ _ _); k_dflt (refine Side.out ?_)) | walk1 | (dsimp only; walk1) | (dsimp only [mA]; walk1) | (dsimp only [mE]; walk1) | (dsimp only [mA, mE]; walk1) | (leave1; (try dsimp only))))
    all_goals (refine Side.mk ?_)
    all_goals
      (try k_unfold)
      (try dsimp only)
      rename News _ _ _ _ => N9
      rename Fr _ _ _ _ => F9
      exact xI3_6 _ _ _ rfl F9 N9 hoff (.inr ⟨_, .head _, rfl, 0, rfl⟩) (Side.mk ⟨rfl, cells_snoc hlen⟩)
  · intro ys news hJ
    refine xE0_2 (hJ.out) ?_; intro zq7' zq8'; subst zq7'; refine xE1_2 zq8' ?_; clear zq8'; intro cs zq9' hlen; subst zq9'
    rw [List.size_toArray] at hlen
    have hz9 : cs.length ≤ 64 := by omega
    intro D h tk F N o1
    simp only [LCg.Off1, and_true] at o1
    (repeat' (first | ((with_reducible first | refine nextN ?_ | refine nextR ?_); (try dsimp only)) | (k_unfold; (try dsimp only)) | (k_end; kc_close) | ((with_reducible first | show wpAny _ _ (exec _ _) _ _ _ | show wpAny _ _ (eval (Expr.Call ..) _) _ _ _ | show wpAny _ _ (eval (Expr.BinOp ..) _) _ _ _ | show wpAny _ _ (eval (Expr.Subscript ..) _) _ _ _ | show wpAny _ _ (eval (Expr.List ..) _) _ _ _ | show wpAny _ _ (eval (Expr.Tuple ..) _) _ _ _); (fail_if_success (fail_if_success k_fold)); refine (let qk := _; (?_ : wpAny _ _ _ qk _ _))) | ((with_reducible refine execsN ?_); (try k_gentoks)) | ((with_reducible refine args_cons ?_ ?he); (case he => exact rfl)) | walk1 | (dsimp only; walk1) | (dsimp only [mA]; walk1) | (dsimp only [mE]; walk1) | (dsimp only [mA, mE]; walk1) | (leave1; (try dsimp only))))
    (try k_unfold)
    (try dsimp only)
    rename News _ _ _ _ => N9
    rename Fr _ _ _ _ => F9
    refine ends_ret (by assumption) F9 (P := _) ?_
    exact pen_newB (by assumption) F9 N9 (by k_mem) (by k_mem) (by omega) hz9
end
section
open PySem.Calls
noncomputable abbrev tup2O (t : Tok) (x : Value) (n : Nat) : Obj := { cls := .type "tuple", data := .seq #[.str "told" t, x] n }
noncomputable abbrev tup3O (t : Tok) (what : Str) (t2 : Tok) (pl : Int) (t3 : Tok) (n : Nat) : Obj := { cls := .type "tuple", data := .seq #[.str "fault" t, .str what t2, .int pl t3] n }
theorem moved_told {w : World} {T : Addr} {t u : Tok} {x : Value} {n : Nat} {far : Int} :
    Spec w 387 800 800 [.ref T, .int far u] [(T, tup2O t x n)] (fun h h' v => v = .ref T ∧ ∀ b o, h.get? b = some o → h'.get? b = some o) (fun _ _ => False) := by
  ((refine' enter ?ho ?hcd ?hD ?hb ?hl ?_ ?hc ?c1 ?c2 ?c3; (case ho => exact rfl); (case hcd => exact rfl); (case hD => decide); (case hb => exact fun s'r X'r => BindsTo.of_eq rfl); (case hl => exact locs rfl); (case hc => decide); (case c1 => exact rfl); (case c2 => exact rfl); (case c3 => exact rfl); intro p'r loose'r mean'r mg'r mb'r gd'r l'r s'r Q'r E'r g'r L'r h₁'r F'r N'r B'r X'r T'r hL'r hgk'r hgs'r hfp'r hX'r; (try (refine (let mk := _; (fun (FK : Fr _ _ _ mk) => ?_) F'r); clear F'r)); revert X'r; k_fill; intro X'r; (try dsimp only); (try (refine (let mA := _; let mE := _; (?_ : wpAny _ mA (execs _ mE) _ _ _)))); k_fold))
  (repeat' (first | ((with_reducible first | refine nextN ?_ | refine nextR ?_); (try dsimp only)) | (k_unfold; (try dsimp only)) | (k_end; kc_close) | ((with_reducible first | show wpAny _ _ (exec _ _) _ _ _ | show wpAny _ _ (eval (Expr.Call ..) _) _ _ _ | show wpAny _ _ (eval (Expr.BinOp ..) _) _ _ _ | show wpAny _ _ (eval (Expr.Subscript ..) _) _ _ _ | show wpAny _ _ (eval (Expr.List ..) _) _ _ _ | show wpAny _ _ (eval (Expr.Tuple ..) _) _ _ _); (fail_if_success (fail_if_success k_fold)); refine (let qk := _; (?_ : wpAny _ _ _ qk _ _))) | ((with_reducible refine execsN ?_); (try k_gentoks)) | ((with_reducible refine args_cons ?_ ?he); (case he => exact rfl)) | walk1 | (dsimp only; walk1) | (dsimp only [mA]; walk1) | (dsimp only [mE]; walk1) | (dsimp only [mA, mE]; walk1) | (leave1; (try dsimp only))))
  (try k_unfold)
  (try dsimp only)
  rename News _ _ _ _ => N9
  rename Fr _ _ _ _ => F9
  refine ends_ret (by assumption) F9 (P := _) ?_
  exact ⟨rfl, kept_all (fp := [(T, tup2O t x n)]) (by assumption) (by assumption) F9 N9 (mem1 (by k_mem))⟩
theorem moved_fault {w : World} {T : Addr} {t t2 t3 u : Tok} {what : Str} {pl : Int} {n : Nat} {far : Int} :
    Spec w 387 800 800 [.ref T, .int far u] [(T, tup3O t what t2 pl t3 n)] (fun h h' v => (∃ D a b c k, v = .ref D ∧ h.get? D = none ∧ h'.get? D = some (tup3O a what b (pl + far) c k)) ∧ ∀ b o, h.get? b = some o → h'.get? b = some o) (fun _ _ => False) := by
  ((refine' enter ?ho ?hcd ?hD ?hb ?hl ?_ ?hc ?c1 ?c2 ?c3; (case ho => exact rfl); (case hcd => exact rfl); (case hD => decide); (case hb => exact fun s'r X'r => BindsTo.of_eq rfl); (case hl => exact locs rfl); (case hc => decide); (case c1 => exact rfl); (case c2 => exact rfl); (case c3 => exact rfl); intro p'r loose'r mean'r mg'r mb'r gd'r l'r s'r Q'r E'r g'r L'r h₁'r F'r N'r B'r X'r T'r hL'r hgk'r hgs'r hfp'r hX'r; (try (refine (let mk := _; (fun (FK : Fr _ _ _ mk) => ?_) F'r); clear F'r)); revert X'r; k_fill; intro X'r; (try dsimp only); (try (refine (let mA := _; let mE := _; (?_ : wpAny _ mA (execs _ mE) _ _ _)))); k_fold))
  (repeat' (first | ((with_reducible first | refine nextN ?_ | refine nextR ?_); (try dsimp only)) | (k_unfold; (try dsimp only)) | (k_end; kc_close) | ((with_reducible first | show wpAny _ _ (exec _ _) _ _ _ | show wpAny _ _ (eval (Expr.Call ..) _) _ _ _ | show wpAny _ _ (eval (Expr.BinOp ..) _) _ _ _ | show wpAny _ _ (eval (Expr.Subscript ..) _) _ _ _ | show wpAny _ _ (eval (Expr.List ..) _) _ _ _ | show wpAny _ _ (eval (Expr.Tuple ..) _) _ _ _); (fail_if_success (fail_if_success k_fold)); refine (let qk := _; (?_ : wpAny _ _ _ qk _ _))) | ((with_reducible refine execsN ?_); (try k_gentoks)) | ((with_reducible refine args_cons ?_ ?he); (case he => exact rfl)) | walk1 | (dsimp only; walk1) | (dsimp only [mA]; walk1) | (dsimp only [mE]; walk1) | (dsimp only [mA, mE]; walk1) | (leave1; (try dsimp only))))
  (try k_unfold)
  (try dsimp only)
  rename News _ _ _ _ => N9
  rename Fr _ _ _ _ => F9
  refine ends_ret (by assumption) F9 (P := _) ?_
  exact ⟨⟨_, _, _, _, _, rfl, fresh_of (fp := [(T, tup3O t what t2 pl t3 n)]) (by assumption) N9 (by k_mem) (not_one (by omega)), N9.get (by k_mem)⟩, kept_all (fp := [(T, tup3O t what t2 pl t3 n)]) (by assumption) (by assumption) F9 N9 (mem1 (by k_mem))⟩
end
section
open PySem.Calls
inductive TabSt : List (Addr × Obj) → Prop
  | fresh : TabSt [((370 : Addr), tabObj #[])]
  | full {ps : Array Value} {c0 c1 c2 c3 c4 : Addr} {o0 o1 o2 o3 o4 : Obj} : FullTab ps c0 c1 c2 c3 c4 → CodeOk o0 → CodeOk o1 → CodeOk o2 → CodeOk o3 → CodeOk o4 → TabSt [(370, tabObj ps), (c0, o0), (c1, o1), (c2, o2), (c3, o3), (c4, o4)]
theorem TabSt.fields {T : List (Addr × Obj)} (h : TabSt T) : ∀ q ∈ T, ∃ vs, q.2.data = .fields vs := by
  cases h with
  | fresh => exact List.forall_mem_cons.mpr ⟨⟨_, rfl⟩, fun _ h => nomatch h⟩
  | full _ k0 k1 k2 k3 k4 =>
    refine xE2_2 k0 ?_; (try clear k0); intro _ _ p0 _
    refine xE2_2 k1 ?_; (try clear k1); intro _ _ p1 _
    refine xE2_2 k2 ?_; (try clear k2); intro _ _ p2 _
    refine xE2_2 k3 ?_; (try clear k3); intro _ _ p3 _
    refine xE2_2 k4 ?_; (try clear k4); intro _ _ p4 _
    exact all6 ⟨_, rfl⟩ ⟨_, p0⟩ ⟨_, p1⟩ ⟨_, p2⟩ ⟨_, p3⟩ ⟨_, p4⟩
def TabTo (T : List (Addr × Obj)) (h h' : Heap) : Prop := ∃ T', TabSt T' ∧ (∀ q ∈ T', h'.get? q.1 = some q.2) ∧ ∀ q ∈ T', q.1 ∈ T.map (·.1) ∨ h.get? q.1 = none
theorem readers_any {w : World} {T : List (Addr × Obj)} {b : Array UInt8} {ks : List Int} {a : Int} {t1 t2 : Tok} (hT : TabSt T) (hb : KBw.bInts b = ks) (hz3 : ks.length ≤ 300) (ha : 0 ≤ a) :
    SpecT w 375 700 700 [.bytes b t1, .int a t2] T (fun h h' v => ReadP ks a h h' v ∧ TabTo T h h') := by
  cases hT with
  | fresh =>
    intro p loose mean mg mb H A l s Q E S1 S2 S3 S4
    refine readers_fresh hb (by omega) hz3 ha p loose mean mg mb H A l s Q E S1 S2 S3 fun v h' tk' hB hP => S4 v h' tk' hB ⟨hP.1, ?_⟩
    refine xE10_6 (hP.2) ?_; intro c0 c1 c2 c3 c4 o0 o1 o2 o3 o4 zq1' n0 n1 n2 n3 n4; refine xE0_6 zq1' ?_; clear zq1'; intro h0 zq2' zq3' zq4' zq5' zq6'; refine xE0_2 zq2' ?_; clear zq2'; intro a0 k0; refine xE0_2 zq3' ?_; clear zq3'; intro a1 k1; refine xE0_2 zq4' ?_; clear zq4'; intro a2 k2; refine xE0_2 zq5' ?_; clear zq5'; intro a3 k3; refine xE0_2 zq6' ?_; clear zq6'; intro a4 k4
    exact xI1_3 _ (.full (full_psOf c0 c1 c2 c3 c4) k0 k1 k2 k3 k4) (all6 h0 a0 a1 a2 a3 a4) (all6 (.inl (by simp)) (.inr n0) (.inr n1) (.inr n2) (.inr n3) (.inr n4))
  | full hf k0 k1 k2 k3 k4 =>
    intro p loose mean mg mb H A l s Q E S1 S2 S3 S4
    refine readers_fullG hb (by omega) hz3 ha hf k0 k1 k2 k3 k4 p loose mean mg mb H A l s Q E S1 S2 S3 fun v h' tk' hB hP => S4 v h' tk' hB ⟨hP.1, ?_⟩
    exact xI1_3 _ (.full hf k0 k1 k2 k3 k4) hP.2 (fun q hq => .inl (List.mem_map_of_mem hq))
end
section
open PySem.Calls
noncomputable def lawS : Option (Str × Arguments × List Stmt × Scope) := match topS 36 with
  | .FunctionDef n a b _ _ _ s _ _ _ => some (n, a, b, s)
  | _ => none
section
variable {w : World} {D U : Nat}
theorem enterLaw {name : Str} {params : Arguments} {body : List Stmt} {scope : Scope} {dV kV doc pm cdv ct oc : Value} {an od : Option Addr} {osl : Array (Option Value)} {binds : List (Str × Value)} {p : Program} {loose : List Str} {mean : ExcName → Option Value} {mg mb : Str → Option Value} {s : Shared} {f : Addr} {vs : List Value} {fp : List (Addr × Obj)} {Q E : Value → Shared → Prop} {A : Around}
    (ho : s.heap.get? f = some ⟨oc, od, .func (fnOf name name params body scope dV kV doc pm an cdv ct), osl⟩) (hcd : s.heap.CodeRec cdv name) (hD : D < recursionLimit)
    (hbind : BindsTo s (fnOf name name params body scope dV kV doc pm an cdv ct) ⟨vs, []⟩ binds)
    (hkind : (binds.all fun y => scope.names.lookup y.1 == some .local || scope.names.lookup y.1 == some .cell) = true) (hnd : ((cellsFrom 0 scope.names []).map (·.1)).Nodup)
    (Xg : (KK w.params).In (hideAll s.heap (fp.map (·.1)))) (Tg : Top p loose mean mg mb (hideAll s.heap (fp.map (·.1)))) (Ts : s.heap.NoLimit) (hfp : ∀ q ∈ fp, s.heap.get? q.1 = some q.2)
    (fr : A.frames = some []) (hn : A.handled = none) (dep : A.depth ≤ D) (un : A.units ≤ U)
    (h : ∀ {gd : Option (List Code)} (g : Heap) (L : Addr) (h₁ : Heap) (tk : Nat) (cells : List (Addr × Obj)),
      Fr g L h₁ (bindL (envOfC name scope L f cdv).kindOf binds fun _ => none) → News g L h₁ (cells ++ fp) → CellsAre (bindC (envOfC name scope L f cdv).kindOf binds fun _ => none) (cellsFrom (L + 1) scope.names []) cells →
      (KK w.params).In g → Top p loose mean mg mb g → Below (Aat D U gd []) noHeap [] g → s.heap.objs.size = L → (∀ b o, s.heap.get? b = some o → b ∉ fp.map (·.1) → g.get? b = some o) → (∀ q ∈ fp, q.1 < L) →
      wpAny (model rw_pb0183_01.row.prog w) ((Aat D U gd []).deeper (envOfC name scope L f cdv)) (execs body (envOfC name scope L f cdv))
        (fun fl s' => Q (match fl with | .ret v => v | _ => .none) s')
        (fun e s' => wpAny (model rw_pb0183_01.row.prog w) ((Aat D U gd []).deeper (envOfC name scope L f cdv)) (leaving (envOfC name scope L f cdv) e) (fun _ s'' => E e s'') (fun e' s'' => E e' s'') s')
        { s with heap := h₁, toks := tk })
    (hco : scope.isCoroutine = false := by rfl) (hgen : scope.isGenerator = false := by rfl) (hk : scope.kind = .function := by rfl) : wpAny (model rw_pb0183_01.row.prog w) A (call (.ref f) vs) Q E s := by
  obtain ⟨hd, dp, frm, gd, un'⟩ := A
  dsimp only at fr hn dep un
  subst fr hn
  refine wpAny_up (B := Aat D U gd []) ?_ rfl dep rfl rfl un
  refine wpAny_call (codeAny_call_function hD ho rfl hco hgen rfl hcd (wpAny_mono (hbind _ _ _ _ ?_) (fun _ _ h => h) fun _ _ h => h))
  refine wpAny_newFunctionEnv_cells hk (kindsX hkind _) fun env' he s' x => ?_
  subst he
  refine ⟨Ts.keeps x.toInCall.keep, codeAny_func ?_⟩
  refine xE2_2 (x.done) ?_; intro h₁ tk zq1' _; subst zq1'
  have hk₁ := x.toInCall.keep
  refine xE1_2 (Cl.news (h₀ := s.heap) (Nat.le_refl _) fun n c hm => ⟨x.cell n c (lookup_of_mem_nodup (cellsFrom_names scope.names 0 (s.heap.objs.size + 1) [] [] rfl ▸ hnd) hm), x.above n c hm⟩) ?_; intro cells NC Y
  have F : Fr (hideAll s.heap (fp.map (·.1))) s.heap.objs.size h₁ _ := ⟨x.toInCall.ns, fun b o e => hk₁ b o (of_hideAll _ e), Nat.le_of_eq (hideAll_size _ _)⟩
  refine h (gd := gd) _ s.heap.objs.size h₁ tk cells F (fun q hq => ?_) Y Xg Tg ?_ rfl (fun b o q h1 => hideAll_get _ q h1) (fun q hq => Heap.lt_size (hfp q hq))
  · rcases List.mem_append.mp hq with hq | hq
    · refine xI0_3 ((NC q hq).1) ((NC q hq).2.1) ?_
      cases z : (hideAll s.heap (fp.map (·.1))).get? q.1 with
      | none => rfl
      | some o => have := of_hideAll _ z; rw [(NC q hq).2.2] at this; cases this
    · exact xI0_3 (hk₁ _ _ (hfp q hq)) (Nat.ne_of_lt (Heap.lt_size (hfp q hq))) (hideAll_none _ (List.mem_map_of_mem hq))
  · exact ⟨rfl, (fun b o e => by have z : noHeap.get? b = none := Heap.get?_none_of_le (Nat.zero_le _); rw [z] at e; cases e), trivial⟩
end
def NotF (o : Obj) : Prop := ∀ vs, o.data ≠ .fields vs
def NoF (tl : List (Addr × Obj)) : Prop := ∀ p ∈ tl, NotF p.2
inductive FrontX (U : List (Addr × Obj)) : List (Addr × Obj) → (List (Addr × Obj) → List (Addr × Obj)) → Prop
  | here : FrontX U U (fun x => x)
  | cons {p : Addr × Obj} {r : List (Addr × Obj)} {G : List (Addr × Obj) → List (Addr × Obj)} : (NotF p.2 ∨ ∀ q ∈ U, q.1 ≠ p.1) → FrontX U r G → FrontX U (p :: r) (fun x => p :: G x)
theorem FrontX.sub {U led : List (Addr × Obj)} {G : List (Addr × Obj) → List (Addr × Obj)} (h : FrontX U led G) : ∀ p ∈ U, p ∈ led := by
  induction h with
  | here => exact fun _ h => h
  | cons _ _ ih => exact fun p hp => .tail _ (ih p hp)
theorem FrontX.news {g h h' : Heap} {L : Addr} {U U1 led : List (Addr × Obj)} {G : List (Addr × Obj) → List (Addr × Obj)} (X : FrontX U led G) (N : News g L h led) (hk : ∀ p ∈ led, (NotF p.2 ∨ ∀ q ∈ U, q.1 ≠ p.1) → h'.get? p.1 = some p.2) (N1 : News g L h' U1) : News g L h' (G U1) := by
  induction X with
  | here => exact N1
  | @cons p r G hp _ ih =>
    intro q hq
    rcases List.mem_cons.mp hq with rfl | hq
    · exact ⟨hk _ (.head _) hp, (N _ (.head _)).2⟩
    · exact ih (fun x hx => N x (.tail _ hx)) (fun x hx => hk x (.tail _ hx)) q hq
structure LawT (tl T U : List (Addr × Obj)) : Prop where
  e : U = tl ++ T
  tab : TabSt T
  nof : NoF tl
noncomputable def isSeqO (p : Addr × Obj) : Bool := match p.2.data with
  | .seq .. => true
  | _ => false
theorem DatIn.seqs {tl : List (Addr × Obj)} {v : Value} {d : Dat} (h : DatIn tl v d) : DatIn (tl.filter isSeqO) v d :=
  h.rec (motive_1 := fun v d _ => DatIn (tl.filter isSeqO) v d) (motive_2 := fun vs ds _ => DatAll (tl.filter isSeqO) vs ds) .none .bool .int .str .bytes (fun h1 _ ih => .tuple (List.mem_filter.mpr ⟨h1, rfl⟩) ih) (fun h1 _ ih => .list (List.mem_filter.mpr ⟨h1, rfl⟩) ih) .nil fun _ _ i1 i2 => .cons i1 i2
theorem DatAll.seqs {tl : List (Addr × Obj)} {vs : List Value} {ds : List Dat} (h : DatAll tl vs ds) : DatAll (tl.filter isSeqO) vs ds :=
  h.rec (motive_1 := fun v d _ => DatIn (tl.filter isSeqO) v d) (motive_2 := fun vs ds _ => DatAll (tl.filter isSeqO) vs ds) .none .bool .int .str .bytes (fun h1 _ ih => .tuple (List.mem_filter.mpr ⟨h1, rfl⟩) ih) (fun h1 _ ih => .list (List.mem_filter.mpr ⟨h1, rfl⟩) ih) .nil fun _ _ i1 i2 => .cons i1 i2
theorem nof_seqs (tl : List (Addr × Obj)) : NoF (tl.filter isSeqO) := fun p hp vs e => by
  have := (List.mem_filter.mp hp).2
  unfold isSeqO at this
  rw [e] at this
  cases this
theorem SpecT.here {w : World} {D U : Nat} {f : Addr} {vs : List Value} {tl Tb U0 led : List (Addr × Obj)} {A A₀ : Around} {p : Program} {loose : List Str} {mean : ExcName → Option Value} {mg mb : Str → Option Value} {env : Env} {g h : Heap} {L : Addr} {s : Shared} {Q₂ E : Value → Shared → Prop} {tk : Nat} {m : Str → Option Value} {G : List (Addr × Obj) → List (Addr × Obj)} {adr : List Addr} {ks : List Int} {a : Int}
    (C : SpecT w f D U vs Tb (fun h h' v => ReadP ks a h h' v ∧ TabTo Tb h h')) (F : Fr g L h m) (N : News g L h led) (UF : FrontX U0 led G) (hT : LawT tl Tb U0) (O : OwnOff U0 adr) (hadr : ∀ x ∈ adr, ∃ o, (x, o) ∈ led) (X : (KK w.params).In g) (T : Top p loose mean mg mb g) (B : Below A₀ noHeap [] g)
    (hA : A.frames = some (env :: [])) (hf : env.frame = some L) (hke : env.scope.kind = .function) (hh : A.handled = none) (hd : A.depth ≤ D) (hu : A.units ≤ U)
    (hret : ∀ v h' tk' tl1 T1 U1 d0 d1 d2 d3 d4, Fr g L h' m → News g L h' (G U1) → LawT tl1 T1 U1 → OwnOff U1 adr → (∀ p ∈ tl, p ∈ tl1) → DatIn tl1 v (.list [d0, d1, d2, d3, d4]) → heard0 ks a d0 → heard1 ks a d1 → heard2 ks a 2 true d2 → heard2 ks a 0 false d3 → heard4 ks a d4 → Q₂ v { s with heap := h', toks := tk' }) :
    wpAny (model rw_pb0183_01.row.prog w) A (call (.ref f) vs) Q₂ E { s with heap := h, toks := tk } := by
  obtain ⟨zq2', hTab, hNo⟩ := hT; subst zq2'
  have hfrs : frs [env] = [L] := by unfold frs; rw [List.filterMap_cons, hf]; rfl
  have gL : g.get? L = none := Heap.get?_none_of_le F.above
  refine xE3_2 (F.ns) ?_; intro oL es ep hoL hLr
  have inU := UF.sub
  have inT : ∀ q ∈ Tb, q ∈ led := fun q hq => inU q (List.mem_append_right _ hq)
  have inl : ∀ q ∈ tl, q ∈ led := fun q hq => inU q (List.mem_append_left _ hq)
  refine C _ _ _ _ _ g _ [env] { s with heap := h, toks := tk } _ _ (sits_of (s := { s with heap := h, toks := tk }) B F X T hA hf hke hh hd hu) (fun b hb => by rw [hfrs] at hb; rw [List.mem_singleton.mp hb]; exact gL) (fun q hq => ⟨(N q (inT q hq)).1, (N q (inT q hq)).2.2, fun hm => by rw [hfrs] at hm; exact (N q (inT q hq)).2.1 (List.mem_singleton.mp hm)⟩) fun v h' tk' hb hp => ?_
  obtain ⟨zq3', T1, hT1, hg1, hf1⟩ := hp; refine xE6_7 zq3' ?_; clear zq3'; intro tlr d0 d1 d2 d3 d4 hM hD x0 x1 x2 x3 x4
  have nT : ∀ p ∈ led, (NotF p.2 ∨ ∀ q ∈ tl ++ Tb, q.1 ≠ p.1) → p.1 ∉ Tb.map (·.1) := fun p hp hn hm => by
    refine xE1_2 (List.mem_map.mp hm) ?_; intro q hq e
    cases hn with
    | inr hn => exact hn q (List.mem_append_right _ hq) e
    | inl hn =>
      refine xE1_1 (hTab.fields q hq) ?_; intro vs' hv
      have e1 := (N p hp).1
      have e2 := (N q (inT q hq)).1
      rw [e, e1] at e2
      exact hn vs' (by rw [Option.some.inj e2]; exact hv)
  have keep : ∀ p ∈ led, (NotF p.2 ∨ ∀ q ∈ tl ++ Tb, q.1 ≠ p.1) → h'.get? p.1 = some p.2 := fun p hp hn => hb.keep _ _ (N p hp).1 (nT p hp hn) fun hm => by rw [hfrs] at hm; exact (N p hp).2.1 (List.mem_singleton.mp hm)
  have gT : ∀ b ∈ Tb.map (·.1), g.get? b = none := fun b hb => by
    refine xE1_2 (List.mem_map.mp hb) ?_; intro q hq zq4'; subst zq4'
    exact (N q (inT q hq)).2.2
  have F' : Fr g L h' m := by
    obtain ⟨sl, hs⟩ := hb.slots L oL hoL fun hm => by
      refine xE1_2 (List.mem_map.mp hm) ?_; intro q hq e
      exact (N q (inT q hq)).2.1 e
    refine ⟨⟨_, es, ep, hs, hLr⟩, fun b o q => hb.keep b o (F.keep b o q) (fun hm => by rw [gT b hm] at q; cases q) fun hm => ?_, F.above⟩
    rw [hfrs] at hm
    rw [List.mem_singleton.mp hm, gL] at q; cases q
  have fr : ∀ b, h.get? b = none → b ≠ L ∧ g.get? b = none := fun b hb0 => by
    refine ⟨(fun e => by rw [e, hoL] at hb0; cases hb0), ?_⟩
    cases q : g.get? b with
    | none => rfl
    | some o => rw [F.keep b o q] at hb0; cases hb0
  refine hret v h' tk' (tl ++ tlr.filter isSeqO) T1 _ d0 d1 d2 d3 d4 F' (UF.news N keep (U1 := (tl ++ tlr.filter isSeqO) ++ T1) fun p hp => ?_) ⟨rfl, hT1, fun p hp => (List.mem_append.mp hp).elim (hNo p) (nof_seqs tlr p)⟩ (fun p hp x hx => ?_) (fun p hp => List.mem_append_left _ hp) ((DatIn.seqs hD).mono fun p hp => List.mem_append_right _ hp) x0 x1 x2 x3 x4
  · rcases List.mem_append.mp hp with hp | hp
    · rcases List.mem_append.mp hp with hp | hp
      · exact ⟨keep p (inl p hp) (.inl (hNo p hp)), (N p (inl p hp)).2⟩
      · have z := hM p (List.mem_filter.mp hp).1
        exact ⟨z.1, fr _ z.2⟩
    · refine ⟨hg1 p hp, ?_⟩
      rcases hf1 p hp with hm | hm
      · refine xE1_2 (List.mem_map.mp hm) ?_; intro q hq e
        rw [← e]
        exact (N q (inT q hq)).2
      · exact fr _ hm
  · have old : h.get? p.1 = none → p.1 ≠ x := fun h0 e => by
      refine xE1_1 (hadr x hx) ?_; intro o ho
      rw [e, (N _ ho).1] at h0; cases h0
    rcases List.mem_append.mp hp with hp | hp
    · rcases List.mem_append.mp hp with hp | hp
      · exact O p (List.mem_append_left _ hp) x hx
      · exact old (hM p (List.mem_filter.mp hp).1).2
    · rcases hf1 p hp with hm | hm
      · refine xE1_2 (List.mem_map.mp hm) ?_; intro q hq e
        rw [← e]
        exact O q (List.mem_append_right _ hq) x hx
      · exact old hm
section
variable {prog : Program} {w : World} {A : Around} {E : Value → Shared → Prop} {s : Shared} {g : Heap} {env : Env} {x : Str} {body : List Stmt} {Q : Flow → Shared → Prop} {m : Str → Option Value} {led : List (Addr × Obj)}
theorem loop_tupleS {target : Expr} {lf : Addr} {n : Nat} {its : Array Value} {m₀ : Str → Option Value} (stored : List Str) (J : Nat → List (Addr × Obj) → Prop) (hh : A.handled = none)
    (F : Fr g env.locals s.heap m₀) (N : News g env.locals s.heap led) (hJ : J 0 led) (hmem : ∀ i led, J i led → (lf, ({ cls := .type "tuple", data := .seq its n } : Obj)) ∈ led)
    (turn : ∀ i v (u : Str → Option Value) led₁ I oI h tk, its[i]? = some v → J i led₁ → (∀ p ∈ led₁, p.1 ≠ I) → Fr g env.locals h (fun y => if stored.contains y then u y else m₀ y) → News g env.locals h ((I, oI) :: led₁) →
      wpAny (model prog w) A (assign target env v) (fun _ s₃ => wpAny (model prog w) A (execs body env) (TurnS g env.locals I oI stored m₀ (J (i + 1)) { s with heap := h, toks := tk }) E s₃) E { s with heap := h, toks := tk })
    (done : ∀ h tk (u : Str → Option Value) led₁, J its.size led₁ → Fr g env.locals h (fun y => if stored.contains y then u y else m₀ y) → News g env.locals h led₁ → Q .next { s with heap := h, toks := tk }) :
    wpAny (model prog w) A (pyIter (.ref lf)) (fun it s₂ => TurnsAt prog w A g env target body Q E it s₂) E s := by
  have hl : s.heap.IsTuple lf its := ⟨_, (N _ (hmem 0 led hJ)).1, rfl, n, rfl⟩
  have hlt : lf < s.heap.objs.size := Heap.lt_size (N _ (hmem 0 led hJ)).1
  have hl₀ : g.get? lf = none := (N _ (hmem 0 led hJ)).2.2
  have hlL : lf ≠ env.locals := (N _ (hmem 0 led hJ)).2.1
  refine wpAny_pyIter_tuple hl ?_
  have up : ∀ o' b o, s.heap.get? b = some o → (s.heap.push o').get? b = some o := fun o' b o e => Heap.get?_push_of_some _ e
  have hI₀ : g.get? s.heap.objs.size = none := fresh_top F
  refine ⟨s.heap.objs.size, [s.heap.objs.size, lf], [s.heap.objs.size], its.size, _, _, _, m₀, led, fun i m led => (∃ u : Str → Option Value, m = fun y => if stored.contains y then u y else m₀ y) ∧ J i led, rfl,
    KTurns.ofWalks (Walks.tuple hh s.heap.objs.size lf (Nat.ne_of_lt hlt) its) fun i v s Q E st q => letGo_tupleiter st.1 q, fun hm => ?_, fun b hb => ?_, fun p hp hm => ?_, ?_, F.keeps (up _), N.grown (up _), ⟨⟨m₀, by funext y; simp⟩, hJ⟩, ?_, ?_⟩
  · rcases List.mem_cons.mp hm with e | hm
    · exact absurd F.ns.lt (e ▸ Nat.lt_irrefl _)
    · exact hlL (List.mem_singleton.mp hm).symm
  · rw [List.mem_singleton.mp hb]; exact hI₀
  · exact absurd (Heap.lt_size (N p hp).1) (List.mem_singleton.mp hm ▸ Nat.lt_irrefl _)
  · exact ⟨⟨_, Heap.get?_push_size _ rfl, rfl, rfl⟩, (by refine xE1_2 hl ?_; (try clear hl); intro o h1 h2; exact xI1_2 o (up _ _ _ h1) h2)⟩
  · rintro i v m₁ led₁ h tk own hi hP ⟨⟨u, rfl⟩, hJ'⟩ off hsub hget hown hst F₁ N₁
    obtain ⟨oI, hoI⟩ : ∃ o, h.get? s.heap.objs.size = some o := by refine xE1_2 (hst.1) ?_; intro o e _; exact ⟨o, e⟩
    have hmemI := hown _ (.head _) hI₀ _ hoI
    have hlf := (N₁ _ (List.mem_append_right _ (hmem i led₁ hJ'))).1
    refine wpAny_mono (turn i v u led₁ _ oI h tk hP hJ' (fun p hp e => off p hp (List.mem_singleton.mpr e)) F₁ (fun p hp => ?_)) (fun _ s₃ hq => wpAny_mono hq (fun f s₂ hq => ?_) fun _ _ e => e) fun _ _ e => e
    · rcases List.mem_cons.mp hp with rfl | hp
      · exact N₁ _ (List.mem_append_left _ hmemI)
      · exact N₁ _ (List.mem_append_right _ hp)
    · refine xE0_2 hq ?_; (try clear hq); intro zq5' zq6'; subst zq5'; refine xE4_6 zq6' ?_; clear zq6'; intro h' tk' m' led' zq7' F' N' off' hm hJ''; subst zq7'
      refine LoopStepV.next ⟨rfl, h', tk', m', led', rfl, F', fun p hp => ?_, fun p hp e => off' p hp (List.mem_singleton.mp e), ⟨m', ?_⟩, hJ''⟩
      · rcases List.mem_append.mp hp with hp | hp
        · have e2 : h.get? p.1 = some p.2 := hget p hp
          rcases List.mem_cons.mp (hsub p hp) with e1 | e1
          · rw [e1, hoI] at e2
            have e3 : p = (s.heap.objs.size, oI) := Prod.ext e1 (Option.some.inj e2).symm
            rw [e3]
            exact N' _ (.head _)
          · have e1 := List.mem_singleton.mp e1
            rw [e1, hlf] at e2
            have e3 : p = (lf, ({ cls := .type "tuple", data := .seq its n } : Obj)) := Prod.ext e1 (Option.some.inj e2).symm
            rw [e3]
            exact N' _ (.tail _ (hmem _ led' hJ''))
        · exact N' p (List.mem_cons_of_mem _ hp)
      · funext y
        by_cases hy : stored.contains y = true
        · rw [if_pos hy]
        · rw [if_neg hy]
          exact hm y (Bool.eq_false_iff.mpr hy)
  · rintro h tk m₁ led₁ F₁ N₁ _ ⟨⟨u, rfl⟩, hJ'⟩
    exact done h tk u led₁ hJ' F₁ N₁
end
end
section
open PySem.Calls
theorem dat_list {tl : List (Addr × Obj)} {v : Value} {ds : List Dat} (h : DatIn tl v (.list ds)) : ∃ a vs n, v = .ref a ∧ (a, listOf (List.toArray vs) n) ∈ tl ∧ DatAll tl vs ds := by
  cases h with
  | list h1 h2 => exact xI3_3 _ _ _ rfl h1 h2
structure ReadsT (ks : List Int) (a : Int) (r : Addr) (tl : List (Addr × Obj)) (vs : List Value) (n : Nat) (d0 d1 d2 d3 d4 : Dat) : Prop where
  mem : (r, listOf (List.toArray vs) n) ∈ tl
  all : DatAll tl vs [d0, d1, d2, d3, d4]
  h0 : heard0 ks a d0
  h1 : heard1 ks a d1
  h2 : heard2 ks a 2 true d2
  h3 : heard2 ks a 0 false d3
  h4 : heard4 ks a d4
theorem ReadsT.mono {ks : List Int} {a : Int} {r : Addr} {tl tl2 : List (Addr × Obj)} {vs : List Value} {n : Nat} {d0 d1 d2 d3 d4 : Dat} (h : ReadsT ks a r tl vs n d0 d1 d2 d3 d4) (hs : ∀ p ∈ tl, p ∈ tl2) : ReadsT ks a r tl2 vs n d0 d1 d2 d3 d4 := by exact ⟨hs _ h.mem, h.all.mono hs, h.h0, h.h1, h.h2, h.h3, h.h4⟩
theorem LawT.mem {tl T U : List (Addr × Obj)} (h : LawT tl T U) : ∀ p ∈ tl, p ∈ U := fun p hp => by rw [h.e]; exact List.mem_append_left _ hp
def HeardS (d : Dat) : Prop := (∃ x, d = .tuple [.str "told", x]) ∨ ∃ w p, d = .tuple [.str "fault", .str w, .int p]
theorem heardS {X : Dat → Prop} {R : Str → Int → Prop} {d : Dat} (h : HeardX X R d) : HeardS d := by
  rcases h with ⟨x, _, e⟩ | ⟨w, p, _, e⟩
  · exact .inl ⟨x, e⟩
  · exact .inr ⟨w, p, e⟩
theorem ReadsT.shape {ks : List Int} {a : Int} {r : Addr} {tl : List (Addr × Obj)} {vs : List Value} {n : Nat} {d0 d1 d2 d3 d4 : Dat} (h : ReadsT ks a r tl vs n d0 d1 d2 d3 d4) : ∀ d ∈ [d0, d1, d2, d3, d4], HeardS d :=
  List.forall_mem_cons.mpr ⟨heardS h.h0, List.forall_mem_cons.mpr ⟨heardS h.h1, all3 (heardS h.h2) (heardS h.h3) (heardS h.h4)⟩⟩
noncomputable def movedD (far : Int) : Dat → Dat
  | .tuple [.str _, .str what, .int pl] => .tuple [.str "fault", .str what, .int (pl + far)]
  | d => d
theorem dat_tup2 {tl : List (Addr × Obj)} {v : Value} {x : Dat} (h : DatIn tl v (.tuple [.str "told", x])) : ∃ t t1 xv n, v = .ref t ∧ (t, tup2O t1 xv n) ∈ tl := by
  refine (let gk : Prop := _; (?_ : gk))
  refine xE4_4 (datT2 h) ?_; intro T n x y e hm h1 h2
  refine xE1_1 (datStr h1) ?_; intro t1 e1
  rw [e1] at hm
  exact xI4_2 T t1 y n e hm
theorem dat_tup3 {tl : List (Addr × Obj)} {v : Value} {w : Str} {p : Int} (h : DatIn tl v (.tuple [.str "fault", .str w, .int p])) : ∃ t t1 t2 t3 n, v = .ref t ∧ (t, tup3O t1 w t2 p t3 n) ∈ tl := by
  refine (let gk : Prop := _; (?_ : gk))
  refine xE5_5 (datT3 h) ?_; intro T n x y z e hm h1 h2 h3
  refine xE1_1 (datStr h1) ?_; intro t1 e1
  refine xE1_1 (datStr h2) ?_; intro t2 e2
  refine xE1_1 (datInt h3) ?_; intro t3 e3
  rw [e1, e2, e3] at hm
  exact xI5_2 T t1 t2 t3 n e hm
def MovJ (led0 : List (Addr × Obj)) (c : Addr × Obj) (mds : List Dat) (i : Nat) (ys : List Value) (news : List (Addr × Obj)) : Prop :=
  ∃ R tlx, news = c :: R ∧ (∀ p ∈ led0, p ∈ news) ∧ (∀ p ∈ tlx, p ∈ news) ∧ DatAll tlx ys (mds.take i)
theorem take_snoc' {mds : List Dat} {i : Nat} {d : Dat} (h : mds[i]? = some d) : mds.take (i + 1) = mds.take i ++ [d] := by
  rw [List.take_add_one, h]; rfl
theorem MovJ.old {led0 : List (Addr × Obj)} {c : Addr × Obj} {mds : List Dat} {i : Nat} {ys : List Value} {R tl : List (Addr × Obj)} {v : Value} {d : Dat} (h : MovJ led0 c mds i ys (c :: R)) (ht : ∀ p ∈ tl, p ∈ led0) (hD : DatIn tl v d) (hd : mds[i]? = some d) : MovJ led0 c mds (i + 1) (ys ++ [v]) (c :: R) := by
  refine xE2_4 h ?_; (try clear h); intro R' tlx e h0 hx hA
  cases e
  refine xI2_4 R (tlx ++ tl) rfl h0 (fun p hp => (List.mem_append.mp hp).elim (hx p) fun hp => h0 p (ht p hp)) ?_
  rw [take_snoc' hd]
  exact (hA.mono fun p hp => List.mem_append_left _ hp).append (.one (hD.mono fun p hp => List.mem_append_right _ hp))
theorem MovJ.new {led0 : List (Addr × Obj)} {c e : Addr × Obj} {mds : List Dat} {i : Nat} {ys : List Value} {R : List (Addr × Obj)} {v : Value} {d : Dat} (h : MovJ led0 c mds i ys (c :: R)) (hD : DatIn [e] v d) (hd : mds[i]? = some d) : MovJ led0 c mds (i + 1) (ys ++ [v]) (c :: e :: R) := by
  refine xE2_4 h ?_; (try clear h); intro R' tlx e' h0 hx hA
  cases e'
  have up : ∀ p, p ∈ c :: R → p ∈ c :: e :: R := fun p hp => (List.mem_cons.mp hp).elim (fun q => q ▸ .head _) fun q => .tail _ (.tail _ q)
  refine xI2_4 (e :: R) (tlx ++ [e]) rfl (fun p hp => up p (h0 p hp)) (fun p hp => (List.mem_append.mp hp).elim (fun q => up p (hx p q)) fun q => by rw [List.mem_singleton.mp q]; exact .tail _ (.head _)) ?_
  rw [take_snoc' hd]
  exact (hA.mono fun p hp => List.mem_append_left _ hp).append (.one (hD.mono fun p hp => List.mem_append_right _ hp))
theorem news_new5 {g h h' : Heap} {L I C D E : Addr} {m : Str → Option Value} {oI oC oD oE : Obj} {c : Addr × Obj} {R : List (Addr × Obj)} (F : Fr g L h m) (N : News g L h ((I, oI) :: (C, oC) :: (D, oD) :: c :: R)) (off : LCg.Off3 I C D (c :: R)) (hk : ∀ b o, h.get? b = some o → h'.get? b = some o) (f1 : h.get? E = none) (p1 : h'.get? E = some oE) :
    News g L h' ((I, oI) :: (C, oC) :: (D, oD) :: c :: (E, oE) :: R) ∧ LCg.Off3 I C D (c :: (E, oE) :: R) := by
  refine xE3_2 (F.ns) ?_; intro oL _ _ hoL _
  have ne : ∀ p ∈ (I, oI) :: (C, oC) :: (D, oD) :: c :: R, E ≠ p.1 := fun p hp e => by
    have := (N p hp).1
    rw [← e, f1] at this; cases this
  have fr : E ≠ L ∧ g.get? E = none := by
    refine ⟨(fun e => by rw [e, hoL] at f1; cases f1), ?_⟩
    cases q : g.get? E with
    | none => rfl
    | some o => rw [F.keep E o q] at f1; cases f1
  have keep : ∀ p ∈ (I, oI) :: (C, oC) :: (D, oD) :: c :: R, h'.get? p.1 = some p.2 ∧ p.1 ≠ L ∧ g.get? p.1 = none := fun p hp => ⟨hk _ _ (N p hp).1, (N p hp).2⟩
  refine ⟨fun p hp => ?_, LCg.Off3.of fun p hp => ?_⟩
  · rcases List.mem_cons.mp hp with rfl | hp
    · exact keep _ (.head _)
    rcases List.mem_cons.mp hp with rfl | hp
    · exact keep _ (.tail _ (.head _))
    rcases List.mem_cons.mp hp with rfl | hp
    · exact keep _ (.tail _ (.tail _ (.head _)))
    rcases List.mem_cons.mp hp with rfl | hp
    · exact keep _ (.tail _ (.tail _ (.tail _ (.head _))))
    rcases List.mem_cons.mp hp with rfl | hp
    · exact ⟨p1, fr⟩
    · exact keep _ (.tail _ (.tail _ (.tail _ (.tail _ hp))))
  · rcases List.mem_cons.mp hp with rfl | hp
    · exact off.mem _ (.head _)
    rcases List.mem_cons.mp hp with rfl | hp
    · exact xI0_3 (ne _ (.head _)) (ne _ (.tail _ (.head _))) (ne _ (.tail _ (.tail _ (.head _))))
    · exact off.mem _ (.tail _ hp)
theorem cell_front {g h : Heap} {L : Addr} {m : Str → Option Value} {led : List (Addr × Obj)} {o : Obj} (_F : Fr g L h m) (N : News g L h led) (hm : (L + 1 + 1, o) ∈ led) : News g L h ((L + 1 + 1, o) :: led) := fun p hp => (List.mem_cons.mp hp).elim (fun e => e ▸ N _ hm) (N p)
theorem MovJ.zero {ks ks2 : List Int} {far : Int} {r r2 : Addr} {tl tl2 : List (Addr × Obj)} {vs vs2 : List Value} {n n2 : Nat} {d0 d1 d2 d3 d4 e0 e1 e2 e3 e4 : Dat} {led : List (Addr × Obj)} {c : Addr × Obj} (_h : ReadsT ks 0 r tl vs n d0 d1 d2 d3 d4) (_h2 : ReadsT ks2 far r2 tl2 vs2 n2 e0 e1 e2 e3 e4) : MovJ led c (List.map (movedD far) [d0, d1, d2, d3, d4]) 0 [] (c :: led) :=
  by exact xI2_4 led [] rfl (fun p hp => .tail _ hp) (fun _ h => nomatch h) .nil
theorem map_at {ds : List Dat} {far : Int} {i : Nat} {d : Dat} (h : ds[i]? = some d) : (ds.map (movedD far))[i]? = some (movedD far d) := by rw [List.getElem?_map, h]; rfl
theorem movedD_told {far : Int} {x : Dat} : movedD far (.tuple [.str "told", x]) = .tuple [.str "told", x] := by cases x <;> rfl
theorem map_told {ds : List Dat} {far : Int} {i : Nat} {x : Dat} (h : ds[i]? = some (.tuple [.str "told", x])) : (ds.map (movedD far))[i]? = some (.tuple [.str "told", x]) := (map_at h).trans (by rw [movedD_told])
end
section
open PySem.Calls
noncomputable def sh {α β : Type} (A : Int) (f : α → β) : Except (Str × Int) α → Except (Str × Int) β
  | .ok v => .ok (f v)
  | .error (w, p) => .error (w, p + A)
theorem andE_sh {α α' β β' : Type} {A : Int} {f : α → α'} {g : β → β'} {x : Except (Str × Int) α} {x' : Except (Str × Int) α'} {k : α → Except (Str × Int) β} {k' : α' → Except (Str × Int) β'} (hx : x' = sh A f x) (hk : ∀ v, x = .ok v → k' (f v) = sh A g (k v)) : andE x' k' = sh A g (andE x k) := by
  subst hx
  cases x with
  | error e => rfl
  | ok v => exact hk v rfl
section
variable {as ks bs : List Int}
theorem getD_mv (n : Nat) : (as ++ ks).getD (n + as.length) 0 = ks.getD n 0 := by
  rw [List.getD_eq_getElem?_getD, List.getD_eq_getElem?_getD, Nat.add_comm, List.getElem?_append_right (Nat.le_add_right _ _), Nat.add_sub_cancel_left]
theorem getD_bh {n : Nat} (h : n < ks.length) : (ks ++ bs).getD n 0 = ks.getD n 0 := by
  rw [List.getD_eq_getElem?_getD, List.getD_eq_getElem?_getD, List.getElem?_append_left h]
theorem toNat_mv {a : Int} (h : 0 ≤ a) : (a + (as.length : Int)).toNat = a.toNat + as.length := Int.toNat_add_nat h _
theorem u16_mv {a : Int} (h : 0 ≤ a) : u16 (as ++ ks) (a + as.length) = sh as.length id (u16 ks a) := by
  unfold u16
  have e : (0 ≤ a + (as.length : Int) ∧ a + (as.length : Int) + 2 ≤ ((as ++ ks).length : Int)) ↔ (0 ≤ a ∧ a + 2 ≤ (ks.length : Int)) := by rw [List.length_append]; exact mv_iff h
  by_cases c : 0 ≤ a ∧ a + 2 ≤ (ks.length : Int)
  · rw [if_pos c, if_pos (e.mpr c), toNat_mv h, getD_mv, Nat.add_right_comm a.toNat as.length 1, getD_mv]
    rfl
  · rw [if_neg c, if_neg fun z => c (e.mp z)]
    rfl
theorem u16_bh {a v : Int} (h : u16 ks a = .ok v) : u16 (ks ++ bs) a = .ok v := by
  unfold u16 at h ⊢
  split at h
  · rename_i c
    rw [if_pos (by rw [List.length_append]; exact ⟨c.1, le_bh c.2⟩), getD_bh (n := a.toNat) (tn_lt (j := 0) c.1 c.2 (by decide)), getD_bh (tn_lt (j := 1) c.1 c.2 (by decide))]
    exact h
  · cases h
theorem tag_mv {a : Int} (h : 0 ≤ a) : tagAt (as ++ ks) (a + as.length) = sh as.length id (tagAt ks a) := by
  unfold tagAt
  have e : (0 ≤ a + (as.length : Int) ∧ a + (as.length : Int) + 4 ≤ ((as ++ ks).length : Int)) ↔ (0 ≤ a ∧ a + 4 ≤ (ks.length : Int)) := by rw [List.length_append]; exact mv_iff h
  by_cases c : 0 ≤ a ∧ a + 4 ≤ (ks.length : Int)
  · rw [if_pos c, if_pos (e.mpr c), toNat_mv h]
    have t : take4 (as ++ ks) (a.toNat + as.length) = take4 ks a.toNat := by
      unfold take4
      rw [getD_mv, Nat.add_right_comm a.toNat as.length 1, getD_mv, Nat.add_right_comm a.toNat as.length 2, getD_mv, Nat.add_right_comm a.toNat as.length 3, getD_mv]
    rw [t]
    rfl
  · rw [if_neg c, if_neg fun z => c (e.mp z)]
    rfl
theorem tag_bh {a : Int} {v : Str} (h : tagAt ks a = .ok v) : tagAt (ks ++ bs) a = .ok v := by
  unfold tagAt at h ⊢
  split at h
  · rename_i c
    rw [if_pos (by rw [List.length_append]; exact ⟨c.1, le_bh c.2⟩)]
    have t : take4 (ks ++ bs) a.toNat = take4 ks a.toNat := by
      unfold take4
      rw [getD_bh (n := a.toNat) (tn_lt (j := 0) c.1 c.2 (by decide)), getD_bh (tn_lt (j := 1) c.1 c.2 (by decide)), getD_bh (tn_lt (j := 2) c.1 c.2 (by decide)), getD_bh (tn_lt (j := 3) c.1 c.2 (by decide))]
    rw [t]
    exact h
  · cases h
theorem rows_mv {a : Int} {c : Nat} (h : 0 ≤ a) : rowsAt (as ++ ks) (a + as.length) c = sh as.length id (rowsAt ks a c) := by
  unfold rowsAt
  have e : (0 ≤ a + (as.length : Int) ∧ a + (as.length : Int) + 2 * (c : Int) ≤ ((as ++ ks).length : Int)) ↔ (0 ≤ a ∧ a + 2 * (c : Int) ≤ (ks.length : Int)) := by rw [List.length_append]; exact mv_iff h
  by_cases q : 0 ≤ a ∧ a + 2 * (c : Int) ≤ (ks.length : Int)
  · rw [if_pos q, if_pos (e.mpr q), toNat_mv h]
    have t : ∀ i, u16n (as ++ ks) (a.toNat + as.length + 2 * i) = u16n ks (a.toNat + 2 * i) := fun i => by
      unfold u16n
      rw [Nat.add_right_comm a.toNat as.length (2 * i), getD_mv, Nat.add_right_comm (a.toNat + 2 * i) as.length 1, getD_mv]
    rw [funext t]
    rfl
  · rw [if_neg q, if_neg fun z => q (e.mp z)]
    rfl
theorem rows_bh {a : Int} {c : Nat} {v : List Int} (h : rowsAt ks a c = .ok v) : rowsAt (ks ++ bs) a c = .ok v := by
  unfold rowsAt at h ⊢
  split at h
  · rename_i q
    rw [if_pos (by rw [List.length_append]; exact ⟨q.1, le_bh q.2⟩), ← h]
    refine congrArg Except.ok (List.map_congr_left fun i hi => ?_)
    have h2 : 2 * i + 1 < 2 * c := Nat.mul_le_mul_left 2 (List.mem_range.mp hi)
    unfold u16n
    rw [getD_bh (tn_lt (j := 2 * i) q.1 q.2 (Int.ofNat_lt.mpr (Nat.lt_of_succ_lt h2))), getD_bh (n := a.toNat + 2 * i + 1) (tn_lt (j := 2 * i + 1) q.1 q.2 (Int.ofNat_lt.mpr h2))]
  · cases h
theorem off_mv {a b : Int} (h : 0 ≤ a) : offB (as ++ ks) (a + as.length) (b + as.length) = sh as.length (· + (as.length : Int)) (offB ks a b) := by
  unfold offB
  rw [u16_mv h]
  cases u16 ks a with
  | error e => rfl
  | ok o =>
    show (if o = 0 then _ else _) = sh _ _ (if o = 0 then _ else _)
    by_cases q : o = 0
    · rw [if_pos q, if_pos q]; rfl
    · rw [if_neg q, if_neg q]
      exact congrArg Except.ok (Int.add_right_comm _ _ _)
theorem off_bh {a b v : Int} (h : offB ks a b = .ok v) : offB (ks ++ bs) a b = .ok v := by
  unfold offB at h ⊢
  cases e : u16 ks a with
  | error x => rw [e] at h; cases h
  | ok o => rw [e] at h; rw [u16_bh e]; exact h
theorem bind_bh {α β : Type} {x x' : Except (Str × Int) α} {k k' : α → Except (Str × Int) β} {v : β} (h : andE x k = .ok v) (hx : ∀ u, x = .ok u → x' = .ok u) (hk : ∀ u, x = .ok u → k u = .ok v → k' u = .ok v) : andE x' k' = .ok v := by
  cases e : x with
  | error z => rw [e] at h; cases h
  | ok u =>
    rw [e] at h
    rw [hx u e]
    exact hk u e h
theorem lang_mv {a : Int} (h : 0 ≤ a) : langB (as ++ ks) (a + as.length) = sh as.length id (langB ks a) := by
  unfold langB
  refine andE_sh (u16_mv h) fun _ _ => ?_
  rw [show a + (as.length : Int) + 2 = a + 2 + as.length by omega]
  refine andE_sh (u16_mv (by omega)) fun r _ => ?_
  rw [show a + 2 + (as.length : Int) + 2 = a + 2 + 2 + as.length by omega]
  refine andE_sh (u16_mv (by omega)) fun c _ => ?_
  rw [show a + 2 + 2 + (as.length : Int) + 2 = a + 2 + 2 + 2 + as.length by omega]
  exact andE_sh (rows_mv (by omega)) fun fs _ => rfl
theorem lang_bh {a : Int} {v : Int × List Int} (h : langB ks a = .ok v) : langB (ks ++ bs) a = .ok v := by
  unfold langB at h ⊢
  exact bind_bh h (fun _ => u16_bh) fun _ _ h => bind_bh h (fun _ => u16_bh) fun _ _ h => bind_bh h (fun _ => u16_bh) fun _ _ h => bind_bh h (fun _ => rows_bh) fun _ _ h => h
theorem feat_mv {a : Int} (h : 0 ≤ a) : featB (as ++ ks) (a + as.length) = sh as.length id (featB ks a) := by
  unfold featB
  refine andE_sh (u16_mv h) fun _ _ => ?_
  rw [show a + (as.length : Int) + 2 = a + 2 + as.length by omega]
  refine andE_sh (u16_mv (by omega)) fun c _ => ?_
  rw [show a + 2 + (as.length : Int) + 2 = a + 2 + 2 + as.length by omega]
  exact andE_sh (rows_mv (by omega)) fun fs _ => rfl
theorem feat_bh {a : Int} {v : List Int} (h : featB ks a = .ok v) : featB (ks ++ bs) a = .ok v := by
  unfold featB at h ⊢
  exact bind_bh h (fun _ => u16_bh) fun _ _ h => bind_bh h (fun _ => u16_bh) fun _ _ h => bind_bh h (fun _ => rows_bh) fun _ _ h => h
end
end
section
open PySem.Calls
noncomputable def mvP (A : Int) (p : Str × Int) : Str × Int := (p.1, p.2 + A)
theorem getLast_mv {A : Int} {l : List (Str × Int)} : (l.map (mvP A)).getLast? = l.getLast?.map (mvP A) := by rw [List.getLast?_map]
theorem low_mv {A : Int} {l : List (Str × Int)} {tag : Str} : tooLow (l.map (mvP A)) tag = tooLow l tag := by
  unfold tooLow
  rw [getLast_mv]
  cases l.getLast? <;> rfl
section
variable {as ks bs : List Int}
theorem recTurn_mv {a pos : Int} {asc : Bool} {found : List (Str × Int)} (h : 0 ≤ pos) : recTurn (as ++ ks) (a + as.length) asc (pos + as.length) (found.map (mvP as.length)) = sh as.length (List.map (mvP as.length)) (recTurn ks a asc pos found) := by
  unfold recTurn
  refine andE_sh (tag_mv h) fun tag _ => ?_
  rw [low_mv]
  show (if (asc && tooLow found tag) = true then _ else _) = sh _ _ (if (asc && tooLow found tag) = true then _ else _)
  by_cases q : (asc && tooLow found tag) = true
  · rw [if_pos q, if_pos q]; rfl
  · rw [if_neg q, if_neg q, show pos + (as.length : Int) + 4 = pos + 4 + as.length by omega]
    refine andE_sh (off_mv (by omega)) fun pl _ => ?_
    show Except.ok _ = Except.ok _
    rw [List.map_append]
    rfl
theorem recLoop_mv {a : Int} {asc : Bool} : ∀ (k : Nat) {pos : Int} {found : List (Str × Int)}, 0 ≤ pos → recLoop (as ++ ks) (a + as.length) asc k (pos + as.length) (found.map (mvP as.length)) = sh as.length (List.map (mvP as.length)) (recLoop ks a asc k pos found)
  | 0, _, _, _ => rfl
  | k + 1, pos, found, h => by
    show andE _ _ = sh _ _ (andE _ _)
    refine andE_sh (recTurn_mv h) fun f _ => ?_
    rw [show pos + (as.length : Int) + 6 = pos + 6 + as.length by omega]
    exact recLoop_mv k (by omega)
theorem rec_mv {a lead : Int} {asc : Bool} (h : 0 ≤ a) (hl : 0 ≤ lead) : recB (as ++ ks) (a + as.length) lead asc = sh as.length (List.map (mvP as.length)) (recB ks a lead asc) := by
  unfold recB
  rw [show a + (as.length : Int) + lead = a + lead + as.length by omega]
  refine andE_sh (u16_mv (by omega)) fun c _ => ?_
  rw [show a + lead + (as.length : Int) + 2 = a + lead + 2 + as.length by omega]
  exact recLoop_mv (found := []) c.toNat (by omega)
theorem recTurn_bh {a pos : Int} {asc : Bool} {found v : List (Str × Int)} (h : recTurn ks a asc pos found = .ok v) : recTurn (ks ++ bs) a asc pos found = .ok v := by
  unfold recTurn at h ⊢
  refine bind_bh h (fun _ => tag_bh) fun tag _ h => ?_
  by_cases q : (asc && tooLow found tag) = true
  · rw [if_pos q] at h; cases h
  · rw [if_neg q] at h ⊢
    exact bind_bh h (fun _ => off_bh) fun _ _ h => h
theorem recLoop_bh {a : Int} {asc : Bool} {v : List (Str × Int)} : ∀ (k : Nat) {pos : Int} {found : List (Str × Int)}, recLoop ks a asc k pos found = .ok v → recLoop (ks ++ bs) a asc k pos found = .ok v
  | 0, _, _, h => h
  | k + 1, pos, found, h => by
    have h : andE (recTurn ks a asc pos found) _ = _ := h
    exact bind_bh h (fun _ => recTurn_bh) fun f _ h => recLoop_bh k h
theorem rec_bh {a lead : Int} {asc : Bool} {v : List (Str × Int)} (h : recB ks a lead asc = .ok v) : recB (ks ++ bs) a lead asc = .ok v := by
  unfold recB at h ⊢
  exact bind_bh h (fun _ => u16_bh) fun c _ h => recLoop_bh c.toNat h
def NN (ks : List Int) : Prop := ∀ n, 0 ≤ ks.getD n 0
theorem u16_nn {a v : Int} (hn : NN ks) (h : u16 ks a = .ok v) : 0 ≤ v := by
  unfold u16 at h
  split at h
  · cases h
    have h1 := hn a.toNat
    have h2 := hn (a.toNat + 1)
    omega
  · cases h
theorem off_nn {a b v : Int} (hn : NN ks) (hb : 0 ≤ b) (h : offB ks a b = .ok v) : 0 ≤ v := by
  unfold offB at h
  cases e : u16 ks a with
  | error x => rw [e] at h; cases h
  | ok o =>
    rw [e] at h
    have := u16_nn hn e
    have h : (if o = 0 then Except.error ("an offset of 0", a) else Except.ok (b + o) : Except (Str × Int) Int) = .ok v := h
    by_cases q : o = 0
    · rw [if_pos q] at h; cases h
    · rw [if_neg q] at h; cases h; omega
theorem bind_ok {α β : Type} {x : Except (Str × Int) α} {k : α → Except (Str × Int) β} {v : β} (h : andE x k = .ok v) : ∃ u, x = .ok u ∧ k u = .ok v := by
  cases e : x with
  | error z => rw [e] at h; cases h
  | ok u => rw [e] at h; exact xI1_2 u rfl h
theorem recTurn_nn {a pos : Int} {asc : Bool} {found v : List (Str × Int)} (hn : NN ks) (ha : 0 ≤ a) (hf : ∀ p ∈ found, 0 ≤ p.2) (h : recTurn ks a asc pos found = .ok v) : ∀ p ∈ v, 0 ≤ p.2 := by
  unfold recTurn at h
  refine xE1_2 (bind_ok h) ?_; intro tag _ h
  by_cases q : (asc && tooLow found tag) = true
  · rw [if_pos q] at h; cases h
  · rw [if_neg q] at h
    refine xE1_2 (bind_ok h) ?_; intro pl e h
    cases h
    intro p hp
    rcases List.mem_append.mp hp with hp | hp
    · exact hf p hp
    · rw [List.mem_singleton.mp hp]; exact off_nn hn ha e
theorem recLoop_nn {a : Int} {asc : Bool} {v : List (Str × Int)} (hn : NN ks) (ha : 0 ≤ a) : ∀ (k : Nat) {pos : Int} {found : List (Str × Int)}, (∀ p ∈ found, 0 ≤ p.2) → recLoop ks a asc k pos found = .ok v → ∀ p ∈ v, 0 ≤ p.2
  | 0, _, _, hf, h => by cases h; exact hf
  | k + 1, pos, found, hf, h => by
    have h : andE (recTurn ks a asc pos found) _ = _ := h
    refine xE1_2 (bind_ok h) ?_; intro f e h
    exact recLoop_nn hn ha k (recTurn_nn hn ha hf e) h
theorem rec_nn {a lead : Int} {asc : Bool} {v : List (Str × Int)} (hn : NN ks) (ha : 0 ≤ a) (h : recB ks a lead asc = .ok v) : ∀ p ∈ v, 0 ≤ p.2 := by
  unfold recB at h
  refine xE1_2 (bind_ok h) ?_; intro c _ h
  exact recLoop_nn hn ha c.toNat (found := []) (fun _ h => nomatch h) h
theorem langs_mv : ∀ {rs : List (Str × Int)}, (∀ p ∈ rs, 0 ≤ p.2) → langsB (as ++ ks) (rs.map (mvP as.length)) = sh as.length id (langsB ks rs)
  | [], _ => rfl
  | p :: r, h => by
    show andE _ _ = sh _ _ (andE _ _)
    refine andE_sh (lang_mv (h p (.head _))) fun x _ => ?_
    exact andE_sh (langs_mv fun q hq => h q (.tail _ hq)) fun l _ => rfl
theorem langs_bh : ∀ {rs : List (Str × Int)} {v : List (Str × (Int × List Int))}, langsB ks rs = .ok v → langsB (ks ++ bs) rs = .ok v
  | [], _, h => h
  | p :: r, v, h => by
    have h : andE (langB ks p.2) _ = _ := h
    exact bind_bh h (fun _ => lang_bh) fun x _ h => bind_bh h (fun _ => langs_bh) fun _ _ h => h
theorem script_mv {a : Int} (hn : NN ks) (h : 0 ≤ a) : scriptB (as ++ ks) (a + as.length) = sh as.length id (scriptB ks a) := by
  unfold scriptB
  refine andE_sh (u16_mv h) fun off e => ?_
  have ho := u16_nn hn e
  have hd : defB (as ++ ks) (a + as.length) (id off) = sh as.length id (defB ks a off) := by
    unfold defB
    show (if 0 < off then _ else _) = sh _ _ (if 0 < off then _ else _)
    by_cases q : 0 < off
    · rw [if_pos q, if_pos q]
      show andE (langB (as ++ ks) (a + as.length + off)) _ = _
      rw [show a + (as.length : Int) + off = a + off + as.length by omega]
      exact andE_sh (lang_mv (by omega)) fun x _ => rfl
    · rw [if_neg q, if_neg q]; rfl
  refine andE_sh hd fun d _ => ?_
  refine andE_sh (rec_mv h (by decide)) fun rs e2 => ?_
  exact andE_sh (langs_mv (rec_nn hn h e2)) fun ls _ => rfl
theorem script_bh {a : Int} {v : Option (Int × List Int) × List (Str × (Int × List Int))} (h : scriptB ks a = .ok v) : scriptB (ks ++ bs) a = .ok v := by
  unfold scriptB at h ⊢
  refine bind_bh h (fun _ => u16_bh) fun off _ h => bind_bh h (fun u hu => ?_) fun d _ h => bind_bh h (fun _ => rec_bh) fun rs _ h => bind_bh h (fun _ => langs_bh) fun _ _ h => h
  unfold defB at hu ⊢
  by_cases q : 0 < off
  · rw [if_pos q] at hu ⊢
    exact bind_bh hu (fun _ => lang_bh) fun _ _ h => h
  · rw [if_neg q] at hu ⊢; exact hu
end
end
section
open PySem.Calls
section
variable {as ks bs : List Int}
theorem plLoop_mv {a : Int} : ∀ (k : Nat) {pos : Int} {found : List Int}, 0 ≤ pos → plLoop (as ++ ks) (a + as.length) k (pos + as.length) (found.map (· + (as.length : Int))) = sh as.length (List.map (· + (as.length : Int))) (plLoop ks a k pos found)
  | 0, _, _, _ => rfl
  | k + 1, pos, found, h => by
    show andE _ _ = sh _ _ (andE _ _)
    refine andE_sh (off_mv h) fun p _ => ?_
    rw [show pos + (as.length : Int) + 2 = pos + 2 + as.length by omega]
    have := plLoop_mv (a := a) k (pos := pos + 2) (found := found ++ [p]) (by omega)
    rw [List.map_append] at this
    exact this
theorem plLoop_bh {a : Int} {v : List Int} : ∀ (k : Nat) {pos : Int} {found : List Int}, plLoop ks a k pos found = .ok v → plLoop (ks ++ bs) a k pos found = .ok v
  | 0, _, _, h => h
  | k + 1, pos, found, h => by
    have h : andE (offB ks pos a) _ = _ := h
    exact bind_bh h (fun _ => off_bh) fun f _ h => plLoop_bh k h
theorem plLoop_nn {a : Int} {v : List Int} (hn : NN ks) (ha : 0 ≤ a) : ∀ (k : Nat) {pos : Int} {found : List Int}, (∀ p ∈ found, 0 ≤ p) → plLoop ks a k pos found = .ok v → (∀ p ∈ v, 0 ≤ p) ∧ v.length = found.length + k
  | 0, _, _, hf, h => by cases h; exact ⟨hf, rfl⟩
  | k + 1, pos, found, hf, h => by
    have h : andE (offB ks pos a) _ = _ := h
    refine xE1_2 (bind_ok h) ?_; intro f e h
    refine xE0_2 (plLoop_nn hn ha k (found := found ++ [f]) (fun p hp => (List.mem_append.mp hp).elim (hf p) fun hp => by rw [List.mem_singleton.mp hp]; exact off_nn hn ha e) h) ?_; intro h1 h2
    exact ⟨h1, by rw [h2, List.length_append]; simp; omega⟩
theorem nine_mv {p : Int} (h : 0 ≤ p) : nineAt (as ++ ks) (p + as.length) = nineAt ks p := by
  unfold nineAt
  rw [toNat_mv h, getD_mv, List.length_append]
  congr 1
  simp only [eq_iff_iff]
  constructor
  · rintro ⟨h1, h2⟩; exact ⟨by omega, h2⟩
  · rintro ⟨h1, h2⟩; exact ⟨by omega, h2⟩
theorem nine_bh {p : Int} (h : p.toNat < ks.length) : nineAt (ks ++ bs) p = nineAt ks p := by
  unfold nineAt
  rw [getD_bh h, List.length_append]
  congr 1
  simp only [eq_iff_iff]
  constructor
  · rintro ⟨_, h2⟩; exact ⟨h, h2⟩
  · rintro ⟨_, h2⟩; exact ⟨by omega, h2⟩
theorem kind_mv {p n : Int} (h : 0 ≤ p) : kindB (as ++ ks) (p + as.length) n = kindB ks p n := by unfold kindB; rw [nine_mv h]
theorem kind_bh {p n : Int} (h : p.toNat < ks.length) : kindB (ks ++ bs) p n = kindB ks p n := by unfold kindB; rw [nine_bh h]
theorem tabs_mv {n : Int} : ∀ {k0 : Option Str} {ps : List Int}, (∀ p ∈ ps, 0 ≤ p) → tabsB (as ++ ks) n k0 (ps.map (· + (as.length : Int))) = sh as.length id (tabsB ks n k0 ps)
  | none, [], _ => rfl
  | some _, [], _ => rfl
  | none, p :: r, h => by
    show tabsB (as ++ ks) n (some (kindB (as ++ ks) (p + as.length) n)) _ = sh _ _ (tabsB ks n (some (kindB ks p n)) r)
    rw [kind_mv (h p (.head _))]
    exact tabs_mv fun q hq => h q (.tail _ hq)
  | some k, p :: r, h => by
    show (if kindB (as ++ ks) (p + as.length) n = k then _ else _) = sh _ _ (if kindB ks p n = k then _ else _)
    rw [kind_mv (h p (.head _))]
    by_cases q : kindB ks p n = k
    · rw [if_pos q, if_pos q]; exact tabs_mv fun q hq => h q (.tail _ hq)
    · rw [if_neg q, if_neg q]; rfl
theorem tabs_bh {n : Int} : ∀ {k0 : Option Str} {ps : List Int}, (∀ p ∈ ps, p.toNat < ks.length) → tabsB (ks ++ bs) n k0 ps = tabsB ks n k0 ps
  | none, [], _ => rfl
  | some _, [], _ => rfl
  | none, p :: r, h => by
    show tabsB (ks ++ bs) n (some (kindB (ks ++ bs) p n)) _ = tabsB ks n (some (kindB ks p n)) r
    rw [kind_bh (h p (.head _))]
    exact tabs_bh fun q hq => h q (.tail _ hq)
  | some k, p :: r, h => by
    show (if kindB (ks ++ bs) p n = k then _ else _) = (if kindB ks p n = k then _ else _)
    rw [kind_bh (h p (.head _))]
    by_cases q : kindB ks p n = k
    · rw [if_pos q, if_pos q]; exact tabs_bh fun q hq => h q (.tail _ hq)
    · rw [if_neg q, if_neg q]
theorem mark_mv {a f : Int} (h : 0 ≤ a) : markB (as ++ ks) (a + as.length) f = sh as.length id (markB ks a f) := by
  unfold markB
  by_cases q : Builtin.bitAnd f 16 = 0
  · rw [if_pos q, if_pos q]; rfl
  · rw [if_neg q, if_neg q]; exact u16_mv h
theorem mark_bh {a f v : Int} (h : markB ks a f = .ok v) : markB (ks ++ bs) a f = .ok v := by
  unfold markB at h ⊢
  by_cases q : Builtin.bitAnd f 16 = 0
  · rw [if_pos q] at h ⊢; exact h
  · rw [if_neg q] at h ⊢; exact u16_bh h
noncomputable def mvL (A : Int) (x : Str × Int × Int × Int × List Int) : Str × Int × Int × Int × List Int := (x.1, x.2.1, x.2.2.1, x.2.2.2.1, x.2.2.2.2.map (· + A))
theorem look_mv {a : Int} (hn : NN ks) (h : 0 ≤ a) : lookupB (as ++ ks) (a + as.length) = sh as.length (mvL as.length) (lookupB ks a) := by
  unfold lookupB
  refine andE_sh (u16_mv h) fun number _ => ?_
  rw [show a + (as.length : Int) + 2 = a + 2 + as.length by omega]
  refine andE_sh (u16_mv (by omega)) fun flag _ => ?_
  rw [show a + 2 + (as.length : Int) + 2 = a + 2 + 2 + as.length by omega]
  refine andE_sh (u16_mv (by omega)) fun count ec => ?_
  have hc := u16_nn hn ec
  show (if count = 0 then _ else _) = sh _ _ (if count = 0 then _ else _)
  by_cases q : count = 0
  · rw [if_pos q, if_pos q]
    rw [show a + (as.length : Int) + 4 = a + 4 + as.length by omega]
    rfl
  · rw [if_neg q, if_neg q]
    rw [show a + 2 + 2 + (as.length : Int) + 2 = a + 2 + 2 + 2 + as.length by omega]
    refine andE_sh (plLoop_mv (found := []) count.toNat (by omega)) fun ps ep => ?_
    rw [show a + 2 + 2 + 2 + (as.length : Int) + 2 * (id count) = a + 2 + 2 + 2 + 2 * count + as.length by show _ + 2 * count = _; omega]
    refine andE_sh (mark_mv (by omega)) fun ms _ => ?_
    exact andE_sh (tabs_mv (plLoop_nn hn h count.toNat (found := []) (fun _ h => nomatch h) ep).1) fun k0 _ => rfl
theorem look_bh {a : Int} {k : Str} {n f m : Int} {ps : List Int} (h : lookupB ks a = .ok (k, n, f, m, ps)) (hp : ∀ p ∈ ps, p.toNat < ks.length) : lookupB (ks ++ bs) a = .ok (k, n, f, m, ps) := by
  unfold lookupB at h ⊢
  refine bind_bh h (fun _ => u16_bh) fun number _ h => bind_bh h (fun _ => u16_bh) fun flag _ h => bind_bh h (fun _ => u16_bh) fun count _ h => ?_
  by_cases q : count = 0
  · rw [if_pos q] at h; cases h
  · rw [if_neg q] at h ⊢
    refine bind_bh h (fun _ => plLoop_bh count.toNat) fun qs _ h => bind_bh h (fun _ => mark_bh) fun ms _ h => ?_
    refine xE1_2 (bind_ok h) ?_; intro k0 e h2
    cases h2
    rw [tabs_bh hp, e]
    rfl
theorem look_len {a : Int} {k : Str} {n f m : Int} {ps : List Int} (hn : NN ks) (hlt : ∀ p v, u16 ks p = .ok v → v < 65536) (ha : 0 ≤ a) (h : lookupB ks a = .ok (k, n, f, m, ps)) : ps.length < 65536 ∧ ∀ p ∈ ps, 0 ≤ p := by
  unfold lookupB at h
  refine xE1_2 (bind_ok h) ?_; intro _ _ h
  refine xE1_2 (bind_ok h) ?_; intro _ _ h
  refine xE1_2 (bind_ok h) ?_; intro count ec h
  have hc := u16_nn hn ec
  have hc2 := hlt _ _ ec
  by_cases q : count = 0
  · rw [if_pos q] at h; cases h
  · rw [if_neg q] at h
    refine xE1_2 (bind_ok h) ?_; intro qs ep h
    refine xE1_2 (bind_ok h) ?_; intro _ _ h
    refine xE1_2 (bind_ok h) ?_; intro _ _ h
    cases h
    refine xE0_2 (plLoop_nn hn ha count.toNat (found := []) (fun _ h => nomatch h) ep) ?_; intro h1 h2
    exact ⟨by rw [h2]; simp; omega, h1⟩
end
end
section
open PySem.Calls
def WOk {α : Type} (x : Except (Str × Int) α) : Prop := ∀ w p, x = .error (w, p) → PyData.strOk w = true
theorem WOk.andE {α β : Type} {x : Except (Str × Int) α} {k : α → Except (Str × Int) β} (h1 : WOk x) (h2 : ∀ v, WOk (k v)) : WOk (andE x k) := fun w p h => by
  cases e : x with
  | error z =>
    rw [e] at h
    have h : (Except.error z : Except (Str × Int) β) = .error (w, p) := h
    cases h
    exact h1 w p e
  | ok v => rw [e] at h; exact h2 v w p h
theorem WOk.ok {α : Type} {v : α} : WOk (.ok v : Except (Str × Int) α) := fun _ _ h => nomatch h
theorem WOk.err {α : Type} {s : String} {q : Int} : WOk (.error (Str.ofString s, q) : Except (Str × Int) α) := fun w p h => by cases h; exact ofS_ok s
theorem WOk.ite {α : Type} {c : Prop} [Decidable c] {x y : Except (Str × Int) α} (h1 : WOk x) (h2 : WOk y) : WOk (if c then x else y) := by split; exact h1; exact h2
section
variable {ks : List Int}
theorem u16_w {a : Int} : WOk (u16 ks a) := .ite .ok .err
theorem tag_w {a : Int} : WOk (tagAt ks a) := .ite .ok .err
theorem rows_w {a : Int} {c : Nat} : WOk (rowsAt ks a c) := .ite .ok .err
theorem off_w {a b : Int} : WOk (offB ks a b) := fun w p h => by
  unfold offB at h
  cases e : u16 ks a with
  | error z =>
    rw [e] at h
    have h : (Except.error z : Except (Str × Int) Int) = .error (w, p) := h
    cases h
    exact u16_w w p e
  | ok o =>
    rw [e] at h
    exact (WOk.ite (c := o = 0) (.err (s := "an offset of 0")) .ok : WOk (if o = 0 then .error ("an offset of 0", a) else .ok (b + o))) w p h
theorem lang_w {a : Int} : WOk (langB ks a) := u16_w.andE fun _ => u16_w.andE fun _ => u16_w.andE fun _ => rows_w.andE fun _ => .ok
theorem feat_w {a : Int} : WOk (featB ks a) := u16_w.andE fun _ => u16_w.andE fun _ => rows_w.andE fun _ => .ok
theorem turn_w {a pos : Int} {asc : Bool} {found : List (Str × Int)} : WOk (recTurn ks a asc pos found) := tag_w.andE fun _ => .ite .err (off_w.andE fun _ => .ok)
theorem loop_w {a : Int} {asc : Bool} : ∀ (k : Nat) {pos : Int} {found : List (Str × Int)}, WOk (recLoop ks a asc k pos found)
  | 0, _, _ => .ok
  | k + 1, _, _ => turn_w.andE fun _ => loop_w k
theorem rec_w {a lead : Int} {asc : Bool} : WOk (recB ks a lead asc) := u16_w.andE fun _ => loop_w _
theorem langs_w : ∀ {rs : List (Str × Int)}, WOk (langsB ks rs)
  | [] => .ok
  | _ :: _ => lang_w.andE fun _ => langs_w.andE fun _ => .ok
theorem script_w {a : Int} : WOk (scriptB ks a) := u16_w.andE fun _ => (WOk.ite (lang_w.andE fun _ => .ok) .ok : WOk (defB ks a _)).andE fun _ => rec_w.andE fun _ => langs_w.andE fun _ => .ok
theorem pl_w {a : Int} : ∀ (k : Nat) {pos : Int} {found : List Int}, WOk (plLoop ks a k pos found)
  | 0, _, _ => .ok
  | k + 1, _, _ => off_w.andE fun _ => pl_w k
theorem tabs_w {n : Int} : ∀ {k0 : Option Str} {ps : List Int}, WOk (tabsB ks n k0 ps)
  | none, [] => .ok
  | some _, [] => .ok
  | none, _ :: _ => tabs_w (k0 := some _)
  | some _, _ :: _ => .ite tabs_w .err
theorem mark_w {a f : Int} : WOk (markB ks a f) := .ite .ok u16_w
theorem look_w {a : Int} : WOk (lookupB ks a) := u16_w.andE fun _ => u16_w.andE fun _ => u16_w.andE fun _ => .ite .err ((pl_w _).andE fun _ => mark_w.andE fun _ => tabs_w.andE fun _ => .ok)
def TagsOk (l : List (Str × Int)) : Prop := ∀ r ∈ l, PyData.strOk r.1 = true
theorem turn_tags {b : Array UInt8} {a pos : Int} {asc : Bool} {found v : List (Str × Int)} (hb : KBw.bInts b = ks) (hf : TagsOk found) (h : recTurn ks a asc pos found = .ok v) : TagsOk v := by
  unfold recTurn at h
  refine xE1_2 (bind_ok h) ?_; intro tag et h
  by_cases q : (asc && tooLow found tag) = true
  · rw [if_pos q] at h; cases h
  · rw [if_neg q] at h
    refine xE1_2 (bind_ok h) ?_; intro pl e h
    cases h
    intro p hp
    rcases List.mem_append.mp hp with hp | hp
    · exact hf p hp
    · rw [List.mem_singleton.mp hp]; exact tag_ok hb et
theorem loop_tags {b : Array UInt8} {a : Int} {asc : Bool} {v : List (Str × Int)} (hb : KBw.bInts b = ks) : ∀ (k : Nat) {pos : Int} {found : List (Str × Int)}, TagsOk found → recLoop ks a asc k pos found = .ok v → TagsOk v
  | 0, _, _, hf, h => by cases h; exact hf
  | k + 1, pos, found, hf, h => by
    have h : andE (recTurn ks a asc pos found) _ = _ := h
    refine xE1_2 (bind_ok h) ?_; intro f e h
    exact loop_tags hb k (turn_tags hb hf e) h
theorem rec_tags {b : Array UInt8} {a lead : Int} {asc : Bool} {v : List (Str × Int)} (hb : KBw.bInts b = ks) (h : recB ks a lead asc = .ok v) : TagsOk v := by
  unfold recB at h
  refine xE1_2 (bind_ok h) ?_; intro c _ h
  exact loop_tags hb c.toNat (found := []) (fun _ h => nomatch h) h
theorem langs_tags : ∀ {rs : List (Str × Int)} {v : List (Str × (Int × List Int))}, TagsOk rs → langsB ks rs = .ok v → ∀ r ∈ v, PyData.strOk r.1 = true
  | [], _, _, h => by cases h; exact fun _ h => nomatch h
  | p :: r, v, ht, h => by
    have h : andE (langB ks p.2) _ = _ := h
    refine xE1_2 (bind_ok h) ?_; intro x _ h
    refine xE1_2 (bind_ok h) ?_; intro l el h
    cases h
    exact List.forall_mem_cons.mpr ⟨ht p (.head _), langs_tags (fun q hq => ht q (.tail _ hq)) el⟩
end
theorem ints_ok {n : Nat} (fs : List Int) : kqdOk (n + 1) (.tuple (fs.map .int)) = true := by
  simp only [kqdOk, List.all_map, List.all_eq_true]
  intro x _
  cases n <;> rfl
theorem lang_ok (r : Int) (fs : List Int) {n : Nat} : kqdOk (n + 3) (langDat r fs) = true := by
  unfold langDat
  simp only [kqdOk, List.all_cons, List.all_nil, Bool.and_true, Bool.true_and, List.all_map, List.all_eq_true]
  intro x _
  rfl
theorem heard_ok {X : Dat → Prop} {R : Str → Int → Prop} {d : Dat} (h : HeardX X R d) (hX : ∀ x, X x → kqdOk 7 x = true) (hR : ∀ w p, R w p → PyData.strOk w = true) : kqdOk 8 d = true := by
  rcases h with ⟨x, hx, rfl⟩ | ⟨w, p, hw, rfl⟩
  · simp only [kqdOk, List.all_cons, List.all_nil, Bool.and_true, hX x hx, ofS_ok]
  · simp only [kqdOk, List.all_cons, List.all_nil, Bool.and_true, hR w p hw, ofS_ok]
theorem script_ok {dd : Option (Int × List Int)} {ls : List (Str × (Int × List Int))} (h : ∀ r ∈ ls, PyData.strOk r.1 = true) : kqdOk 7 (scriptDat "latn" dd ls) = true := by
  have hd : kqdOk 6 (defDat dd) = true := by
    cases dd with
    | none => rfl
    | some x => exact lang_ok _ _ (n := 3)
  have hl : kqdOk 6 (.tuple (langsDat ls)) = true := by
    unfold langsDat
    simp only [kqdOk, List.all_map, List.all_eq_true]
    intro r hr
    show kqdOk 5 (.tuple [.str r.1, langDat r.2.1 r.2.2]) = true
    simp only [kqdOk, List.all_cons, List.all_nil, Bool.and_true, h r hr, lang_ok r.2.1 r.2.2 (n := 1)]
  unfold scriptDat
  simp only [kqdOk, List.all_cons, List.all_nil, Bool.and_true] at hd hl ⊢
  simp only [hd, hl, ofS_ok, Bool.and_self]
end
section
open PySem.Calls
theorem bInts_app {z b : Array UInt8} : KBw.bInts (z ++ b) = KBw.bInts z ++ KBw.bInts b := by
  unfold KBw.bInts
  simp
theorem bInts_nn {b : Array UInt8} : NN (KBw.bInts b) := fun n => (getD_of rfl n).1
theorem script_tags {b : Array UInt8} {a : Int} {dd : Option (Int × List Int)} {ls : List (Str × (Int × List Int))} (h : scriptB (KBw.bInts b) a = .ok (dd, ls)) : ∀ r ∈ ls, PyData.strOk r.1 = true := by
  unfold scriptB at h
  refine xE1_2 (bind_ok h) ?_; intro _ _ h
  refine xE1_2 (bind_ok h) ?_; intro _ _ h
  refine xE1_2 (bind_ok h) ?_; intro rs er h
  refine xE1_2 (bind_ok h) ?_; intro l el h
  cases h
  exact langs_tags (rec_tags rfl er) el
theorem feat_ok (fs : List Int) : kqdOk 7 (featDat "liga" fs) = true := by
  unfold featDat
  simp only [kqdOk, List.all_cons, List.all_nil, Bool.and_true, ofS_ok, Bool.true_and, List.all_map, List.all_eq_true]
  intro x _
  rfl
theorem recs_ok {a : Int} {rs : List (Str × Int)} (h : ∀ r ∈ rs, PyData.strOk r.1 = true) : kqdOk 7 (.list (recsDat a rs)) = true := by
  unfold recsDat
  simp only [kqdOk, List.all_map, List.all_eq_true]
  intro r hr
  show kqdOk 6 (.tuple [.str r.1, .int (r.2 - a)]) = true
  simp only [kqdOk, List.all_cons, List.all_nil, Bool.and_true, h r hr]
theorem look_ok {a : Int} {k : Str} {n f m : Int} {ps : List Int} (h : PyData.strOk k = true) : kqdOk 7 (lawLookDat a k n f m ps) = true := by
  unfold lawLookDat
  simp only [kqdOk, List.all_cons, List.all_nil, Bool.and_true, h, Bool.true_and, List.all_map, List.all_eq_true]
  intro p _
  rfl
theorem reads_ok {b : Array UInt8} {a : Int} {r : Addr} {tl : List (Addr × Obj)} {vs : List Value} {n : Nat} {d0 d1 d2 d3 d4 : Dat} (h : ReadsT (KBw.bInts b) a r tl vs n d0 d1 d2 d3 d4) : ∀ d ∈ [d0, d1, d2, d3, d4], kqdOk 8 d = true :=
  List.forall_mem_cons.mpr ⟨heard_ok h.h0 (fun x ⟨dd, ls, e, q⟩ => q ▸ script_ok (script_tags e)) fun w p e => script_w w p e,
    List.forall_mem_cons.mpr ⟨heard_ok h.h1 (fun x ⟨fs, e, q⟩ => q ▸ feat_ok fs) fun w p e => feat_w w p e,
      all3 (heard_ok h.h2 (fun x ⟨rs, e, ht, q⟩ => q ▸ recs_ok ht) fun w p e => rec_w w p e) (heard_ok h.h3 (fun x ⟨rs, e, ht, q⟩ => q ▸ recs_ok ht) fun w p e => rec_w w p e) (heard_ok h.h4 (fun x ⟨k, n, f, m, ps, e, hk, _, q⟩ => q ▸ look_ok hk) fun w p e => look_w w p e)⟩⟩
theorem pair_mv {α α' : Type} {A : Int} {f : α → α'} {x : Except (Str × Int) α} {x' : Except (Str × Int) α'} (hx : x' = sh A f x) {X X' : Dat → Prop} {R R' : Str → Int → Prop} {d e : Dat} {D : α → Dat} {D' : α' → Dat} (hd : HeardX X R d) (he : HeardX X' R' e)
    (ok : ∀ t, X t → ∃ v, x = .ok v ∧ D v = t) (ok' : ∀ t, X' t → ∃ v, x' = .ok v ∧ D' v = t) (hD : ∀ v, x = .ok v → D' (f v) = D v) (er : ∀ w p, R w p → x = .error (w, p)) (er' : ∀ w p, R' w p → x' = .error (w, p)) : e = movedD A d := by
  rcases hd with ⟨t, ht, rfl⟩ | ⟨w, p, hw, rfl⟩
  · refine xE1_2 (ok t ht) ?_; intro v ev zq1'; subst zq1'
    rw [ev] at hx
    rcases he with ⟨t', ht', rfl⟩ | ⟨w', p', hw', rfl⟩
    · refine xE1_2 (ok' t' ht') ?_; intro v' ev' zq2'; subst zq2'
      rw [hx] at ev'
      cases ev'
      rw [movedD_told, hD v ev]
    · have := er' w' p' hw'
      rw [hx] at this
      cases this
  · rw [er w p hw] at hx
    rcases he with ⟨t', ht', rfl⟩ | ⟨w', p', hw', rfl⟩
    · refine xE1_2 (ok' t' ht') ?_; intro v' ev' zq3'; subst zq3'
      rw [hx] at ev'
      cases ev'
    · have := er' w' p' hw'
      rw [hx] at this
      cases this
      rfl
theorem pair_bh {α : Type} {x x' : Except (Str × Int) α} {X X' : Dat → Prop} {R R' : Str → Int → Prop} {t e : Dat} {D : α → Dat} (hd : HeardX X R (.tuple [.str "told", t])) (he : HeardX X' R' e)
    (ok : ∀ t, X t → ∃ v, x = .ok v ∧ D v = t) (ok' : ∀ t, X' t → ∃ v, x' = .ok v ∧ D v = t) (hbh : ∀ v, x = .ok v → D v = t → x' = .ok v) (er' : ∀ w p, R' w p → x' = .error (w, p)) : e = .tuple [.str "told", t] := by
  rcases hd with ⟨t2, ht, q⟩ | ⟨w, p, hw, q⟩
  · injection q with q
    injection q with q1 q2
    injection q2 with q2 _
    subst q2
    refine xE1_2 (ok _ ht) ?_; intro v ev hv
    have hx := hbh v ev hv
    rcases he with ⟨t', ht', rfl⟩ | ⟨w', p', hw', rfl⟩
    · refine xE1_2 (ok' t' ht') ?_; intro v' ev' zq4'; subst zq4'
      rw [hx] at ev'
      cases ev'
      rw [hv]
    · have := er' w' p' hw'
      rw [hx] at this
      cases this
  · injection q with q
    injection q with _ q2
    injection q2 with _ q3
    cases q3
theorem recs_mv {A : Int} {rs : List (Str × Int)} : recsDat A (rs.map (mvP A)) = recsDat 0 rs := by
  unfold recsDat
  rw [List.map_map]
  refine List.map_congr_left fun r _ => ?_
  show Dat.tuple [.str r.1, .int (r.2 + A - A)] = .tuple [.str r.1, .int (r.2 - 0)]
  rw [Int.add_sub_cancel, Int.sub_zero]
theorem lawtab_mv {A n : Int} {ps : List Int} : (ps.map (· + A)).map (lawTab A n) = ps.map (lawTab 0 n) := by
  rw [List.map_map]
  refine List.map_congr_left fun p _ => ?_
  show Dat.tuple [.int (p + A - A), .tuple [.int n]] = .tuple [.int (p - 0), .tuple [.int n]]
  rw [Int.add_sub_cancel, Int.sub_zero]
theorem reads_moved {b z : Array UInt8} {r r2 : Addr} {tl tl2 : List (Addr × Obj)} {vs vs2 : List Value} {n n2 : Nat} {d0 d1 d2 d3 d4 e0 e1 e2 e3 e4 : Dat} (h : ReadsT (KBw.bInts b) 0 r tl vs n d0 d1 d2 d3 d4) (h2 : ReadsT (KBw.bInts (z ++ b)) (z.size : Int) r2 tl2 vs2 n2 e0 e1 e2 e3 e4) :
    [e0, e1, e2, e3, e4] = List.map (movedD (z.size : Int)) [d0, d1, d2, d3, d4] := by
  have hl : ((KBw.bInts z).length : Int) = z.size := by rw [KBw.ints_length]
  rw [bInts_app] at h2
  have hn := bInts_nn (b := b)
  have m0 := script_mv (as := KBw.bInts z) (a := 0) hn (Int.le_refl 0)
  have m1 := feat_mv (as := KBw.bInts z) (ks := KBw.bInts b) (a := 0) (Int.le_refl 0)
  have m2 := rec_mv (as := KBw.bInts z) (ks := KBw.bInts b) (a := 0) (lead := 2) (asc := true) (Int.le_refl 0) (by decide)
  have m3 := rec_mv (as := KBw.bInts z) (ks := KBw.bInts b) (a := 0) (lead := 0) (asc := false) (Int.le_refl 0) (by decide)
  have m4 := look_mv (as := KBw.bInts z) (a := 0) hn (Int.le_refl 0)
  rw [hl, Int.zero_add] at m0 m1 m2 m3 m4
  have q0 := pair_mv m0 (D := fun v => scriptDat "latn" v.1 v.2) (D' := fun v => scriptDat "latn" v.1 v.2) h.h0 h2.h0 (fun t ⟨dd, ls, e, q⟩ => ⟨(dd, ls), e, q.symm⟩) (fun t ⟨dd, ls, e, q⟩ => ⟨(dd, ls), e, q.symm⟩) (fun v _ => rfl) (fun _ _ e => e) (fun _ _ e => e)
  have q1 := pair_mv m1 (D := featDat "liga") (D' := featDat "liga") h.h1 h2.h1 (fun t ⟨fs, e, q⟩ => ⟨fs, e, q.symm⟩) (fun t ⟨fs, e, q⟩ => ⟨fs, e, q.symm⟩) (fun v _ => rfl) (fun _ _ e => e) (fun _ _ e => e)
  have q2 := pair_mv m2 (D := fun rs => .list (recsDat 0 rs)) (D' := fun rs => .list (recsDat z.size rs)) h.h2 h2.h2 (fun t ⟨rs, e, _, q⟩ => ⟨rs, e, q.symm⟩) (fun t ⟨rs, e, _, q⟩ => ⟨rs, e, q.symm⟩) (fun v _ => by show Dat.list _ = Dat.list _; rw [recs_mv]) (fun _ _ e => e) (fun _ _ e => e)
  have q3 := pair_mv m3 (D := fun rs => .list (recsDat 0 rs)) (D' := fun rs => .list (recsDat z.size rs)) h.h3 h2.h3 (fun t ⟨rs, e, _, q⟩ => ⟨rs, e, q.symm⟩) (fun t ⟨rs, e, _, q⟩ => ⟨rs, e, q.symm⟩) (fun v _ => by show Dat.list _ = Dat.list _; rw [recs_mv]) (fun _ _ e => e) (fun _ _ e => e)
  have q4 := pair_mv m4 (D := fun v => lawLookDat 0 v.1 v.2.1 v.2.2.1 v.2.2.2.1 v.2.2.2.2) (D' := fun v => lawLookDat z.size v.1 v.2.1 v.2.2.1 v.2.2.2.1 v.2.2.2.2) h.h4 h2.h4 (fun t ⟨k, n, f, m, ps, e, _, _, q⟩ => ⟨(k, n, f, m, ps), e, q.symm⟩) (fun t ⟨k, n, f, m, ps, e, _, _, q⟩ => ⟨(k, n, f, m, ps), e, q.symm⟩)
    (fun v _ => by
      show lawLookDat _ v.1 v.2.1 v.2.2.1 v.2.2.2.1 (v.2.2.2.2.map (· + (z.size : Int))) = _
      unfold lawLookDat
      rw [lawtab_mv]) (fun _ _ e => e) (fun _ _ e => e)
  rw [q0, q1, q2, q3, q4]
  rfl
noncomputable def placesOf : Dat → List Int
  | .tuple [_, .tuple [_, _, _, .tuple ts]] => ts.filterMap fun t => match t with
    | .tuple (.int p :: _) => some p
    | _ => none
  | _ => []
theorem places_look {a nk fl mk : Int} {kk : Str} {ps : List Int} : placesOf (.tuple [.str "told", lawLookDat a kk nk fl mk ps]) = ps.map fun p => p - a := by
  show (ps.map (lawTab a nk)).filterMap _ = _
  induction ps with
  | nil => rfl
  | cons p r ih => rw [List.map_cons, List.map_cons, List.filterMap_cons]; simp only [lawTab]; rw [← ih]
theorem reads_longer {b z : Array UInt8} {r r2 : Addr} {tl tl2 : List (Addr × Obj)} {vs vs2 : List Value} {n n2 : Nat} {d0 d1 d2 d3 d4 e0 e1 e2 e3 e4 : Dat} (h : ReadsT (KBw.bInts b) 0 r tl vs n d0 d1 d2 d3 d4) (h2 : ReadsT (KBw.bInts (b ++ z)) 0 r2 tl2 vs2 n2 e0 e1 e2 e3 e4) :
    ∀ i x, [d0, d1, d2, d3, d4][i]? = some (.tuple [.str "told", x]) → (i < 4 ∨ ∀ p ∈ placesOf (.tuple [.str "told", x]), p < (b.size : Int)) → [e0, e1, e2, e3, e4][i]? = some (.tuple [.str "told", x]) := by
  rw [bInts_app] at h2
  intro i x hd hp
  match i, hd, hp with
  | 0, hd, _ =>
    have h0 := h.h0
    rw [Option.some.inj hd] at h0
    exact congrArg some (pair_bh (D := fun v => scriptDat "latn" v.1 v.2) h0 h2.h0 (fun t ⟨dd, ls, e, q⟩ => ⟨(dd, ls), e, q.symm⟩) (fun t ⟨dd, ls, e, q⟩ => ⟨(dd, ls), e, q.symm⟩) (fun v e _ => script_bh e) (fun _ _ e => e))
  | 1, hd, _ =>
    have h0 := h.h1
    rw [Option.some.inj hd] at h0
    exact congrArg some (pair_bh (D := featDat "liga") h0 h2.h1 (fun t ⟨fs, e, q⟩ => ⟨fs, e, q.symm⟩) (fun t ⟨fs, e, q⟩ => ⟨fs, e, q.symm⟩) (fun v e _ => feat_bh e) (fun _ _ e => e))
  | 2, hd, _ =>
    have h0 := h.h2
    rw [Option.some.inj hd] at h0
    exact congrArg some (pair_bh (D := fun rs => .list (recsDat 0 rs)) h0 h2.h2 (fun t ⟨rs, e, _, q⟩ => ⟨rs, e, q.symm⟩) (fun t ⟨rs, e, _, q⟩ => ⟨rs, e, q.symm⟩) (fun v e _ => rec_bh e) (fun _ _ e => e))
  | 3, hd, _ =>
    have h0 := h.h3
    rw [Option.some.inj hd] at h0
    exact congrArg some (pair_bh (D := fun rs => .list (recsDat 0 rs)) h0 h2.h3 (fun t ⟨rs, e, _, q⟩ => ⟨rs, e, q.symm⟩) (fun t ⟨rs, e, _, q⟩ => ⟨rs, e, q.symm⟩) (fun v e _ => rec_bh e) (fun _ _ e => e))
  | 4, hd, hp =>
    have h0 := h.h4
    rw [Option.some.inj hd] at h0
    have hp := hp.resolve_left (by decide)
    refine congrArg some (pair_bh (D := fun v => lawLookDat 0 v.1 v.2.1 v.2.2.1 v.2.2.2.1 v.2.2.2.2) h0 h2.h4 (fun t ⟨k, n, f, m, ps, e, _, _, q⟩ => ⟨(k, n, f, m, ps), e, q.symm⟩) (fun t ⟨k, n, f, m, ps, e, _, _, q⟩ => ⟨(k, n, f, m, ps), e, q.symm⟩) (fun v e hv => ?_) (fun _ _ e => e))
    obtain ⟨k, nn, f, m, ps⟩ := v
    have hx : x = lawLookDat 0 k nn f m ps := hv.symm
    rw [hx, places_look] at hp
    refine look_bh e fun p hm => ?_
    have z1 := hp (p - 0) (List.mem_map_of_mem hm)
    have z2 := (look_len bInts_nn (fun _ _ e => (u16_lt rfl e).2) (Int.le_refl 0) e).2 p hm
    rw [KBw.ints_length]
    omega
  | k + 5, hd, _ => simp at hd
theorem reads_look {b : Array UInt8} {r : Addr} {tl : List (Addr × Obj)} {vs : List Value} {n : Nat} {d0 d1 d2 d3 d4 : Dat} {kk : Str} {nk fl mk : Int} {ps : List Int} (_h : ReadsT (KBw.bInts b) 0 r tl vs n d0 d1 d2 d3 d4) (hB : lookupB (KBw.bInts b) 0 = .ok (kk, nk, fl, mk, ps)) : ps.length < 65536 :=
  (look_len bInts_nn (fun _ _ e => (u16_lt rfl e).2) (Int.le_refl 0) hB).1
end
section
open PySem.Calls
structure ItemL (a : Addr) (k : Int) (v : Value) (U : List (Addr × Obj)) : Prop where
  out : ∃ vs n, (a, listOf (List.toArray vs) n) ∈ U ∧ 0 ≤ k ∧ k < 100 ∧ vs[k.toNat]? = some v
structure ItemT (t : Addr) (k : Int) (v : Value) (U : List (Addr × Obj)) : Prop where
  out : ∃ vs n, (t, ({ cls := .type "tuple", data := .seq (List.toArray vs) n } : Obj)) ∈ U ∧ 0 ≤ k ∧ k < 100 ∧ vs[k.toNat]? = some v
section
variable {prog : Program} {w : World} {A : Around} {E : Value → Shared → Prop} {s : Shared} {g : Heap} {L : Addr} {led U : List (Addr × Obj)} {value slice : PySem.Expr} {Q : Value → Shared → Prop}
theorem item_L {a : Addr} {k : Int} {u : Tok} {v : Value} (N : News g L s.heap led) (hI : ItemL a k v U) (hU : ∀ p ∈ U, p ∈ led) (h : Q v s)
    (hs : subscripted slice false (.ref a) (.int k u) = operate [.ref a, .int k u] (getItem (.ref a) (.int k u)) := by with_unfolding_all rfl) :
    wpAny (model prog w) A (subscriptTail value slice (.ref a) (.int k u)) Q E s := by
  refine xE2_4 (hI.out) ?_; intro vs n hm h0 h1 h2
  have hl := News.isList N (hU _ hm)
  exact tail_any hl.typeIs slot_list_getitem.lookup (wpAny_getItem_list (x := v) hl h0 (by omega) (by rw [List.getElem?_toArray]; exact h2) h) hs
theorem item_T {t : Addr} {k : Int} {u : Tok} {v : Value} (N : News g L s.heap led) (hI : ItemT t k v U) (hU : ∀ p ∈ U, p ∈ led) (h : Q v s)
    (hs : subscripted slice false (.ref t) (.int k u) = operate [.ref t, .int k u] (getItem (.ref t) (.int k u)) := by with_unfolding_all rfl) :
    wpAny (model prog w) A (subscriptTail value slice (.ref t) (.int k u)) Q E s := by
  refine xE2_4 (hI.out) ?_; intro vs n hm h0 h1 h2
  have hlt : k.toNat < vs.length := (List.getElem?_eq_some_iff.mp h2).1
  refine item_tupleT (l := vs) (j := k.toNat) ⟨_, (N _ (hU _ hm)).1, rfl, n, rfl⟩ (by omega) (by omega) ?_ h2 h hs
  unfold seqIndex?
  simp only [show ¬ k < 0 by omega, if_false]
  rw [if_pos (by simp; omega)]
theorem val_same {a b : Value} {d e : Dat} {n₁ n₂ : List (Addr × Obj)} (N : News g L s.heap led) (Da : DatIn n₁ a d) (sa : ∀ p ∈ n₁, p ∈ led) (Db : DatIn n₂ b e) (sb : ∀ p ∈ n₂, p ∈ led) (he : d = e) (hk : kqdOk 8 d = true) (hu : A.units + 64 < cLine) (h : Q (.bool false) s) :
    wpAny (model prog w) A (compareOp .NotEq a b) Q E s := by
  subst he
  refine xE1_1 (kqd_in N 8 (Da.mono sa) hk) ?_; intro as ra
  refine xE1_1 (kqd_in N 8 (Db.mono sb) hk) ?_; intro bs rb
  have la := kqd_lay 8 d hk
  have sh : SeqAt.shaped (kqdP d) = true := by unfold SeqAt.shaped; rw [la.1, Bool.true_and]; exact decide_eq_true (Nat.le_trans la.2 (by decide))
  refine ne_dataH ra rb sh sh hu ?_
  rw [(kqd_eqv 8 d d 8 hk hk).mpr rfl]
  exact h
end
theorem dat_get {tl : List (Addr × Obj)} {vs : List Value} {ds : List Dat} (h : DatAll tl vs ds) {i : Nat} (hi : i < ds.length) : ∃ v d, vs[i]? = some v ∧ ds[i]? = some d ∧ DatIn tl v d := by
  have hl := h.length
  have hv : vs[i]? = some (vs[i]'(by omega)) := List.getElem?_eq_getElem _
  refine xE1_2 (dat_at h (i := i) (v := vs[i]'(by omega)) (by simp)) ?_; intro d e z
  exact xI2_3 _ d hv e z
theorem ReadsT.item {ks : List Int} {a : Int} {r : Addr} {tl U : List (Addr × Obj)} {vs : List Value} {n : Nat} {d0 d1 d2 d3 d4 : Dat} (h : ReadsT ks a r tl vs n d0 d1 d2 d3 d4) (hU : ∀ p ∈ tl, p ∈ U) {i : Nat} (hi : i < 5) : ∃ v d, ItemL r (i : Int) v U ∧ [d0, d1, d2, d3, d4][i]? = some d ∧ DatIn tl v d ∧ HeardS d := by
  refine xE2_3 (dat_get h.all (i := i) hi) ?_; intro v d h1 h2 h3
  exact xI2_4 v d ⟨vs, n, hU _ h.mem, by omega, by omega, by rw [Int.toNat_natCast]; exact h1⟩ h2 h3 (h.shape d (List.mem_of_getElem? h2))
theorem item_told {tl U : List (Addr × Obj)} {v : Value} {x : Dat} (h : DatIn tl v (.tuple [.str "told", x])) (hU : ∀ p ∈ tl, p ∈ U) : ∃ t t1 xv, v = .ref t ∧ ItemT t 0 (.str "told" t1) U ∧ ItemT t 1 xv U ∧ DatIn tl xv x := by
  refine (let gk : Prop := _; (?_ : gk))
  refine xE4_4 (datT2 h) ?_; intro T n x y e hm h1 h2
  refine xE1_1 (datStr h1) ?_; intro t1 e1
  exact xI3_4 T t1 y e ⟨_, n, hU _ hm, by decide, by decide, congrArg some e1⟩ ⟨_, n, hU _ hm, by decide, by decide, rfl⟩ h2
theorem item_fault {tl U : List (Addr × Obj)} {v : Value} {w : Str} {p : Int} (h : DatIn tl v (.tuple [.str "fault", .str w, .int p])) (hU : ∀ p ∈ tl, p ∈ U) : ∃ t t1, v = .ref t ∧ ItemT t 0 (.str "fault" t1) U := by
  refine xE5_2 (dat_tup3 h) ?_; intro t t1 t2 t3 n e hm
  exact xI2_2 t t1 e ⟨_, _, hU _ hm, by decide, by decide, rfl⟩
theorem item_look {tl U : List (Addr × Obj)} {v : Value} {a nk fl mk : Int} {kk : Str} {ps : List Int} (h : DatIn tl v (lawLookDat a kk nk fl mk ps)) (hU : ∀ p ∈ tl, p ∈ U) : ∃ t t3 tvs n3, v = .ref t ∧ ItemT t 3 (.ref t3) U ∧ (t3, ({ cls := .type "tuple", data := .seq (List.toArray tvs) n3 } : Obj)) ∈ tl ∧ DatAll tl tvs (ps.map (lawTab a nk)) := by
  refine (let gk : Prop := _; (?_ : gk))
  refine xE6_6 (datT4 h) ?_; intro T n x y z u e hm _ _ _ h4
  refine xE3_3 (datTup h4) ?_; intro T3 vs n3 e4 h5 h6
  exact xI4_4 T T3 vs n3 e ⟨_, n, hU _ hm, by decide, by decide, congrArg some e4⟩ h5 h6
theorem item_tab {tl : List (Addr × Obj)} {v : Value} {a n p : Int} (h : DatIn tl v (lawTab a n p)) : ∃ t t1 x2 n1, v = .ref t ∧ (t, ({ cls := .type "tuple", data := .seq #[.int (p - a) t1, x2] n1 } : Obj)) ∈ tl := by
  refine (let gk : Prop := _; (?_ : gk))
  refine xE4_4 (datT2 h) ?_; intro T n x y e hm h1 h2
  refine xE1_1 (datInt h1) ?_; intro t1 e1
  rw [e1] at hm
  exact xI4_2 T t1 y n e hm
def MaxJ (led : List (Addr × Obj)) (qs : List Int) (i : Nat) (ys : List Value) (news : List (Addr × Obj)) : Prop := news = led ∧ IntsAre ys (qs.take i)
theorem MaxJ.next {led : List (Addr × Obj)} {qs : List Int} {i : Nat} {ys : List Value} {q : Int} {t : Tok} (h : MaxJ led qs i ys led) (hq : qs[i]? = some q) : MaxJ led qs (i + 1) (ys ++ [.int q t]) led := by
  refine ⟨rfl, ?_⟩
  rw [List.take_add_one, hq]
  exact IntsAre.snoc q h.2
theorem longer4 {b z : Array UInt8} {r r2 : Addr} {tl tl2 : List (Addr × Obj)} {vs vs2 : List Value} {n n2 : Nat} {d0 d1 d2 d3 d4 e0 e1 e2 e3 e4 e : Dat} {kk : Str} {nk fl mk : Int} {ps : List Int} {M : Int} (h : ReadsT (KBw.bInts b) 0 r tl vs n d0 d1 d2 d3 d4) (h2 : ReadsT (KBw.bInts (b ++ z)) 0 r2 tl2 vs2 n2 e0 e1 e2 e3 e4)
    (hd : d4 = .tuple [.str "told", lawLookDat 0 kk nk fl mk ps]) (hM : ∀ a, a ∈ ps.map (fun p => p - 0) → a ≤ M) (hlt : M < (b.size : Int)) (he : [e0, e1, e2, e3, e4][4]? = some e) : .tuple [.str "told", lawLookDat 0 kk nk fl mk ps] = e ∧ kqdOk 8 (.tuple [.str "told", lawLookDat 0 kk nk fl mk ps]) = true := by
  subst hd
  have q := reads_longer h h2 4 (lawLookDat 0 kk nk fl mk ps) rfl (.inr (by rw [places_look]; exact fun p hp => Int.lt_of_le_of_lt (hM p hp) hlt))
  rw [he] at q
  exact ⟨(Option.some.inj q).symm, reads_ok h _ (List.mem_of_getElem? (i := 4) rfl)⟩
end
section
open PySem.Calls
theorem bytes_leD {prog : Program} {w : World} {A : Around} {E : Value → Shared → Prop} {s : Shared} {g : Heap} {L l : Addr} {m : Str → Option Value} {r : List (Addr × Obj)} {Q : Value → Shared → Prop} {its : List Value} {kl lo hi : Nat} (F : Fr g L s.heap m) (N : News g L s.heap ((l, listOf (List.toArray its) kl) :: r)) (hI : IntsLe 255 its) (hL : LenIn lo hi its) (hz : Nat.ble hi 1000 = true) (hh : A.handled = none)
    (h : ∀ z h' t k, Sz lo hi z → Fr g L h' m → News g L h' r → Q (.bytes z t) { s with heap := h', toks := k }) : wpAny (model prog w) A (call (.type "bytes") [.ref l]) Q E s :=
  bytes_le F N (.head _) hI hL hz hh fun z h' t k hs F' N' => h z h' t k hs F' fun p hp => N' p (.tail _ hp)
theorem pen_led {g h h' : Heap} {L P C : Addr} {m : Str → Option Value} {led : List (Addr × Obj)} {oP oC : Obj} (F : Fr g L h m) (N : News g L h led) (hk : ∀ b o, h.get? b = some o → h'.get? b = some o) (f1 : h.get? P = none) (f2 : h.get? C = none) (p1 : h'.get? P = some oP) (p2 : h'.get? C = some oC) :
    News g L h' ((P, oP) :: (C, oC) :: led) ∧ ∀ p ∈ led, p.1 ≠ P ∧ p.1 ≠ C := by
  refine xE3_2 (F.ns) ?_; intro oL _ _ hoL _
  have fr : ∀ b, h.get? b = none → b ≠ L ∧ g.get? b = none := fun b hb => by
    refine ⟨(fun e => by rw [e, hoL] at hb; cases hb), ?_⟩
    cases q : g.get? b with
    | none => rfl
    | some o => rw [F.keep b o q] at hb; cases hb
  refine ⟨fun p hp => ?_, fun p hp => ⟨(fun e => by have := (N p hp).1; rw [e, f1] at this; cases this), (fun e => by have := (N p hp).1; rw [e, f2] at this; cases this)⟩⟩
  rcases List.mem_cons.mp hp with rfl | hp
  · exact ⟨p1, fr _ f1⟩
  · rcases List.mem_cons.mp hp with rfl | hp
    · exact ⟨p2, fr _ f2⟩
    · exact ⟨hk _ _ (N p hp).1, (N p hp).2⟩
theorem own_two {tl : List (Addr × Obj)} {P C : Addr} (h : ∀ p ∈ tl, p.1 ≠ P ∧ p.1 ≠ C) : OwnOff tl [P, C] := fun p hp q hq => by
  rcases List.mem_cons.mp hq with rfl | hq
  · exact (h p hp).1
  · rw [List.mem_singleton.mp hq]; exact (h p hp).2
theorem off_370 {L : Addr} {o : Obj} (h : @LT.lt Nat _ 370 L) : OwnOff [((370 : Addr), o)] [L + 1, L + 1 + 1] := fun p hp q hq => by
  rw [List.mem_singleton.mp hp]
  rcases List.mem_cons.mp hq with rfl | hq
  · exact neN (by show @Ne Nat 370 (L + 1); omega)
  · rw [List.mem_singleton.mp hq]; exact neN (by show @Ne Nat 370 (L + 1 + 1); omega)
theorem own_add2 {tl : List (Addr × Obj)} {P C a b : Addr} (h1 : OwnOff tl [a, b]) (h : ∀ p ∈ tl, p.1 ≠ P ∧ p.1 ≠ C) : OwnOff tl [a, b, P, C] := fun p hp q hq => by
  rcases List.mem_cons.mp hq with rfl | hq
  · exact h1 p hp _ (.head _)
  · rcases List.mem_cons.mp hq with rfl | hq
    · exact h1 p hp _ (.tail _ (.head _))
    · exact own_two h p hp q hq
theorem own_off3 {I C D : Addr} {tl : List (Addr × Obj)} {adr : List Addr} (off : LCg.Off3 I C D tl) (O : OwnOff tl adr) : OwnOff tl (I :: C :: D :: adr) := fun p hp q hq => by
  have z := off.mem p hp
  rcases List.mem_cons.mp hq with rfl | hq
  · exact z.1
  · rcases List.mem_cons.mp hq with rfl | hq
    · exact z.2.1
    · rcases List.mem_cons.mp hq with rfl | hq
      · exact z.2.2
      · exact O p hp q hq
theorem lt_le255 {d : Int} (h : d < 256) : d ≤ 255 := by omega
theorem sz_pos {b : Array UInt8} {k : Nat} (h : Sz 1 k b) : 0 < (KBw.bInts b).length := by rw [KBw.ints_length]; exact h.1
theorem sz_len {b : Array UInt8} {j k n : Nat} (h : Sz j k b) (hk : Nat.ble k n = true) : (KBw.bInts b).length ≤ n := by rw [KBw.ints_length]; exact Nat.le_trans h.2 (Nat.le_of_ble_eq_true hk)
theorem notf_cell {o : Obj} {x : Option Value} (h : o.data = .cell x) : NotF o := fun vs e => by rw [h] at e; cases e
theorem own_at {U : List (Addr × Obj)} {a : Addr} {adr : List Addr} (O : OwnOff U (a :: adr)) : ∀ q ∈ U, q.1 ≠ a := fun q hq => O q hq a (.head _)
theorem notf_list {its : Array Value} {n : Nat} : NotF (listOf its n) := fun vs e => by
  have e : Data.seq its n = .fields vs := e
  cases e
theorem notf_tup {its : Array Value} {n : Nat} : NotF { cls := .type "tuple", data := .seq its n } := fun vs e => by
  have e : Data.seq its n = .fields vs := e
  cases e
theorem hadr4 {a b c d : Addr} {o1 o2 o3 o4 : Obj} {led : List (Addr × Obj)} (h1 : (a, o1) ∈ led) (h2 : (b, o2) ∈ led) (h3 : (c, o3) ∈ led) (h4 : (d, o4) ∈ led) : ∀ x ∈ [a, b, c, d], ∃ o, (x, o) ∈ led := List.forall_mem_cons.mpr ⟨⟨_, h1⟩, hadr3 h2 h3 h4⟩
theorem hadr5 {a b c d e : Addr} {o1 o2 o3 o4 o5 : Obj} {led : List (Addr × Obj)} (h1 : (a, o1) ∈ led) (h2 : (b, o2) ∈ led) (h3 : (c, o3) ∈ led) (h4 : (d, o4) ∈ led) (h5 : (e, o5) ∈ led) : ∀ x ∈ [a, b, c, d, e], ∃ o, (x, o) ∈ led := List.forall_mem_cons.mpr ⟨⟨_, h1⟩, hadr4 h2 h3 h4 h5⟩
theorem own_front {U : List (Addr × Obj)} {a : Addr} {adr : List Addr} (h : ∀ q ∈ U, q.1 ≠ a) (O : OwnOff U adr) : OwnOff U (a :: adr) := fun p hp q hq => (List.mem_cons.mp hq).elim (fun e => e ▸ h p hp) (O p hp q)
theorem add_app {prog : Program} {w : World} {A : Around} {E : Value → Shared → Prop} {s : Shared} {Q : Value → Shared → Prop} {x y : Array UInt8} {t u : Tok} {j0 j k0 k : Nat} (h1 : Sz j0 j x) (h2 : Sz k0 k y) (hz : Nat.ble (j + k) 1000 = true) (h : ∀ t' k', Sz (j0 + k0) (j + k) (x ++ y) → Q (.bytes (x ++ y) t') { s with toks := k' }) :
    wpAny (model prog w) A (binaryOp .Add (.bytes x t) (.bytes y u)) Q E s :=
  KBy.add_bytes (by have a1 := Nat.le_of_ble_eq_true hz; have a2 := h1.2; have a3 := h2.2; omega) fun t' k' => h t' k' (h1.app h2)
theorem sz_small {b : Array UInt8} {j k : Nat} (h : Sz j k b) (hk : Nat.ble k 1000 = true) : b.size ≤ 1099511627776 := Nat.le_trans h.2 (Nat.le_trans (Nat.le_of_ble_eq_true hk) (by decide))
noncomputable abbrev makersO : Obj := { cls := .type "tuple", data := .seq #[.ref 342, .ref 347] }
def LawJ (D P C x1 x2 : Addr) (o1 o2 : Obj) (led : List (Addr × Obj)) : Prop :=
  ∃ nn rr a b c cc ee tl T U, led = (D, makersO) :: (P, penO C nn rr a b c) :: (C, cellsO cc ee) :: (x1, o1) :: (x2, o2) :: U ∧ cc.length ≤ 64 ∧ LawT tl T U ∧ OwnOff U [x2, x1, P, C]
theorem one_make {i : Nat} {v : Value} (h : (#[.ref 342, .ref 347] : Array Value)[i]? = some v) : ∃ f : Addr, v = .ref f ∧ (f = 342 ∨ f = 347) := by
  match i, h with
  | 0, h => exact xI1_2 342 ((Option.some.inj h).symm) (.inl rfl)
  | 1, h => exact xI1_2 347 ((Option.some.inj h).symm) (.inr rfl)
theorem keep_make {w : World} {f : Addr} (hf : f = 342 ∨ f = 347) : keepIn (KK w.params) (.ref f) = true := by
  rcases hf with rfl | rfl
  · kernel_rfl
  · kernel_rfl
theorem make_spec {w : World} {f P C : Addr} {n r : Int} {t u : Tok} {cs : List (Int × Tok)} {e e2 : Nat} (hf : f = 342 ∨ f = 347) (hz : cs.length ≤ 64) (hlt : @LT.lt Nat _ C P) :
    Spec w f 740 740 [.ref P] [(P, penO C n r t u e2), (C, cellsO cs e)] (OctP 1 100 P C) (fun _ _ => False) := by
  rcases hf with rfl | rfl
  · exact scriptoct_spec hz hlt
  · exact lookoct_spec hz hlt
theorem mem_skip {α : Type} {a c e : α} {R : List α} (h : a ∈ c :: R) : a ∈ c :: e :: R := (List.mem_cons.mp h).elim (fun q => q ▸ .head _) fun q => .tail _ (.tail _ q)
theorem news_sub5 {g h : Heap} {L : Addr} {x : Addr × Obj} {led news : List (Addr × Obj)} (N : News g L h (x :: news)) (h0 : ∀ p ∈ led, p ∈ news) : News g L h led := fun p hp => N p (.tail _ (h0 p hp))
theorem ne_same {prog : Program} {w : World} {A : Around} {E : Value → Shared → Prop} {s : Shared} {h₀ : Heap} {L a b : Addr} {news n₁ n₂ : List (Addr × Obj)} {oa ob : Obj} {xs ys : List Value} {ka kb : Nat} {ds es : List Dat} {Q : Value → Shared → Prop} (e : ds = es)
    (N : News h₀ L s.heap news) (ma : (a, oa) ∈ news) (ca : oa.cls = .type "list") (da : oa.data = .seq xs.toArray ka) (Da : DatAll n₁ xs ds) (sa : ∀ p ∈ n₁, p ∈ news)
    (mb : (b, ob) ∈ news) (cb : ob.cls = .type "list") (db : ob.data = .seq ys.toArray kb) (Db : DatAll n₂ ys es) (sb : ∀ p ∈ n₂, p ∈ news)
    (ha : ∀ d ∈ ds, kqdOk 8 d = true) (hu : A.units + 64 < cLine) (h : Q (.bool false) s) : wpAny (model prog w) A (compareOp .NotEq (.ref a) (.ref b)) Q E s := by
  subst e
  exact kqd_ne N ma ca da Da sa mb cb db Db sb ha ha hu (by simpa using h)
theorem ok_of_eq {l l' : List Dat} (e : l = l') (h : ∀ d ∈ l, kqdOk 8 d = true) : ∀ d ∈ l', kqdOk 8 d = true := e ▸ h
theorem own_tail {U : List (Addr × Obj)} {a : Addr} {adr : List Addr} (O : OwnOff U (a :: adr)) : OwnOff U adr := fun p hp q hq => O p hp q (.tail _ hq)
theorem TabSt.tab {T : List (Addr × Obj)} (h : TabSt T) : ∃ ps, (370, tabObj ps) ∈ T := by
  cases h with
  | fresh => exact ⟨_, .head _⟩
  | full => exact ⟨_, .head _⟩
theorem LawT.inT {tl T U : List (Addr × Obj)} (h : LawT tl T U) : ∀ p ∈ T, p ∈ U := fun p hp => by rw [h.e]; exact List.mem_append_right _ hp
theorem ints_whole {ys : List Value} {qs : List Int} {n : Nat} (h : IntsAre ys (qs.take n)) (hn : qs.length ≤ n) : IntsAre ys qs := by rw [List.take_of_length_le hn] at h; exact h
theorem len_pos {ps : List Int} {f : Int → Int} (h : ps ≠ []) : 0 < (ps.map f).length := by
  rw [List.length_map]; exact List.length_pos_iff.mpr h
theorem law_runs {w : World} {p : Program} {loose : List Str} {mean : ExcName → Option Value} {mg mb : Str → Option Value} {s : Shared} {fa S : Addr} {doc pm cd ct oc : Value} {od an : Option Addr} {osl : Array (Option Value)} {its : List Value} {ns : List Int} {name : Str} {params : Arguments} {body : List Stmt} {scope : Scope} {Q E : Value → Shared → Prop}
    (hl : lawS = some (name, params, body, scope)) (ho : s.heap.get? fa = some ⟨oc, od, .func (fnOf name name params body scope .none .none doc pm an cd ct), osl⟩) (hcd : s.heap.CodeRec cd name)
    (Xg : (KK w.params).In (hideAll s.heap [370])) (Tg : Top p loose mean mg mb (hideAll s.heap [370])) (Ts : s.heap.NoLimit) (h370 : s.heap.get? 370 = some (tabObj #[])) (hS : s.heap.IsList S (List.toArray its)) (hI : IntsAre its ns) (hz : ns.length ≤ 63)
    (hQ : ∀ h' tk' ps, (∀ b o, s.heap.get? b = some o → b ≠ 370 → h'.get? b = some o) → h'.get? 370 = some (tabObj ps) → Q (.bool true) { s with heap := h', toks := tk' }) :
    wpAny (model rw_pb0183_01.row.prog w) callerA (call (.ref fa) [.ref S]) Q E s := by
  have hl2 := elim_some (o := lawS) rfl hl
  cases hl2
  refine enterLaw (fp := [((370 : Addr), tabObj #[])]) (D := 690) (U := 690) ho hcd (by decide) (BindsTo.of_eq rfl) rfl (by decide +kernel) Xg Tg Ts (List.forall_mem_cons.mpr ⟨h370, fun _ h => nomatch h⟩) rfl rfl (by decide) (by decide) ?_
  intro gd g L h₁ tk cells F N Y X T B hL hgk hlt
  refine xE1_3 hS ?_; (try clear hS); intro oS hS1 hSc hSd
  have hSg : g.get? S = some oS := hgk S oS hS1 fun hm => by
    rw [List.mem_singleton.mp hm, h370] at hS1
    cases hS1
    exact nomatch hSc
  have hlt2 := hlt
  revert X
  k_fill
  intro X
  k_lt hlt
  k_cells Y
  simp only [List.cons_append, List.nil_append] at N
  (refine (let gk : Prop := _; (?_ : gk)); obtain ⟨U, hU, hTU, hU2⟩ : ∃ U, U = [((370 : Addr), tabObj #[])] ∧ LawT [] [(370, tabObj #[])] U ∧ OwnOff U [L + 1, L + 1 + 1] := ⟨_, rfl, ⟨rfl, .fresh, fun _ h => nomatch h⟩, off_370 (hlt2 _ (.head _))⟩ <;> k_unfold)
  rw [← hU] at N
  clear hU
  (try dsimp only)
  (try k_fold)
  (repeat' (first | ((with_reducible first | refine nextN ?_ | refine nextR ?_); (try dsimp only)) | (k_unfold; (try dsimp only)) | (k_end; kc_close) | ((with_reducible first | show wpAny _ _ (exec _ _) _ _ _ | show wpAny _ _ (eval (Expr.Call ..) _) _ _ _ | show wpAny _ _ (eval (Expr.BinOp ..) _) _ _ _ | show wpAny _ _ (eval (Expr.Subscript ..) _) _ _ _ | show wpAny _ _ (eval (Expr.List ..) _) _ _ _ | show wpAny _ _ (eval (Expr.Tuple ..) _) _ _ _); (fail_if_success (fail_if_success k_fold)); refine (let qk := _; (?_ : wpAny _ _ _ qk _ _))) | ((with_reducible refine execsN ?_); (try k_gentoks)) | ((with_reducible refine args_cons ?_ ?he); (case he => exact rfl)) | ((with_reducible show wpAny _ _ (call (Value.ref _) _ _) _ _ _); (k_here; (with_reducible show wpAny _ _ (call (Value.ref 318) _) _ _ _); k_dflt (refine Side.out ?_))) | walk1 | (dsimp only; walk1) | (dsimp only [mA]; walk1) | (dsimp only [mE]; walk1) | (dsimp only [mA, mE]; walk1) | (leave1; (try dsimp only))))
  refine Side.mk ?_
  rename News _ _ _ _ => N1
  rename Fr _ _ _ _ => F1
  refine SpecB.calm (pen_spec hSc hSd hI hz) B F1 X T rfl rfl rfl rfl (Nat.le_of_ble_eq_true rfl) (Nat.le_of_ble_eq_true rfl) (List.forall_mem_cons.mpr ⟨hSg, fun _ h => nomatch h⟩) ?_
  intro v h2 tk2 F2 hk2 hP2
  refine xE0_2 hP2 ?_; (try clear hP2); intro zq7' _; refine xE9_7 zq7' ?_; clear zq7'; intro P C n r t1 t2 e2 cs e zq8' hlt3 hf1 hf2 hp1 hp2 hz2; subst zq8'
  refine xE0_2 (pen_led F1 N1 hk2 hf1 hf2 hp1 hp2) ?_; intro N2 O2
  clear N1 F1 hk2 hf1 hf2 hp1 hp2
  simp only [List.forall_mem_cons] at O2
  refine xE0_3 O2 ?_; (try clear O2); intro zq9' zq10' O3; refine xE0_2 zq9' ?_; clear zq9'; intro a1 a2; refine xE0_2 zq10' ?_; clear zq10'; intro a3 a4
  have b1 : @Ne Nat P (L + 1 + 1) := Ne.symm a1
  have b2 : @Ne Nat C (L + 1 + 1) := Ne.symm a2
  have b3 : @Ne Nat P (L + 1) := Ne.symm a3
  have b4 : @Ne Nat C (L + 1) := Ne.symm a4
  have O4 := own_add2 hU2 O3
  clear O3 hU2
  (try dsimp only)
  (try k_fold)
  (repeat' (first | ((with_reducible first | refine nextN ?_ | refine nextR ?_); (try dsimp only)) | (k_unfold; (try dsimp only)) | (k_end; kc_close) | ((with_reducible first | show wpAny _ _ (exec _ _) _ _ _ | show wpAny _ _ (eval (Expr.Call ..) _) _ _ _ | show wpAny _ _ (eval (Expr.BinOp ..) _) _ _ _ | show wpAny _ _ (eval (Expr.Subscript ..) _) _ _ _ | show wpAny _ _ (eval (Expr.List ..) _) _ _ _ | show wpAny _ _ (eval (Expr.Tuple ..) _) _ _ _); (fail_if_success (fail_if_success k_fold)); refine (let qk := _; (?_ : wpAny _ _ _ qk _ _))) | ((with_reducible refine execsN ?_); (try k_gentoks)) | ((with_reducible refine args_cons ?_ ?he); (case he => exact rfl)) | ((with_reducible show wpAny _ _ (eval (Expr.ListComp ..) _) _ _ _); (k_here; k_dflt (refine comp_held (by k_asm) (by with_unfolding_all rfl) (by decide) (by rfl) (by decide) (by rfl) ?_))) | ((with_reducible show wpAny _ _ (call (Value.ref _) _ _) _ _ _); (k_here; (try ((fail_if_success (fail_if_success k_fold)); refine (let qk := _; (?_ : wpAny _ _ _ qk _ _)))); k_dflt (refine' Spec.calm (draw_spec (by first | assumption | omega) (by assumption) (by assumption) (by first | assumption | omega)) ?B ?F ?X ?T rfl rfl rfl rfl (Nat.le_of_ble_eq_true rfl) (Nat.le_of_ble_eq_true rfl) ?N ?hR ?_; ((case B => assumption); (case F => k_asm); (case X => k_asm); (case T => k_asm)); (case N => exact news2 (by assumption) (by k_mem) (by k_mem)); (case hR => exact fun _ _ h => h); intro v'r h'r tk'r F'r hb'r hP'r; (try simp only [List.map_cons, List.map_nil] at hb'r); refine xE0_3 (DrawP.to hb'r hP'r) ?_; intro zq1'r hk'r zq2'r; refine xE2_3 zq1'r ?_; clear zq1'r; intro d'r t'r e0'r hd1 hd2; refine xE7_3 zq2'r ?_; clear zq2'r; intro n'r r'r t1'r t2'r e2'r cs'r e'r hp1 hp2 hz2; subst e0'r; (have N'r := news_turn2 (by assumption) hk'r (by k_upd) (by k_upd) hp1 hp2); (try k_sweep)))) | walk1 | (dsimp only; walk1) | (dsimp only [mA]; walk1) | (dsimp only [mE]; walk1) | (dsimp only [mA, mE]; walk1) | (leave1; (try dsimp only))))
  rename News _ _ _ _ => N9
  rename Fr _ _ _ _ => F9
  refine Side.mk (LCg.CompSrc.range (by rfl) F9 N9 (by assumption) (small_one (by omega) (by omega) (by omega) (by omega)) (rangeSize_nat _ _) (by rw [sizeLine_eq]; omega) fun g' => ?_)
  refine comp_turns (fun i ys news => Side (∃ nn rr a b c cc ee, news = (P, penO C nn rr a b c) :: (C, cellsO cc ee) :: (_, _) :: (_, _) :: U ∧ cc.length ≤ 64 ∧ IntsLe 255 ys ∧ ys.length = i)) ?_ ?_ _ 0 [] _ (Nat.zero_add _) ⟨_, _, _, _, _, _, _, rfl, by assumption, IntsLe.nil, rfl⟩
  · intro i v ys news I oI C' oC D' m₂ h tk E' hi hv hJ hC hx F N off ne
    refine xE7_4 (hJ.out) ?_; intro nn rr a1 b1 c1 cc ee zq11' hcc hys hlen; subst zq11'
    have hoff := off
    have hOU := own_off3 off.2.2.2.2 (by assumption)
    simp only [LCg.Off3] at off
    (repeat' (first | ((with_reducible first | refine nextN ?_ | refine nextR ?_); (try dsimp only)) | (k_unfold; (try dsimp only)) | (k_end; kc_close) | ((with_reducible first | show wpAny _ _ (exec _ _) _ _ _ | show wpAny _ _ (eval (Expr.Call ..) _) _ _ _ | show wpAny _ _ (eval (Expr.BinOp ..) _) _ _ _ | show wpAny _ _ (eval (Expr.Subscript ..) _) _ _ _ | show wpAny _ _ (eval (Expr.List ..) _) _ _ _ | show wpAny _ _ (eval (Expr.Tuple ..) _) _ _ _); (fail_if_success (fail_if_success k_fold)); refine (let qk := _; (?_ : wpAny _ _ _ qk _ _))) | ((with_reducible refine execsN ?_); (try k_gentoks)) | ((with_reducible refine args_cons ?_ ?he); (case he => exact rfl)) | ((with_reducible show wpAny _ _ (call (Value.ref _) _ _) _ _ _); (k_here; (try ((fail_if_success (fail_if_success k_fold)); refine (let qk := _; (?_ : wpAny _ _ _ qk _ _)))); k_dflt (refine' Spec.calm (draw_spec (by first | assumption | omega) (by assumption) (by assumption) (by first | assumption | omega)) ?B ?F ?X ?T rfl rfl rfl rfl (Nat.le_of_ble_eq_true rfl) (Nat.le_of_ble_eq_true rfl) ?N ?hR ?_; ((case B => assumption); (case F => k_asm); (case X => k_asm); (case T => k_asm)); (case N => exact news2 (by assumption) (by k_mem) (by k_mem)); (case hR => exact fun _ _ h => h); intro v'r h'r tk'r F'r hb'r hP'r; (try simp only [List.map_cons, List.map_nil] at hb'r); refine xE0_3 (DrawP.to hb'r hP'r) ?_; intro zq1'r hk'r zq2'r; refine xE2_3 zq1'r ?_; clear zq1'r; intro d'r t'r e0'r hd1 hd2; refine xE7_3 zq2'r ?_; clear zq2'r; intro n'r r'r t1'r t2'r e2'r cs'r e'r hp1 hp2 hz2; subst e0'r; (have N'r := news_turn2 (by assumption) hk'r (by k_upd) (by k_upd) hp1 hp2); (try k_sweep)))) | ((with_reducible show LCg.CompEnd _ _ _ _ _ _ _ _ _ _ _ _ _ _); k_dflt (refine Side.out ?_)) | walk1 | (dsimp only; walk1) | (dsimp only [mA]; walk1) | (dsimp only [mE]; walk1) | (dsimp only [mA, mE]; walk1) | (leave1; (try dsimp only))))
    refine Side.mk ?_
    (try k_unfold)
    (try dsimp only)
    rename News _ _ _ _ => N9
    rename Fr _ _ _ _ => F9
    exact xI3_6 _ _ _ rfl F9 N9 hoff trivial (Side.mk ⟨_, _, _, _, _, _, _, rfl, by assumption, hys.snoc (by assumption) (lt_le255 (by assumption)), len_snoc hlen⟩)
  intro ys news hJ
  refine xE7_4 (hJ.out) ?_; intro nn rr a1 b1 c1 cc ee zq12' hcc hys hlen; subst zq12'
  intro D' h tk F N o1
  have hL := len_in (k := 9) hlen (by omega)
  (repeat' (first | ((with_reducible first | refine nextN ?_ | refine nextR ?_); (try dsimp only)) | (k_unfold; (try dsimp only)) | (k_end; kc_close) | ((with_reducible first | show wpAny _ _ (exec _ _) _ _ _ | show wpAny _ _ (eval (Expr.Call ..) _) _ _ _ | show wpAny _ _ (eval (Expr.BinOp ..) _) _ _ _ | show wpAny _ _ (eval (Expr.Subscript ..) _) _ _ _ | show wpAny _ _ (eval (Expr.List ..) _) _ _ _ | show wpAny _ _ (eval (Expr.Tuple ..) _) _ _ _); (fail_if_success (fail_if_success k_fold)); refine (let qk := _; (?_ : wpAny _ _ _ qk _ _))) | ((with_reducible refine execsN ?_); (try k_gentoks)) | ((with_reducible refine args_cons ?_ ?he); (case he => exact rfl)) | ((with_reducible show wpAny _ _ (call (Value.type "bytes") _ _) _ _ _); (k_here; k_dflt (refine' bytes_leD ?F ?N ?hI ?hL ?hz ?hh ?_; (case F => k_asm); (case N => k_asm); (case hI => ((repeat' (first | exact IntsLe.nil | assumption)))); (case hL => ((repeat' (first | assumption | exact LenIn.nil | apply LenIn.cons | apply LenIn.append)))); (case hz => exact rfl); (case hh => exact rfl)); intro z'r h'r t'r k'r hs'r F'r N'r)) | ((with_reducible show wpAny _ _ (eval (Expr.ListComp ..) _) _ _ _); (k_here; k_dflt (refine comp_held (by k_asm) (by with_unfolding_all rfl) (by decide) (by rfl) (by decide) (by rfl) ?_))) | ((with_reducible show wpAny _ _ (call (Value.ref _) _ _) _ _ _); (k_here; (try ((fail_if_success (fail_if_success k_fold)); refine (let qk := _; (?_ : wpAny _ _ _ qk _ _)))); k_dflt (refine' Spec.calm (draw_spec (by first | assumption | omega) (by assumption) (by assumption) (by first | assumption | omega)) ?B ?F ?X ?T rfl rfl rfl rfl (Nat.le_of_ble_eq_true rfl) (Nat.le_of_ble_eq_true rfl) ?N ?hR ?_; ((case B => assumption); (case F => k_asm); (case X => k_asm); (case T => k_asm)); (case N => exact news2 (by assumption) (by k_mem) (by k_mem)); (case hR => exact fun _ _ h => h); intro v'r h'r tk'r F'r hb'r hP'r; (try simp only [List.map_cons, List.map_nil] at hb'r); refine xE0_3 (DrawP.to hb'r hP'r) ?_; intro zq1'r hk'r zq2'r; refine xE2_3 zq1'r ?_; clear zq1'r; intro d'r t'r e0'r hd1 hd2; refine xE7_3 zq2'r ?_; clear zq2'r; intro n'r r'r t1'r t2'r e2'r cs'r e'r hp1 hp2 hz2; subst e0'r; (have N'r := news_turn2 (by assumption) hk'r (by k_upd) (by k_upd) hp1 hp2); (try k_sweep)))) | walk1 | (dsimp only; walk1) | (dsimp only [mA]; walk1) | (dsimp only [mE]; walk1) | (dsimp only [mA, mE]; walk1) | (leave1; (try dsimp only))))
  rename News _ _ _ _ => N9
  rename Fr _ _ _ _ => F9
  refine Side.mk (LCg.CompSrc.range (by rfl) F9 N9 (by assumption) (small_one (by omega) (by omega) (by omega) (by omega)) (rangeSize_nat _ _) (by rw [sizeLine_eq]; omega) fun g' => ?_)
  refine comp_turns (fun i ys news => Side (∃ nn rr a b c cc ee, news = (P, penO C nn rr a b c) :: (C, cellsO cc ee) :: (_, _) :: (_, _) :: U ∧ cc.length ≤ 64 ∧ IntsLe 255 ys ∧ ys.length = i)) ?_ ?_ _ 0 [] _ (Nat.zero_add _) ⟨_, _, _, _, _, _, _, rfl, by assumption, IntsLe.nil, rfl⟩
  · intro i v ys news I oI C' oC D' m₂ h tk E' hi hv hJ hC hx F N off ne
    refine xE7_4 (hJ.out) ?_; intro nn rr a1 b1 c1 cc ee zq13' hcc hys hlen; subst zq13'
    have hoff := off
    have hOU := own_off3 off.2.2.2.2 (by assumption)
    simp only [LCg.Off3] at off
    (repeat' (first | ((with_reducible first | refine nextN ?_ | refine nextR ?_); (try dsimp only)) | (k_unfold; (try dsimp only)) | (k_end; kc_close) | ((with_reducible first | show wpAny _ _ (exec _ _) _ _ _ | show wpAny _ _ (eval (Expr.Call ..) _) _ _ _ | show wpAny _ _ (eval (Expr.BinOp ..) _) _ _ _ | show wpAny _ _ (eval (Expr.Subscript ..) _) _ _ _ | show wpAny _ _ (eval (Expr.List ..) _) _ _ _ | show wpAny _ _ (eval (Expr.Tuple ..) _) _ _ _); (fail_if_success (fail_if_success k_fold)); refine (let qk := _; (?_ : wpAny _ _ _ qk _ _))) | ((with_reducible refine execsN ?_); (try k_gentoks)) | ((with_reducible refine args_cons ?_ ?he); (case he => exact rfl)) | ((with_reducible show wpAny _ _ (call (Value.ref _) _ _) _ _ _); (k_here; (try ((fail_if_success (fail_if_success k_fold)); refine (let qk := _; (?_ : wpAny _ _ _ qk _ _)))); k_dflt (refine' Spec.calm (draw_spec (by first | assumption | omega) (by assumption) (by assumption) (by first | assumption | omega)) ?B ?F ?X ?T rfl rfl rfl rfl (Nat.le_of_ble_eq_true rfl) (Nat.le_of_ble_eq_true rfl) ?N ?hR ?_; ((case B => assumption); (case F => k_asm); (case X => k_asm); (case T => k_asm)); (case N => exact news2 (by assumption) (by k_mem) (by k_mem)); (case hR => exact fun _ _ h => h); intro v'r h'r tk'r F'r hb'r hP'r; (try simp only [List.map_cons, List.map_nil] at hb'r); refine xE0_3 (DrawP.to hb'r hP'r) ?_; intro zq1'r hk'r zq2'r; refine xE2_3 zq1'r ?_; clear zq1'r; intro d'r t'r e0'r hd1 hd2; refine xE7_3 zq2'r ?_; clear zq2'r; intro n'r r'r t1'r t2'r e2'r cs'r e'r hp1 hp2 hz2; subst e0'r; (have N'r := news_turn2 (by assumption) hk'r (by k_upd) (by k_upd) hp1 hp2); (try k_sweep)))) | ((with_reducible show LCg.CompEnd _ _ _ _ _ _ _ _ _ _ _ _ _ _); k_dflt (refine Side.out ?_)) | walk1 | (dsimp only; walk1) | (dsimp only [mA]; walk1) | (dsimp only [mE]; walk1) | (dsimp only [mA, mE]; walk1) | (leave1; (try dsimp only))))
    refine Side.mk ?_
    (try k_unfold)
    (try dsimp only)
    rename News _ _ _ _ => N9
    rename Fr _ _ _ _ => F9
    exact xI3_6 _ _ _ rfl F9 N9 hoff trivial (Side.mk ⟨_, _, _, _, _, _, _, rfl, by assumption, hys.snoc (by assumption) (lt_le255 (by assumption)), len_snoc hlen⟩)
  intro ys news hJ
  refine xE7_4 (hJ.out) ?_; intro nn rr a1 b1 c1 cc ee zq14' hcc hys hlen; subst zq14'
  intro D' h tk F N o1
  have hL := len_in (k := 9) hlen (by omega)
  (repeat' (first | ((with_reducible first | refine nextN ?_ | refine nextR ?_); (try dsimp only)) | (k_unfold; (try dsimp only)) | (k_end; kc_close) | ((with_reducible first | show wpAny _ _ (exec _ _) _ _ _ | show wpAny _ _ (eval (Expr.Call ..) _) _ _ _ | show wpAny _ _ (eval (Expr.BinOp ..) _) _ _ _ | show wpAny _ _ (eval (Expr.Subscript ..) _) _ _ _ | show wpAny _ _ (eval (Expr.List ..) _) _ _ _ | show wpAny _ _ (eval (Expr.Tuple ..) _) _ _ _); (fail_if_success (fail_if_success k_fold)); refine (let qk := _; (?_ : wpAny _ _ _ qk _ _))) | ((with_reducible refine execsN ?_); (try k_gentoks)) | ((with_reducible refine args_cons ?_ ?he); (case he => exact rfl)) | ((with_reducible show wpAny _ _ (call (Value.type "bytes") _ _) _ _ _); (k_here; k_dflt (refine' bytes_leD ?F ?N ?hI ?hL ?hz ?hh ?_; (case F => k_asm); (case N => k_asm); (case hI => ((repeat' (first | exact IntsLe.nil | assumption)))); (case hL => ((repeat' (first | assumption | exact LenIn.nil | apply LenIn.cons | apply LenIn.append)))); (case hz => exact rfl); (case hh => exact rfl)); intro z'r h'r t'r k'r hs'r F'r N'r)) | ((with_reducible show wpAny _ _ (storeName _ _ _) _ _ _); (k_here; k_dflt (refine' storeX_L ?sF ?sN ?_ rfl rfl; (case sF => k_asm); (case sN => k_asm); k_whole; intro hS FS NS; (try k_sweep); refine (let mk := _; (fun (FK : Fr _ _ _ mk) => ?_) FS); clear FS))) | walk1 | (dsimp only; walk1) | (dsimp only [mA]; walk1) | (dsimp only [mE]; walk1) | (dsimp only [mA, mE]; walk1) | (leave1; (try dsimp only))))
  rename News _ _ _ _ => N9
  rename Fr _ _ _ _ => F9
  refine loop_tupleS (its := #[.ref 342, .ref 347]) ["make", "data", "alone", "moved", "longer", "spot", "is_inside"] (fun i led => LawJ _ P C (L + 1 + 1) (L + 1) _ _ led) rfl F9 N9 ⟨_, _, _, _, _, _, _, _, _, _, rfl, by assumption, by assumption, by assumption⟩ (fun i led hJ => by refine xE10_2 hJ ?_; (try clear hJ); intro _ _ _ _ _ _ _ _ _ _ zq15' _; subst zq15'; exact .head _) ?_ ?_
  · intro i v u led₁ I oI h tk hv hJ off F N
    refine xE10_4 hJ ?_; (try clear hJ); intro nn rr a1 b1 c1 cc ee tl Tb U1 zq16' hcc hTU1 hOU1; subst zq16'
    have hoff := off
    simp only [List.forall_mem_cons] at off
    refine xE0_6 off ?_; (try clear off); intro f1 f2 f3 f4 f5 f6
    have hOU2 := own_front f6 hOU1
    clear hOU1
    have v2 := Ne.symm f2
    have v3 := Ne.symm f3
    refine xE1_2 (one_make hv) ?_; intro f zq17' hf; subst zq17'
    all_goals
      (repeat' (first | ((with_reducible first | refine nextN ?_ | refine nextR ?_); (try dsimp only)) | (k_unfold; (try dsimp only)) | (k_end; kc_close) | ((with_reducible first | show wpAny _ _ (exec _ _) _ _ _ | show wpAny _ _ (eval (Expr.Call ..) _) _ _ _ | show wpAny _ _ (eval (Expr.BinOp ..) _) _ _ _ | show wpAny _ _ (eval (Expr.Subscript ..) _) _ _ _ | show wpAny _ _ (eval (Expr.List ..) _) _ _ _ | show wpAny _ _ (eval (Expr.Tuple ..) _) _ _ _); (fail_if_success (fail_if_success k_fold)); refine (let qk := _; (?_ : wpAny _ _ _ qk _ _))) | ((with_reducible refine execsN ?_); (try k_gentoks)) | ((with_reducible refine args_cons ?_ ?he); (case he => exact rfl)) | ((with_reducible show wpAny _ _ (binaryOp Operator.Add (Value.bytes ..) (Value.bytes ..)) _ _ _); (k_here; k_dflt (refine' add_app (by assumption) (by assumption) ?hz ?_; (case hz => exact rfl)); intro t'r k'r hs'r)) | ((with_reducible show wpAny _ _ (call (Value.builtin "len") _ _) _ _ _); (k_here; (with_reducible show wpAny _ _ (call (Value.builtin "len") [Value.bytes _ _]) _ _ _); k_dflt (refine len_bytes (sz_small (by assumption) rfl) ?_))) | ((with_reducible show wpAny _ _ (call (Value.ref _) _ _) _ _ _); (k_here; (try ((fail_if_success (fail_if_success k_fold)); refine (let qk := _; (?_ : wpAny _ _ _ qk _ _)))); k_dflt (refine' Spec.calm (make_spec (by assumption) (by assumption) (by first | assumption | omega)) ?B ?F ?X ?T rfl rfl rfl rfl (Nat.le_of_ble_eq_true rfl) (Nat.le_of_ble_eq_true rfl) ?N ?hR ?_; ((case B => assumption); (case F => k_asm); (case X => k_asm); (case T => k_asm)); (case N => exact news2 (by assumption) (by k_mem) (by k_mem)); (case hR => exact fun _ _ h => h); intro v'r h'r tk'r F'r hb'r hP'r; (try simp only [List.map_cons, List.map_nil] at hb'r); refine xE0_3 hP'r ?_; clear hP'r; intro zq5'r hk'r zq6'r; refine xE2_2 zq5'r ?_; clear zq5'r; intro b'r t'r e0'r hs'r; refine xE7_3 zq6'r ?_; clear zq6'r; intro n'r r'r t1'r t2'r e2'r cs'r e'r hp1 hp2 hz2; subst e0'r; (have N'r := news_turn2 (by assumption) hk'r (by k_upd) (by k_upd) hp1 hp2); (try k_sweep)))) | ((with_reducible show wpAny _ _ (callWith _ (Value.ref _) _ _ _) _ _ _); (k_here; k_dflt (refine' callWith_K ?X (keep_make ?hf) ?_; (case hf => assumption); (case X => k_asm)))) | ((with_reducible show wpAny _ _ (call (Value.ref _) _ _) _ _ _); first | ((k_here; (try ((fail_if_success (fail_if_success k_fold)); refine (let qk := _; (?_ : wpAny _ _ _ qk _ _)))); (try dsimp only); k_dflt (refine' SpecT.here (readers_any (LawT.tab ?hT) rfl (sz_len (by assumption) rfl) ?ha) ?F ?N ?UF ?hT ?O ?hadr ?X ?T ?B ?hA ?hf ?hke ?hh ?hd ?hu ?_; (case hT => assumption); (case ha => first | decide | exact Int.natCast_nonneg _); (case F => k_asm); (case N => k_asm); (case UF => ((repeat (first | exact FrontX.here | (refine' FrontX.cons (by (first | exact .inl (notf_cell (by assumption)) | exact .inl notf_list | exact .inl notf_tup | exact .inr (own_at (by assumption)))) ?_; rotate_left))))); (case O => assumption); (case hadr => exact hadr5 (by k_mem) (by k_mem) (by k_mem) (by k_mem) (by k_mem)); (case X => k_asm); (case T => k_asm); (case B => assumption); (case hA => exact rfl); (case hf => exact rfl); (case hke => exact rfl); (case hh => exact rfl); (case hd => exact Nat.le_of_ble_eq_true rfl); (case hu => exact Nat.le_of_ble_eq_true rfl)); intro v'r h'r tk'r tl'r T'r U'r d0'r d1'r d2'r d3'r d4'r F'r N'r hT'r O'r hsub'r hD'r x0'r x1'r x2'r x3'r x4'r; (refine xE3_3 (dat_list hD'r) ?_; intro a'r vs'r n'r e'r m'r hA'r); subst e'r; clear hD'r; (have hR'r := ReadsT.mk m'r hA'r x0'r x1'r x2'r x3'r x4'r); clear m'r hA'r x0'r x1'r x2'r x3'r x4'r; (try dsimp only at N'r); (try k_sweep))) | ((k_here; (try ((fail_if_success (fail_if_success k_fold)); refine (let qk := _; (?_ : wpAny _ _ _ qk _ _)))); k_dflt (refine' Spec.calm (bent_spec (by assumption) (by first | assumption | omega) rfl (sz_pos (by assumption)) (sz_len (by assumption) rfl)) ?B ?F ?X ?T rfl rfl rfl rfl (Nat.le_of_ble_eq_true rfl) (Nat.le_of_ble_eq_true rfl) ?N ?hR ?_; ((case B => assumption); (case F => k_asm); (case X => k_asm); (case T => k_asm)); (case N => exact news2 (by assumption) (by k_mem) (by k_mem)); (case hR => exact fun _ _ h => h); intro v'r h'r tk'r F'r hb'r hP'r; (try simp only [List.map_cons, List.map_nil] at hb'r); refine xE0_3 hP'r ?_; clear hP'r; intro zq3'r hk'r zq4'r; refine xE2_2 zq3'r ?_; clear zq3'r; intro b'r t'r e0'r hle'r; refine xE7_3 zq4'r ?_; clear zq4'r; intro n'r r'r t1'r t2'r e2'r cs'r e'r hp1 hp2 hz2; subst e0'r; (have hs'r : Sz 0 201 b'r := ⟨Nat.zero_le _, hle'r⟩); (have N'r := news_turn2 (by assumption) hk'r (by k_upd) (by k_upd) hp1 hp2); (try k_sweep))))) | ((with_reducible show wpAny _ _ (eval (Expr.ListComp ..) _) _ _ _); (k_here; k_dflt (refine comp_held (by k_asm) (by with_unfolding_all rfl) (by decide) (by rfl) (by decide) (by rfl) ?_))) | ((with_reducible show wpAny _ _ (storeName _ _ _) _ _ _); (k_here; k_dflt (refine' storeX_L ?sF ?sN ?_ rfl rfl; (case sF => k_asm); (case sN => k_asm); k_whole; intro hS FS NS; (try k_sweep); refine (let mk := _; (fun (FK : Fr _ _ _ mk) => ?_) FS); clear FS))) | walk1 | (dsimp only; walk1) | (dsimp only [mA]; walk1) | (dsimp only [mE]; walk1) | (dsimp only [mA, mE]; walk1) | (leave1; (try dsimp only))))
      rename ReadsT (KBw.bInts (_ ++ _)) _ _ _ _ _ _ _ _ _ _ => hR2
      rename ReadsT _ (0 : Int) _ _ _ _ _ _ _ _ _ => hR1
      rename (∀ (p : Addr × Obj), p ∈ _ → p ∈ _) => hs2
      rename LawT _ _ _ => hT2
      replace hR1 := hR1.mono hs2
      rename News _ _ _ _ => N9
      rename Fr _ _ _ _ => F9
      have hU := hT2.mem
      have N8 := cell_front F9 N9 (by k_mem)
      have hvl := hR1.all.length
      refine Side.mk (src_list (by rfl) F9 N8 (.tail _ (by repeat (first | exact hU _ hR1.mem | apply List.mem_cons_of_mem))) (by rw [List.size_toArray, hvl]; exact Nat.le_of_ble_eq_true rfl) fun g' => ?_)
      refine comp_turns (MovJ _ _ _) ?_ ?_ _ 0 [] _ (Nat.zero_add _) (MovJ.zero hR1 hR2)
      · intro i v ys news I2 oI2 C2 oC2 D2 m₂ h tk E' hi hv hJ hC hx F N off ne
        have hJ2 := hJ
        refine xE2_4 hJ2 ?_; (try clear hJ2); intro R tlx zq18' h0 hxs hA; subst zq18'
        refine xE1_2 (dat_at hR1.all hv) ?_; intro d hdi hDv
        (refine (let gk : Prop := _; (?_ : gk)); rcases hR1.shape d (List.mem_of_getElem? hdi) with ⟨x, rfl⟩ | ⟨wt, pl, rfl⟩ <;> k_unfold)
        · refine xE4_2 (dat_tup2 hDv) ?_; intro t t1 xv n1 zq19' hm1; subst zq19'
          have hoff := off
          (repeat' (first | ((with_reducible first | refine nextN ?_ | refine nextR ?_); (try dsimp only)) | (k_unfold; (try dsimp only)) | (k_end; kc_close) | ((with_reducible first | show wpAny _ _ (exec _ _) _ _ _ | show wpAny _ _ (eval (Expr.Call ..) _) _ _ _ | show wpAny _ _ (eval (Expr.BinOp ..) _) _ _ _ | show wpAny _ _ (eval (Expr.Subscript ..) _) _ _ _ | show wpAny _ _ (eval (Expr.List ..) _) _ _ _ | show wpAny _ _ (eval (Expr.Tuple ..) _) _ _ _); (fail_if_success (fail_if_success k_fold)); refine (let qk := _; (?_ : wpAny _ _ _ qk _ _))) | ((with_reducible refine execsN ?_); (try k_gentoks)) | ((with_reducible refine args_cons ?_ ?he); (case he => exact rfl)) | ((with_reducible show wpAny _ _ (call (Value.builtin "len") _ _) _ _ _); (k_here; (with_reducible show wpAny _ _ (call (Value.builtin "len") [Value.bytes _ _]) _ _ _); k_dflt (refine len_bytes (sz_small (by assumption) rfl) ?_))) | ((with_reducible show wpAny _ _ (call (Value.ref _) _ _) _ _ _); (k_here; (with_reducible show wpAny _ _ (call (Value.ref 387) _) _ _ _); k_dflt (refine Side.out ?_))) | walk1 | (dsimp only; walk1) | (dsimp only [mA]; walk1) | (dsimp only [mE]; walk1) | (dsimp only [mA, mE]; walk1) | (leave1; (try dsimp only))))
          refine Side.mk ?_
          rename News _ _ _ _ => N9
          rename Fr _ _ _ _ => F9
          refine Spec.calm moved_told B F9 X T rfl rfl rfl rfl (Nat.le_of_ble_eq_true rfl) (Nat.le_of_ble_eq_true rfl) (news1 N9 (.tail _ (.tail _ (.tail _ (h0 _ (by repeat (first | exact hU _ hm1 | apply List.mem_cons_of_mem))))))) (fun _ _ h => h) ?_
          intro v3 h3 tk3 F3 hb3 hP3
          refine xE0_2 hP3 ?_; (try clear hP3); intro zq20' hk3; subst zq20'
          (try k_unfold)
          (try dsimp only)
          exact xI3_6 _ _ _ rfl F3 (news_same N9 hk3) hoff (.inr ⟨_, h0 _ (by repeat (first | exact hU _ hR1.mem | apply List.mem_cons_of_mem)), rfl, _, rfl⟩) (MovJ.old hJ (fun p hp => by repeat (first | exact hU _ hp | apply List.mem_cons_of_mem)) hDv (map_told hdi))
        · refine xE5_2 (dat_tup3 hDv) ?_; intro t t1 t2 t3 n1 zq21' hm1; subst zq21'
          have hoff := off
          (repeat' (first | ((with_reducible first | refine nextN ?_ | refine nextR ?_); (try dsimp only)) | (k_unfold; (try dsimp only)) | (k_end; kc_close) | ((with_reducible first | show wpAny _ _ (exec _ _) _ _ _ | show wpAny _ _ (eval (Expr.Call ..) _) _ _ _ | show wpAny _ _ (eval (Expr.BinOp ..) _) _ _ _ | show wpAny _ _ (eval (Expr.Subscript ..) _) _ _ _ | show wpAny _ _ (eval (Expr.List ..) _) _ _ _ | show wpAny _ _ (eval (Expr.Tuple ..) _) _ _ _); (fail_if_success (fail_if_success k_fold)); refine (let qk := _; (?_ : wpAny _ _ _ qk _ _))) | ((with_reducible refine execsN ?_); (try k_gentoks)) | ((with_reducible refine args_cons ?_ ?he); (case he => exact rfl)) | ((with_reducible show wpAny _ _ (call (Value.builtin "len") _ _) _ _ _); (k_here; (with_reducible show wpAny _ _ (call (Value.builtin "len") [Value.bytes _ _]) _ _ _); k_dflt (refine len_bytes (sz_small (by assumption) rfl) ?_))) | ((with_reducible show wpAny _ _ (call (Value.ref _) _ _) _ _ _); (k_here; (with_reducible show wpAny _ _ (call (Value.ref 387) _) _ _ _); k_dflt (refine Side.out ?_))) | walk1 | (dsimp only; walk1) | (dsimp only [mA]; walk1) | (dsimp only [mE]; walk1) | (dsimp only [mA, mE]; walk1) | (leave1; (try dsimp only))))
          refine Side.mk ?_
          rename News _ _ _ _ => N9
          rename Fr _ _ _ _ => F9
          refine Spec.calm moved_fault B F9 X T rfl rfl rfl rfl (Nat.le_of_ble_eq_true rfl) (Nat.le_of_ble_eq_true rfl) (news1 N9 (.tail _ (.tail _ (.tail _ (h0 _ (by repeat (first | exact hU _ hm1 | apply List.mem_cons_of_mem))))))) (fun _ _ h => h) ?_
          intro v3 h3 tk3 F3 hb3 hP3
          refine xE0_2 hP3 ?_; (try clear hP3); intro zq22' hk3; refine xE5_3 zq22' ?_; clear zq22'; intro D5 q1 q2 q3 q4 zq23' hf5 hg5; subst zq23'
          refine xE0_2 (news_new5 F9 N9 hoff hk3 hf5 hg5) ?_; intro N5 off5
          (try k_unfold)
          (try dsimp only)
          exact xI3_6 _ _ _ rfl F3 N5 off5 (.inr ⟨_, mem_skip (h0 _ (by repeat (first | exact hU _ hR1.mem | apply List.mem_cons_of_mem))), rfl, _, rfl⟩) (MovJ.new hJ (.tuple (.head _) (.cons (.str _ _) (.cons (.str _ _) (.cons (.int _ _) .nil)))) (map_at hdi))
      intro ys news hJ
      refine xE2_4 hJ ?_; (try clear hJ); intro R tlx zq24' h0 hxs hA; subst zq24'
      intro D' h tk F N o1
      rw [List.size_toArray, hvl] at hA
      have hmv := reads_moved hR1 hR2
      have N5 := news_sub5 N h0
      refine ne_same hmv N (.tail _ (h0 _ (by repeat (first | exact hU _ hR2.mem | apply List.mem_cons_of_mem)))) rfl rfl hR2.all (fun p hp => .tail _ (h0 _ (by repeat (first | exact hU _ hp | apply List.mem_cons_of_mem)))) (.head _) rfl rfl hA (fun p hp => .tail _ (hxs p hp)) (reads_ok hR2) (Nat.le_of_ble_eq_true rfl) ?_
      clear N h0 hxs hA o1
      (repeat' (first | ((with_reducible first | refine nextN ?_ | refine nextR ?_); (try dsimp only)) | (k_unfold; (try dsimp only)) | (k_end; kc_close) | ((with_reducible first | show wpAny _ _ (exec _ _) _ _ _ | show wpAny _ _ (eval (Expr.Call ..) _) _ _ _ | show wpAny _ _ (eval (Expr.BinOp ..) _) _ _ _ | show wpAny _ _ (eval (Expr.Subscript ..) _) _ _ _ | show wpAny _ _ (eval (Expr.List ..) _) _ _ _ | show wpAny _ _ (eval (Expr.Tuple ..) _) _ _ _); (fail_if_success (fail_if_success k_fold)); refine (let qk := _; (?_ : wpAny _ _ _ qk _ _))) | ((with_reducible refine execsN ?_); (try k_gentoks)) | ((with_reducible refine args_cons ?_ ?he); (case he => exact rfl)) | ((with_reducible show wpAny _ _ (exec (Stmt.For (Expr.Name ..) (Expr.Call ..) ..) _) _ _ _); (k_here; k_dflt (refine for_side (by k_asm) (by rfl) (by rfl) ?_))) | ((with_reducible show wpAny _ _ (binaryOp Operator.Add (Value.bytes ..) (Value.bytes ..)) _ _ _); (k_here; k_dflt (refine' add_app (by assumption) (by assumption) ?hz ?_; (case hz => exact rfl)); intro t'r k'r hs'r)) | ((with_reducible show wpAny _ _ (call (Value.ref _) _ _) _ _ _); (k_here; (try ((fail_if_success (fail_if_success k_fold)); refine (let qk := _; (?_ : wpAny _ _ _ qk _ _)))); (try dsimp only); k_dflt (refine' SpecT.here (readers_any (LawT.tab ?hT) rfl (sz_len (by assumption) rfl) ?ha) ?F ?N ?UF ?hT ?O ?hadr ?X ?T ?B ?hA ?hf ?hke ?hh ?hd ?hu ?_; (case hT => assumption); (case ha => first | decide | exact Int.natCast_nonneg _); (case F => k_asm); (case N => k_asm); (case UF => ((repeat (first | exact FrontX.here | (refine' FrontX.cons (by (first | exact .inl (notf_cell (by assumption)) | exact .inl notf_list | exact .inl notf_tup | exact .inr (own_at (by assumption)))) ?_; rotate_left))))); (case O => assumption); (case hadr => exact hadr5 (by k_mem) (by k_mem) (by k_mem) (by k_mem) (by k_mem)); (case X => k_asm); (case T => k_asm); (case B => assumption); (case hA => exact rfl); (case hf => exact rfl); (case hke => exact rfl); (case hh => exact rfl); (case hd => exact Nat.le_of_ble_eq_true rfl); (case hu => exact Nat.le_of_ble_eq_true rfl)); intro v'r h'r tk'r tl'r T'r U'r d0'r d1'r d2'r d3'r d4'r F'r N'r hT'r O'r hsub'r hD'r x0'r x1'r x2'r x3'r x4'r; (refine xE3_3 (dat_list hD'r) ?_; intro a'r vs'r n'r e'r m'r hA'r); subst e'r; clear hD'r; (have hR'r := ReadsT.mk m'r hA'r x0'r x1'r x2'r x3'r x4'r); clear m'r hA'r x0'r x1'r x2'r x3'r x4'r; (try dsimp only at N'r); (try k_sweep))) | ((with_reducible show wpAny _ _ (storeName _ _ _) _ _ _); (k_here; k_dflt (refine' storeX_L ?sF ?sN ?_ rfl rfl; (case sF => k_asm); (case sN => k_asm); k_whole; intro hS FS NS; (try k_sweep); refine (let mk := _; (fun (FK : Fr _ _ _ mk) => ?_) FS); clear FS))) | walk1 | (dsimp only; walk1) | (dsimp only [mA]; walk1) | (dsimp only [mE]; walk1) | (dsimp only [mA, mE]; walk1) | (leave1; (try dsimp only))))
      rename ReadsT (KBw.bInts (_ ++ _)) (0 : Int) _ _ _ _ _ _ _ _ _ => hR3
      rename (∀ (p : Addr × Obj), p ∈ _ → p ∈ _) => hs3
      rename LawT _ _ _ => hT3
      replace hR1 := hR1.mono hs3
      have hU3 := hT3.mem
      rename News _ _ _ _ => N9
      rename Fr _ _ _ _ => F9
      refine Side.mk (loop_rangeS (n := 5) ["is_inside", "spot"] (fun i led => led = _) rfl (by assumption) (by decide) F9 N9 rfl ?_ ?_)
      · intro i ti u2 led2 I2 oI2 h tk hi hJ off2 F N
        subst hJ
        refine xE2_4 (hR1.item hU3 hi) ?_; intro v d hIv hdv hDv hSv
        refine xE2_4 (hR3.item hU3 hi) ?_; intro w3 e hIw hew hDw hSw
        refine xE2_4 (hR1.item hU3 (i := 4) (by decide)) ?_; intro v4 d4 hIv4 hdv4 hDv4 hSv4
        (refine (let gk : Prop := _; (?_ : gk)); rcases Nat.lt_or_ge i 4 with hi4 | hi4 <;> k_unfold)
        · (refine (let gk : Prop := _; (?_ : gk)); rcases hSv with ⟨x, rfl⟩ | ⟨wt, pl, rfl⟩ <;> k_unfold)
          · refine xE3_4 (item_told hDv hU3) ?_; intro t t1 xv zq25' hT0 hT1 _; subst zq25'
            have he := reads_longer hR1 hR3 i x hdv (.inl hi4)
            rw [hew] at he
            (repeat' (first | ((with_reducible first | refine nextN ?_ | refine nextR ?_); (try dsimp only)) | (k_unfold; (try dsimp only)) | (k_end; kc_close) | ((with_reducible first | show wpAny _ _ (exec _ _) _ _ _ | show wpAny _ _ (eval (Expr.Call ..) _) _ _ _ | show wpAny _ _ (eval (Expr.BinOp ..) _) _ _ _ | show wpAny _ _ (eval (Expr.Subscript ..) _) _ _ _ | show wpAny _ _ (eval (Expr.List ..) _) _ _ _ | show wpAny _ _ (eval (Expr.Tuple ..) _) _ _ _); (fail_if_success (fail_if_success k_fold)); refine (let qk := _; (?_ : wpAny _ _ _ qk _ _))) | ((with_reducible refine execsN ?_); (try k_gentoks)) | ((with_reducible refine args_cons ?_ ?he); (case he => exact rfl)) | ((with_reducible show wpAny _ _ (subscriptTail _ _ _ _) _ _ _); (k_here; k_dflt (first | (refine' item_L ?N ?hI ?hU ?_; (case N => k_asm); (case hI => assumption); (case hU => ((repeat (first | exact sub_self _ | refine sub_cons ?_))))) | (refine' item_T ?N ?hI ?hU ?_; (case N => k_asm); (case hI => assumption); (case hU => ((repeat (first | exact sub_self _ | refine sub_cons ?_)))))))) | ((with_reducible show wpAny _ _ (storeName _ _ _) _ _ _); (k_here; k_dflt (refine' storeX_L ?sF ?sN ?_ rfl rfl; (case sF => k_asm); (case sN => k_asm); k_whole; intro hS FS NS; (try k_sweep); refine (let mk := _; (fun (FK : Fr _ _ _ mk) => ?_) FS); clear FS))) | walk1 | (dsimp only; walk1) | (dsimp only [mA]; walk1) | (dsimp only [mE]; walk1) | (dsimp only [mA, mE]; walk1) | (leave1; (try dsimp only))))
            rename News _ _ _ _ => N9
            refine val_same N9 hDv (fun p hp => by repeat (first | exact hU3 _ hp | apply List.mem_cons_of_mem)) hDw (fun p hp => by repeat (first | exact hU3 _ hp | apply List.mem_cons_of_mem)) (Option.some.inj he).symm (reads_ok hR1 _ (List.mem_of_getElem? hdv)) (Nat.le_of_ble_eq_true rfl) ?_
            (repeat' (first | ((with_reducible first | refine nextN ?_ | refine nextR ?_); (try dsimp only)) | (k_unfold; (try dsimp only)) | (k_end; kc_close) | ((with_reducible first | show wpAny _ _ (exec _ _) _ _ _ | show wpAny _ _ (eval (Expr.Call ..) _) _ _ _ | show wpAny _ _ (eval (Expr.BinOp ..) _) _ _ _ | show wpAny _ _ (eval (Expr.Subscript ..) _) _ _ _ | show wpAny _ _ (eval (Expr.List ..) _) _ _ _ | show wpAny _ _ (eval (Expr.Tuple ..) _) _ _ _); (fail_if_success (fail_if_success k_fold)); refine (let qk := _; (?_ : wpAny _ _ _ qk _ _))) | ((with_reducible refine execsN ?_); (try k_gentoks)) | ((with_reducible refine args_cons ?_ ?he); (case he => exact rfl)) | walk1 | (dsimp only; walk1) | (dsimp only [mA]; walk1) | (dsimp only [mE]; walk1) | (dsimp only [mA, mE]; walk1) | (leave1; (try dsimp only))))
            rename Fr _ _ _ _ => F9
            refine TurnS.intro F9 N9 off2 ?_ rfl
            intro z hz
            have hz0 := hz
            simp only [List.contains_cons, List.contains_nil, Bool.or_false, Bool.or_eq_false_iff, beq_eq_false_iff_ne] at hz
            refine xE0_2 hz ?_; (try clear hz); intro z1 z2
            simp +zetaDelta only [if_neg z1, if_neg z2, hz0, Bool.false_eq_true, if_false]
          · refine xE2_2 (item_fault hDv hU3) ?_; intro t t1 zq26' hT0; subst zq26'
            (repeat' (first | ((with_reducible first | refine nextN ?_ | refine nextR ?_); (try dsimp only)) | (k_unfold; (try dsimp only)) | (k_end; kc_close) | ((with_reducible first | show wpAny _ _ (exec _ _) _ _ _ | show wpAny _ _ (eval (Expr.Call ..) _) _ _ _ | show wpAny _ _ (eval (Expr.BinOp ..) _) _ _ _ | show wpAny _ _ (eval (Expr.Subscript ..) _) _ _ _ | show wpAny _ _ (eval (Expr.List ..) _) _ _ _ | show wpAny _ _ (eval (Expr.Tuple ..) _) _ _ _); (fail_if_success (fail_if_success k_fold)); refine (let qk := _; (?_ : wpAny _ _ _ qk _ _))) | ((with_reducible refine execsN ?_); (try k_gentoks)) | ((with_reducible refine args_cons ?_ ?he); (case he => exact rfl)) | ((with_reducible show wpAny _ _ (subscriptTail _ _ _ _) _ _ _); (k_here; k_dflt (first | (refine' item_L ?N ?hI ?hU ?_; (case N => k_asm); (case hI => assumption); (case hU => ((repeat (first | exact sub_self _ | refine sub_cons ?_))))) | (refine' item_T ?N ?hI ?hU ?_; (case N => k_asm); (case hI => assumption); (case hU => ((repeat (first | exact sub_self _ | refine sub_cons ?_)))))))) | ((with_reducible show wpAny _ _ (storeName _ _ _) _ _ _); (k_here; k_dflt (refine' storeX_L ?sF ?sN ?_ rfl rfl; (case sF => k_asm); (case sN => k_asm); k_whole; intro hS FS NS; (try k_sweep); refine (let mk := _; (fun (FK : Fr _ _ _ mk) => ?_) FS); clear FS))) | walk1 | (dsimp only; walk1) | (dsimp only [mA]; walk1) | (dsimp only [mE]; walk1) | (dsimp only [mA, mE]; walk1) | (leave1; (try dsimp only))))
            rename News _ _ _ _ => N9
            rename Fr _ _ _ _ => F9
            refine TurnS.intro F9 N9 off2 ?_ rfl
            intro z hz
            have hz0 := hz
            simp only [List.contains_cons, List.contains_nil, Bool.or_false, Bool.or_eq_false_iff, beq_eq_false_iff_ne] at hz
            refine xE0_2 hz ?_; (try clear hz); intro z1 z2
            simp +zetaDelta only [if_neg z1, if_neg z2, hz0, Bool.false_eq_true, if_false]
        · obtain rfl : i = 4 := by omega
          have hI4 : ItemL _ (4 : Int) v _ := hIv
          cases hdv
          (refine (let gk : Prop := _; (?_ : gk)); rcases hR1.h4 with ⟨x, ⟨kk, nk, fl, mk, ps, hB, hok, hne, rfl⟩, e4⟩ | ⟨wt, pl, _, e4⟩ <;> k_unfold)
          · rw [e4] at hDv
            refine xE3_4 (item_told hDv hU3) ?_; intro t t1 xv zq27' hT0 hT1 hX; subst zq27'
            refine xE4_4 (item_look hX hU3) ?_; intro t2 t3 tvs n3 zq28' hT33 hm3 hDA; subst zq28'
            have hdA := hDA.length
            rw [List.length_map] at hdA
            have hps := reads_look hR1 hB
            clear hIv4 hdv4 hDv4 hSv4
            (repeat' (first | ((with_reducible first | refine nextN ?_ | refine nextR ?_); (try dsimp only)) | (k_unfold; (try dsimp only)) | (k_end; kc_close) | ((with_reducible first | show wpAny _ _ (exec _ _) _ _ _ | show wpAny _ _ (eval (Expr.Call ..) _) _ _ _ | show wpAny _ _ (eval (Expr.BinOp ..) _) _ _ _ | show wpAny _ _ (eval (Expr.Subscript ..) _) _ _ _ | show wpAny _ _ (eval (Expr.List ..) _) _ _ _ | show wpAny _ _ (eval (Expr.Tuple ..) _) _ _ _); (fail_if_success (fail_if_success k_fold)); refine (let qk := _; (?_ : wpAny _ _ _ qk _ _))) | ((with_reducible refine execsN ?_); (try k_gentoks)) | ((with_reducible refine args_cons ?_ ?he); (case he => exact rfl)) | ((with_reducible show wpAny _ _ (eval (Expr.ListComp ..) _) _ _ _); (k_here; (with_reducible show wpAny _ _ (eval (PySem.Expr.ListComp _ [⟨PySem.Expr.Tuple _ _ _, _, _, _⟩] _ _) _) _ _ _); k_dflt (refine comp_tpairs (by k_asm) (by with_unfolding_all rfl) (by rfl) (by decide) ?_))) | ((with_reducible show wpAny _ _ (subscriptTail _ _ _ _) _ _ _); (k_here; k_dflt (first | (refine' item_L ?N ?hI ?hU ?_; (case N => k_asm); (case hI => assumption); (case hU => ((repeat (first | exact sub_self _ | refine sub_cons ?_))))) | (refine' item_T ?N ?hI ?hU ?_; (case N => k_asm); (case hI => assumption); (case hU => ((repeat (first | exact sub_self _ | refine sub_cons ?_)))))))) | walk1 | (dsimp only; walk1) | (dsimp only [mA]; walk1) | (dsimp only [mE]; walk1) | (dsimp only [mA, mE]; walk1) | (leave1; (try dsimp only))))
            rename News _ _ _ _ => N9
            rename Fr _ _ _ _ => F9
            refine Side.mk (block_T (MaxJ _ (ps.map fun p => p - 0)) rfl (by decide) (by rfl) (by rfl) (by rfl) (by decide) (fun i ys news hJ => by rw [hJ.1]; repeat (first | exact hU3 _ hm3 | apply List.mem_cons_of_mem)) (by rw [List.size_toArray, sizeLine_eq]; omega) F9 N9 ⟨rfl, .nil⟩ ?_ ?_)
            · intro i5 v5 ys5 news5 hv5 hJ5
              refine xE0_2 hJ5 ?_; (try clear hJ5); intro zq29' hys5; subst zq29'
              refine xE1_2 (dat_at hDA hv5) ?_; intro d5 hd5 hD5
              rw [List.getElem?_map] at hd5
              refine xE1_2 (Option.map_eq_some_iff.mp hd5) ?_; intro p5 hp5 zq30'; subst zq30'
              refine xE4_2 (item_tab hD5) ?_; intro t5 t6 x6 n6 zq31' hm6; subst zq31'
              refine xI5_5 t5 _ _ _ n6 rfl (by repeat (first | exact hU3 _ hm6 | apply List.mem_cons_of_mem)) rfl rfl ?_
              intro I6 oI6 C6 oC6 D6 m6 h6 tk6 E6 hC6 hx6 hx7 F N off6 ne6
              (repeat' (first | ((with_reducible first | refine nextN ?_ | refine nextR ?_); (try dsimp only)) | (k_unfold; (try dsimp only)) | (k_end; kc_close) | ((with_reducible first | show wpAny _ _ (exec _ _) _ _ _ | show wpAny _ _ (eval (Expr.Call ..) _) _ _ _ | show wpAny _ _ (eval (Expr.BinOp ..) _) _ _ _ | show wpAny _ _ (eval (Expr.Subscript ..) _) _ _ _ | show wpAny _ _ (eval (Expr.List ..) _) _ _ _ | show wpAny _ _ (eval (Expr.Tuple ..) _) _ _ _); (fail_if_success (fail_if_success k_fold)); refine (let qk := _; (?_ : wpAny _ _ _ qk _ _))) | ((with_reducible refine execsN ?_); (try k_gentoks)) | ((with_reducible refine args_cons ?_ ?he); (case he => exact rfl)) | ((with_reducible show LCg.CompEnd _ _ _ _ _ _ _ _ _ _ _ _ _ _); k_dflt (refine Side.out ?_)) | walk1 | (dsimp only; walk1) | (dsimp only [mA]; walk1) | (dsimp only [mE]; walk1) | (dsimp only [mA, mE]; walk1) | (leave1; (try dsimp only))))
              refine Side.mk ?_
              (try k_unfold)
              (try dsimp only)
              rename News _ _ _ _ => N9
              rename Fr _ _ _ _ => F9
              exact xI3_6 _ _ _ rfl F9 N9 off6 trivial (MaxJ.next ⟨rfl, hys5⟩ (by rw [List.getElem?_map, hp5]; rfl))
            · intro ys6 news6 D6 h6 tk6 hJ6 F N o6
              refine xE0_2 hJ6 ?_; (try clear hJ6); intro zq32' hys6; subst zq32'
              have hys7 := ints_whole hys6 (by rw [List.size_toArray, hdA, List.length_map]; exact Nat.le_refl _)
              have hne7 := len_pos (f := fun p : Int => p - 0) hne
              (repeat' (first | ((with_reducible first | refine nextN ?_ | refine nextR ?_); (try dsimp only)) | (k_unfold; (try dsimp only)) | (k_end; kc_close) | ((with_reducible first | show wpAny _ _ (exec _ _) _ _ _ | show wpAny _ _ (eval (Expr.Call ..) _) _ _ _ | show wpAny _ _ (eval (Expr.BinOp ..) _) _ _ _ | show wpAny _ _ (eval (Expr.Subscript ..) _) _ _ _ | show wpAny _ _ (eval (Expr.List ..) _) _ _ _ | show wpAny _ _ (eval (Expr.Tuple ..) _) _ _ _); (fail_if_success (fail_if_success k_fold)); refine (let qk := _; (?_ : wpAny _ _ _ qk _ _))) | ((with_reducible refine execsN ?_); (try k_gentoks)) | ((with_reducible refine args_cons ?_ ?he); (case he => exact rfl)) | ((with_reducible show wpAny _ _ (call (Value.builtin "max") _ _) _ _ _); (k_here; k_dflt (refine' kso_max ?F ?N ?hl ?hi ?hne ?hh ?_; (case F => k_asm); (case N => k_asm); (case hl => exact News.isList (by k_asm) (by k_mem)); (case hi => assumption); (case hne => assumption); (case hh => exact rfl)); intro h'r M'r t'r k'r F'r N'r hM1 hM2; (try k_sweep))) | ((with_reducible show wpAny _ _ (call (Value.builtin "len") _ _) _ _ _); (k_here; (with_reducible show wpAny _ _ (call (Value.builtin "len") [Value.bytes _ _]) _ _ _); k_dflt (refine len_bytes (sz_small (by assumption) rfl) ?_))) | ((with_reducible show wpAny _ _ (subscriptTail _ _ _ _) _ _ _); (k_here; k_dflt (first | (refine' item_L ?N ?hI ?hU ?_; (case N => k_asm); (case hI => assumption); (case hU => ((repeat (first | exact sub_self _ | refine sub_cons ?_))))) | (refine' item_T ?N ?hI ?hU ?_; (case N => k_asm); (case hI => assumption); (case hU => ((repeat (first | exact sub_self _ | refine sub_cons ?_)))))))) | ((with_reducible show wpAny _ _ (storeName _ _ _) _ _ _); (k_here; k_dflt (refine' storeX_L ?sF ?sN ?_ rfl rfl; (case sF => k_asm); (case sN => k_asm); k_whole; intro hS FS NS; (try k_sweep); refine (let mk := _; (fun (FK : Fr _ _ _ mk) => ?_) FS); clear FS))) | walk1 | (dsimp only; walk1) | (dsimp only [mA]; walk1) | (dsimp only [mE]; walk1) | (dsimp only [mA, mE]; walk1) | (leave1; (try dsimp only))))
              · rename (_ : Int) < ((Array.size _ : Nat) : Int) => hlt9
                rename (∀ a, a ∈ List.map _ _ → a ≤ _) => hM9
                refine xE0_2 (longer4 hR1 hR3 e4 hM9 hlt9 hew) ?_; intro he hk9
                rename News _ _ _ _ => N9
                refine val_same N9 hDv (fun p hp => by repeat (first | exact hU3 _ hp | apply List.mem_cons_of_mem)) hDw (fun p hp => by repeat (first | exact hU3 _ hp | apply List.mem_cons_of_mem)) he hk9 (Nat.le_of_ble_eq_true rfl) ?_
                (repeat' (first | ((with_reducible first | refine nextN ?_ | refine nextR ?_); (try dsimp only)) | (k_unfold; (try dsimp only)) | (k_end; kc_close) | ((with_reducible first | show wpAny _ _ (exec _ _) _ _ _ | show wpAny _ _ (eval (Expr.Call ..) _) _ _ _ | show wpAny _ _ (eval (Expr.BinOp ..) _) _ _ _ | show wpAny _ _ (eval (Expr.Subscript ..) _) _ _ _ | show wpAny _ _ (eval (Expr.List ..) _) _ _ _ | show wpAny _ _ (eval (Expr.Tuple ..) _) _ _ _); (fail_if_success (fail_if_success k_fold)); refine (let qk := _; (?_ : wpAny _ _ _ qk _ _))) | ((with_reducible refine execsN ?_); (try k_gentoks)) | ((with_reducible refine args_cons ?_ ?he); (case he => exact rfl)) | walk1 | (dsimp only; walk1) | (dsimp only [mA]; walk1) | (dsimp only [mE]; walk1) | (dsimp only [mA, mE]; walk1) | (leave1; (try dsimp only))))
                rename Fr _ _ _ _ => F9
                refine TurnS.intro F9 (by first | exact N9 | exact fun p hp => N9 p (.tail _ hp)) off2 ?_ rfl
                intro z hz
                have hz0 := hz
                simp only [List.contains_cons, List.contains_nil, Bool.or_false, Bool.or_eq_false_iff, beq_eq_false_iff_ne] at hz
                refine xE0_2 hz ?_; (try clear hz); intro z1 z2
                simp +zetaDelta only [if_neg z1, if_neg z2, hz0, Bool.false_eq_true, if_false]
              · rename News _ _ _ _ => N9
                rename Fr _ _ _ _ => F9
                refine TurnS.intro F9 (by first | exact N9 | exact fun p hp => N9 p (.tail _ hp)) off2 ?_ rfl
                intro z hz
                have hz0 := hz
                simp only [List.contains_cons, List.contains_nil, Bool.or_false, Bool.or_eq_false_iff, beq_eq_false_iff_ne] at hz
                refine xE0_2 hz ?_; (try clear hz); intro z1 z2
                simp +zetaDelta only [if_neg z1, if_neg z2, hz0, Bool.false_eq_true, if_false]
          · rw [e4] at hDv
            refine xE2_2 (item_fault hDv hU3) ?_; intro t t1 zq33' hT0; subst zq33'
            clear hIv4 hdv4 hDv4 hSv4
            (repeat' (first | ((with_reducible first | refine nextN ?_ | refine nextR ?_); (try dsimp only)) | (k_unfold; (try dsimp only)) | (k_end; kc_close) | ((with_reducible first | show wpAny _ _ (exec _ _) _ _ _ | show wpAny _ _ (eval (Expr.Call ..) _) _ _ _ | show wpAny _ _ (eval (Expr.BinOp ..) _) _ _ _ | show wpAny _ _ (eval (Expr.Subscript ..) _) _ _ _ | show wpAny _ _ (eval (Expr.List ..) _) _ _ _ | show wpAny _ _ (eval (Expr.Tuple ..) _) _ _ _); (fail_if_success (fail_if_success k_fold)); refine (let qk := _; (?_ : wpAny _ _ _ qk _ _))) | ((with_reducible refine execsN ?_); (try k_gentoks)) | ((with_reducible refine args_cons ?_ ?he); (case he => exact rfl)) | ((with_reducible show wpAny _ _ (subscriptTail _ _ _ _) _ _ _); (k_here; k_dflt (first | (refine' item_L ?N ?hI ?hU ?_; (case N => k_asm); (case hI => assumption); (case hU => ((repeat (first | exact sub_self _ | refine sub_cons ?_))))) | (refine' item_T ?N ?hI ?hU ?_; (case N => k_asm); (case hI => assumption); (case hU => ((repeat (first | exact sub_self _ | refine sub_cons ?_)))))))) | ((with_reducible show wpAny _ _ (storeName _ _ _) _ _ _); (k_here; k_dflt (refine' storeX_L ?sF ?sN ?_ rfl rfl; (case sF => k_asm); (case sN => k_asm); k_whole; intro hS FS NS; (try k_sweep); refine (let mk := _; (fun (FK : Fr _ _ _ mk) => ?_) FS); clear FS))) | walk1 | (dsimp only; walk1) | (dsimp only [mA]; walk1) | (dsimp only [mE]; walk1) | (dsimp only [mA, mE]; walk1) | (leave1; (try dsimp only))))
            rename News _ _ _ _ => N9
            rename Fr _ _ _ _ => F9
            refine TurnS.intro F9 N9 off2 ?_ rfl
            intro z hz
            have hz0 := hz
            simp only [List.contains_cons, List.contains_nil, Bool.or_false, Bool.or_eq_false_iff, beq_eq_false_iff_ne] at hz
            refine xE0_2 hz ?_; (try clear hz); intro z1 z2
            simp +zetaDelta only [if_neg z1, if_neg z2, hz0, Bool.false_eq_true, if_false]
      · intro h tk u2 led2 hJ F N
        subst hJ
        (repeat' (first | ((with_reducible first | refine nextN ?_ | refine nextR ?_); (try dsimp only)) | (k_unfold; (try dsimp only)) | (k_end; kc_close) | ((with_reducible first | show wpAny _ _ (exec _ _) _ _ _ | show wpAny _ _ (eval (Expr.Call ..) _) _ _ _ | show wpAny _ _ (eval (Expr.BinOp ..) _) _ _ _ | show wpAny _ _ (eval (Expr.Subscript ..) _) _ _ _ | show wpAny _ _ (eval (Expr.List ..) _) _ _ _ | show wpAny _ _ (eval (Expr.Tuple ..) _) _ _ _); (fail_if_success (fail_if_success k_fold)); refine (let qk := _; (?_ : wpAny _ _ _ qk _ _))) | ((with_reducible refine execsN ?_); (try k_gentoks)) | ((with_reducible refine args_cons ?_ ?he); (case he => exact rfl)) | walk1 | (dsimp only; walk1) | (dsimp only [mA]; walk1) | (dsimp only [mE]; walk1) | (dsimp only [mA, mE]; walk1) | (leave1; (try dsimp only))))
        rename News _ _ _ _ => N9
        rename Fr _ _ _ _ => F9
        rename OwnOff _ [I, _, _, _, _] => hO9
        refine TurnS.intro F9 (fun p hp => N9 p (.tail _ hp)) (List.forall_mem_cons.mpr ⟨f1, List.forall_mem_cons.mpr ⟨f2, List.forall_mem_cons.mpr ⟨f3, List.forall_mem_cons.mpr ⟨f4, List.forall_mem_cons.mpr ⟨f5, own_at hO9⟩⟩⟩⟩⟩) ?_ ⟨_, _, _, _, _, _, _, _, _, _, rfl, by assumption, hT3, own_tail hO9⟩
        intro z hz
        have hz0 := hz
        simp only [List.contains_cons, List.contains_nil, Bool.or_false, Bool.or_eq_false_iff, beq_eq_false_iff_ne] at hz
        refine xE0_7 hz ?_; (try clear hz); intro z1 z2 z3 z4 z5 z6 z7
        have hzi : [Str.ofString "is_inside", Str.ofString "spot"].contains z = false := by rw [List.contains_cons, List.contains_cons, List.contains_nil, beq_eq_false_iff_ne.mpr z7, beq_eq_false_iff_ne.mpr z6]; rfl
        simp +zetaDelta only [if_neg z1, if_neg z2, if_neg z3, if_neg z4, if_neg z5, if_neg z6, if_neg z7, hz0, hzi, Bool.false_eq_true, if_false]
  · intro h tk u led₁ hJ F N
    refine xE10_4 hJ ?_; (try clear hJ); intro nn rr a1 b1 c1 cc ee tl Tb U1 zq34' hcc hTU1 hOU1; subst zq34'
    have hU1 := hTU1.mem
    refine xE1_1 (hTU1.tab.tab) ?_; intro ps9 hps9
    (repeat' (first | ((with_reducible first | refine nextN ?_ | refine nextR ?_); (try dsimp only)) | (k_unfold; (try dsimp only)) | (k_end; kc_close) | ((with_reducible first | show wpAny _ _ (exec _ _) _ _ _ | show wpAny _ _ (eval (Expr.Call ..) _) _ _ _ | show wpAny _ _ (eval (Expr.BinOp ..) _) _ _ _ | show wpAny _ _ (eval (Expr.Subscript ..) _) _ _ _ | show wpAny _ _ (eval (Expr.List ..) _) _ _ _ | show wpAny _ _ (eval (Expr.Tuple ..) _) _ _ _); (fail_if_success (fail_if_success k_fold)); refine (let qk := _; (?_ : wpAny _ _ _ qk _ _))) | ((with_reducible refine execsN ?_); (try k_gentoks)) | ((with_reducible refine args_cons ?_ ?he); (case he => exact rfl)) | walk1 | (dsimp only; walk1) | (dsimp only [mA]; walk1) | (dsimp only [mE]; walk1) | (dsimp only [mA, mE]; walk1) | (leave1; (try dsimp only))))
    (try k_unfold)
    (try dsimp only)
    rename News _ _ _ _ => N9
    rename Fr _ _ _ _ => F9
    exact hQ _ _ ps9 (fun b o q hb => F9.keep b o (hgk b o q fun hm => hb (List.mem_singleton.mp hm))) (N9.get (by repeat (first | exact hTU1.inT _ hps9 | apply List.mem_cons_of_mem)))
end
section
open PySem.Calls
theorem old_k {h h' : Heap} {ps : Array Value} (C : CodeHd h 374 370) (h0 : h.get? 370 = some (tabObj #[])) (keep : ∀ b o, h.get? b = some o → b ≠ 370 → h'.get? b = some o) (h1 : h'.get? 370 = some (tabObj ps)) : OldK h h' := by
  refine ⟨fun b o e => ?_, fun b o e => ?_⟩
  · by_cases hb : b = 370
    · subst hb
      rw [h0] at e
      cases e
      exact .inr (.inl ⟨(C.tab h0).isCodeTable, rfl, #[], ps, rfl, by rw [Array.empty_append]; exact h1⟩)
    · exact .inl (keep b o e hb)
  · by_cases hb : b = 370
    · subst hb; exact ⟨_, h1⟩
    · exact ⟨o, keep b o e hb⟩
theorem law_last {w : World} {s₁ : Shared} {p : Program} {loose : List Str} {mean mean' : ExcName → Option Value} {mg mb : Str → Option Value} {fa S : Addr} {o : Obj} {pm cd doc dV kV : Value} {d : DefRec} {kwd : List (Str × Expr)} {c : ClaimW} {cl : Str → Option Addr} {args : List WData} {its : List Value} {ns : List Int}
    (KX : (KK w.params).In s₁.heap) (hT8 : ∀ P ∈ [(370 : Addr)], s₁.heap.get? P = some (tabObj #[])) (T : Top p loose mean mg mb s₁.heap) (ho : s₁.heap.get? fa = some o) (hd : o.data = .func { docDef d.name d.params d.body d.scope pm cd doc with defaults := dV, kwdefaults := kV })
    (hcd : s₁.heap.CodeRec cd d.name) (hD : Dflts mg s₁.heap d.params kwd dV kV) (hg : s₁.gens = #[]) (hS : s₁.heap.IsList S (List.toArray its)) (hI : IntsAre its ns) (hc : ¬ ((63 : Nat) : Int) < (ns.length : Int))
    (hl : lawS = some (d.name, d.params, d.body, d.scope)) (hpd : d.params.defaults = []) (hkd : kwd = []) (hK : noTabs (KK w.params) = true) (hr : ∀ x, c.raises args x = false) (hpost : c.post args (.bool true) args = true) :
    wpAny (model rw_pb0183_01.row.prog w) callerA ((fun f vs => call f vs) (.ref fa) [.ref S]) (fun v s' => GoodWG c cl mean' args s₁ (.ok (.ret v)) s') (fun e s' => GoodWG c cl mean' args s₁ (.error e) s') s₁ := by
  have h370 := hT8 370 (.head _)
  have hT9 : TabsAt [((374 : Addr), (370 : Addr))] s₁.heap := List.forall_mem_cons.mpr ⟨⟨code_hd KX, h370⟩, fun _ h => nomatch h⟩
  have e1 : dV = .none := hD.pos.elim (fun h => h.2) fun h => (h.1 hpd).elim
  have e2 : kV = .none := hD.kw.elim (fun h => h.2) fun h => (h.1 hkd).elim
  subst e1 e2
  obtain ⟨oc, od, da, osl⟩ := o
  have hd : da = _ := hd
  subst hd
  refine law_runs (p := topProg) (loose := loose ++ (recsOf p).map (·.name) ++ (litsOf p).map (·.1) ++ (clssOf p loose).map (·.name)) (mean := mean) (mg := mg) (mb := mb) hl ho hcd (ghost_K hT9 KX hK) (ghost_top hT9 T) T.nolimit h370 hS hI (by omega) fun h' tk' ps keep h3 => ?_
  exact xI0_4 (.inl ⟨.bool true, .bool true, [], rfl, hr, .bool true, hpost, fun _ => ⟨List.nodup_nil, fun _ h => nomatch h⟩⟩) (old_k (code_hd KX) h370 keep h3) rfl (.of_eq hg)
end
section
namespace holds
theorem tw1990882624230221008 : True := ⟨⟩
theorem tw3947032349157739243 : True := ⟨⟩
theorem tw15917342116762055876 : True := ⟨⟩
theorem tw742486383753566544 : True := ⟨⟩
theorem tw15438410029137154744 : True := ⟨⟩
theorem tw11148616480334823257 : True := ⟨⟩
theorem tw17343836025313947904 : True := ⟨⟩
theorem tw4290641577518128536 : True := ⟨⟩
theorem tw14629447582931001479 : True := ⟨⟩
theorem tw11413208387583891290 : True := ⟨⟩
theorem tw12468101337765408714 : True := ⟨⟩
theorem tw12542415522573167287 : True := ⟨⟩
theorem tw13130249910395747862 : True := ⟨⟩
theorem tw13153363017490239224 : True := ⟨⟩
theorem tw13229161255000060034 : True := ⟨⟩
theorem tw13676757877788619591 : True := ⟨⟩
theorem tw14977296931134136204 : True := ⟨⟩
theorem tw15663057623668237757 : True := ⟨⟩
theorem tw17835054043649672137 : True := ⟨⟩
theorem tw18224010420261798391 : True := ⟨⟩
theorem tw2291020835558564570 : True := ⟨⟩
theorem tw4374827463496512255 : True := ⟨⟩
theorem tw4381346726385406224 : True := ⟨⟩
theorem tw5531739377885291302 : True := ⟨⟩
theorem tw7131176098017995657 : True := ⟨⟩
theorem tw7366336091430424897 : True := ⟨⟩
theorem tw8684541073956307770 : True := ⟨⟩
theorem tw9352973159707700526 : True := ⟨⟩
theorem tw9638990691586225099 : True := ⟨⟩
theorem tw13860560629476652642 : True := ⟨⟩
theorem tw16908686848171061149 : True := ⟨⟩
theorem tw13980644296350529377 : True := ⟨⟩
theorem tw8551410553514715252 : True := ⟨⟩
theorem tw185807328385624810 : True := ⟨⟩
theorem tw11612728935029869629 : True := ⟨⟩
theorem tw7873036012977236159 : True := ⟨⟩
theorem tw15464432741802594518 : True := ⟨⟩
theorem tw3092724735428445279 : True := ⟨⟩
theorem tw1569810199879761147 : True := ⟨⟩
theorem tw9430090754398894584 : True := ⟨⟩
theorem tw6489310206099298910 : True := ⟨⟩
theorem tw9160933379109621080 : True := ⟨⟩
theorem tw13651502964188933756 : True := ⟨⟩
theorem tw15356600547250028879 : True := ⟨⟩
theorem tw4475622257904601326 : True := ⟨⟩
theorem tw4197124852483764760 : True := ⟨⟩
theorem tw3279077582325829838 : True := ⟨⟩
theorem tw7145057240379410032 : True := ⟨⟩
theorem tw6817751937963910627 : True := ⟨⟩
theorem tw14456359579513077766 : True := ⟨⟩
theorem tw1477864382951527211 : True := ⟨⟩
theorem tw1672651397029140864 : True := ⟨⟩
theorem tw9866653766423218390 : True := ⟨⟩
theorem tw15670438280644718882 : True := ⟨⟩
theorem tw10705761992013847755 : True := ⟨⟩
theorem tw298297018594106725 : True := ⟨⟩
theorem tw12629177860411813126 : True := ⟨⟩
theorem tw6396523623945614605 : True := ⟨⟩
theorem tw17450472940649059298 : True := ⟨⟩
theorem tw14404905868111484630 : True := ⟨⟩
theorem tw9408521175777228426 : True := ⟨⟩
theorem tw5915465848944024539 : True := ⟨⟩
theorem tw2003794701753356343 : True := ⟨⟩
theorem tw4496467784121089108 : True := ⟨⟩
theorem tw4252685499439207924 : True := ⟨⟩
theorem tw9245723823536211039 : True := ⟨⟩
theorem tw6816380694822836728 : True := ⟨⟩
theorem tw10817008591213730988 : True := ⟨⟩
theorem tw9327718836232418737 : True := ⟨⟩
theorem tw10202850474951982929 : True := ⟨⟩
theorem tw10637851664137882224 : True := ⟨⟩
theorem tw15618270119709553273 : True := ⟨⟩
theorem tw4381757428849502282 : True := ⟨⟩
theorem tw1974762919298152056 : True := ⟨⟩
theorem tw11341941285841758863 : True := ⟨⟩
theorem tw11502601298335438083 : True := ⟨⟩
theorem tw10494946348260405530 : True := ⟨⟩
theorem tw5082999880386992228 : True := ⟨⟩
theorem tw9569093901706499007 : True := ⟨⟩
theorem tw9458989268892848673 : True := ⟨⟩
theorem tw4079574721724423606 : True := ⟨⟩
theorem tw3589964763223657672 : True := ⟨⟩
theorem tw9518972631687950247 : True := ⟨⟩
theorem tw13563289320671947111 : True := ⟨⟩
theorem tw2752272122444995253 : True := ⟨⟩
theorem tw14411328915609312922 : True := ⟨⟩
theorem tw15733542881966949079 : True := ⟨⟩
theorem tw16725066886706607050 : True := ⟨⟩
theorem tw8163853742193369449 : True := ⟨⟩
theorem tw9284948610034456067 : True := ⟨⟩
theorem tw16307742377514257941 : True := ⟨⟩
theorem tw12354433232887552844 : True := ⟨⟩
theorem tw4952593789767209597 : True := ⟨⟩
theorem tw2277698456845511444 : True := ⟨⟩
theorem tw7058599786907716777 : True := ⟨⟩
theorem tw2167384251425162797 : True := ⟨⟩
theorem tw5959074840488112208 : True := ⟨⟩
theorem tw16497969686579978388 : True := ⟨⟩
theorem tw14747351113905286367 : True := ⟨⟩
theorem tw12461706298059298081 : True := ⟨⟩
theorem tw17591727778206626035 : True := ⟨⟩
theorem tw15216533652830951187 : True := ⟨⟩
theorem tw151567797773009622 : True := ⟨⟩
theorem tw14856189802965030758 : True := ⟨⟩
theorem tw1032644102275906610 : True := ⟨⟩
theorem tw16034146489351607153 : True := ⟨⟩
theorem tw9855210162650666830 : True := ⟨⟩
theorem tw16461013251600362008 : True := ⟨⟩
theorem tw14341210406198164329 : True := ⟨⟩
theorem tw13306226422529918579 : True := ⟨⟩
theorem tw4408763645494598628 : True := ⟨⟩
theorem tw6278366128872770721 : True := ⟨⟩
theorem tw4659233104850659043 : True := ⟨⟩
theorem tw3969078344035082030 : True := ⟨⟩
theorem tw13564983018704479910 : True := ⟨⟩
theorem tw3081346186701454755 : True := ⟨⟩
theorem tw1438057683635843531 : True := ⟨⟩
theorem tw4921510776622977656 : True := ⟨⟩
theorem tw16569799976186059295 : True := ⟨⟩
theorem tw4529002996912422141 : True := ⟨⟩
theorem tw6654929391614583909 : True := ⟨⟩
theorem tw15383290158734973844 : True := ⟨⟩
theorem tw10684964147190113176 : True := ⟨⟩
theorem tw4043779546988386903 : True := ⟨⟩
theorem tw14432740918813763817 : True := ⟨⟩
theorem tw2422663375537807432 : True := ⟨⟩
theorem tw3083665863380995925 : True := ⟨⟩
theorem tw12528141070781557109 : True := ⟨⟩
theorem tw12135579543755162760 : True := ⟨⟩
theorem tw10576265454180977796 : True := ⟨⟩
theorem tw14438757958421221462 : True := ⟨⟩
theorem tw8868040359437915812 : True := ⟨⟩
theorem tw17642598502550569490 : True := ⟨⟩
theorem tw17631178891982236634 : True := ⟨⟩
theorem tw2781561513384061212 : True := ⟨⟩
theorem tw5932082505621288647 : True := ⟨⟩
theorem tw1446027475299390936 : True := ⟨⟩
theorem tw2661161477798328453 : True := ⟨⟩
theorem tw8575535491628544125 : True := ⟨⟩
theorem tw8324913547053779211 : True := ⟨⟩
theorem tw759334954848157859 : True := ⟨⟩
theorem tw187104208977503339 : True := ⟨⟩
theorem tw10531532615022067580 : True := ⟨⟩
theorem tw960582308587345451 : True := ⟨⟩
theorem tw11619669790576578751 : True := ⟨⟩
theorem tw6159885450047824267 : True := ⟨⟩
theorem tw3381435865837020940 : True := ⟨⟩
theorem tw16878984735049331645 : True := ⟨⟩
theorem tw8260078842695283502 : True := ⟨⟩
theorem tw10953125311028157021 : True := ⟨⟩
theorem tw14247145606103189434 : True := ⟨⟩
theorem tw8239031253751857358 : True := ⟨⟩
theorem tw10894570999934473159 : True := ⟨⟩
theorem tw8903297777125119442 : True := ⟨⟩
theorem tw9160814584890018001 : True := ⟨⟩
theorem tw3232270311777372273 : True := ⟨⟩
theorem tw15750308709622187472 : True := ⟨⟩
theorem tw244668840739839672 : True := ⟨⟩
theorem tw7516632072315021061 : True := ⟨⟩
theorem tw63030109126827207 : True := ⟨⟩
theorem tw16239030619513480838 : True := ⟨⟩
theorem tw1639197193820686003 : True := ⟨⟩
theorem tw15654153127513851752 : True := ⟨⟩
theorem tw1092734292537931370 : True := ⟨⟩
theorem tw7991519602905016326 : True := ⟨⟩
theorem tw5498966250228494579 : True := ⟨⟩
theorem tw3937267528351423324 : True := ⟨⟩
theorem tw10853043219271619230 : True := ⟨⟩
theorem tw4717937361131159733 : True := ⟨⟩
theorem tw707885073954110949 : True := ⟨⟩
theorem tw17856180979147524769 : True := ⟨⟩
theorem tw1833173380454153921 : True := ⟨⟩
theorem tw13002855754428957212 : True := ⟨⟩
theorem tw8868445881999480663 : True := ⟨⟩
theorem tw8217837808669207805 : True := ⟨⟩
theorem tw15493915963290111440 : True := ⟨⟩
theorem tw16179787414501680475 : True := ⟨⟩
theorem tw4480811336153992742 : True := ⟨⟩
theorem tw12808162357026388105 : True := ⟨⟩
theorem tw13334661261001831826 : True := ⟨⟩
theorem tw9766128667603022514 : True := ⟨⟩
theorem tw4065146272016792997 : True := ⟨⟩
theorem tw17500814259130102135 : True := ⟨⟩
theorem tw10123497631757608206 : True := ⟨⟩
theorem tw14691085348537605332 : True := ⟨⟩
theorem tw9523873602847724419 : True := ⟨⟩
theorem tw4876135695594978501 : True := ⟨⟩
theorem tw1882270145967814011 : True := ⟨⟩
theorem tw15043986215568586124 : True := ⟨⟩
theorem tw17822619038779606285 : True := ⟨⟩
theorem tw14786066558164337950 : True := ⟨⟩
theorem tw6166532556598395850 : True := ⟨⟩
theorem tw15305512045591798990 : True := ⟨⟩
theorem tw1382383790286775375 : True := ⟨⟩
theorem tw2160012875989923789 : True := ⟨⟩
theorem tw95296551208255155 : True := ⟨⟩
theorem tw2972900019843275892 : True := ⟨⟩
theorem tw2946744036017948005 : True := ⟨⟩
theorem tw9140063382869304120 : True := ⟨⟩
theorem tw3976387168054148928 : True := ⟨⟩
theorem tw2084331650109322480 : True := ⟨⟩
theorem tw13370180491053348 : True := ⟨⟩
theorem tw13341946137322399123 : True := ⟨⟩
theorem tw14085268106739128817 : True := ⟨⟩
theorem tw16880556292197207165 : True := ⟨⟩
theorem tw5761461159549163931 : True := ⟨⟩
theorem tw4583756282420477746 : True := ⟨⟩
theorem tw12788872388335264594 : True := ⟨⟩
theorem tw8277820557490507997 : True := ⟨⟩
theorem tw2929439407932294337 : True := ⟨⟩
theorem tw3906943341852370832 : True := ⟨⟩
theorem tw17779774989671706653 : True := ⟨⟩
theorem tw9188266559522036927 : True := ⟨⟩
theorem tw10859938921441162988 : True := ⟨⟩
theorem tw2667925813562934949 : True := ⟨⟩
theorem tw11111472982789046935 : True := ⟨⟩
theorem tw13281364814482169325 : True := ⟨⟩
theorem tw4702539438339769474 : True := ⟨⟩
theorem tw5078402968320093544 : True := ⟨⟩
theorem tw16035096773351161327 : True := ⟨⟩
theorem tw576298715544257586 : True := ⟨⟩
theorem tw6099975724469302500 : True := ⟨⟩
theorem tw11569915684508697678 : True := ⟨⟩
theorem tw13373784697917265674 : True := ⟨⟩
theorem tw13758948915013449397 : True := ⟨⟩
theorem tw14054693376921006050 : True := ⟨⟩
theorem tw8789113547377566482 : True := ⟨⟩
theorem tw2490583276235294983 : True := ⟨⟩
theorem tw7399101569421298396 : True := ⟨⟩
theorem tw6307330118970589470 : True := ⟨⟩
theorem tw7350330377624401328 : True := ⟨⟩
theorem tw7129523546110730894 : True := ⟨⟩
theorem tw10520202591518659360 : True := ⟨⟩
theorem tw8143335708233088440 : True := ⟨⟩
theorem tw11822188140940861840 : True := ⟨⟩
theorem tw5225467491883748592 : True := ⟨⟩
theorem tw12160635655254385198 : True := ⟨⟩
theorem tw5599412692616142259 : True := ⟨⟩
theorem tw15659084048362614264 : True := ⟨⟩
theorem tw9816476011544392670 : True := ⟨⟩
theorem tw4949047195023096438 : True := ⟨⟩
theorem tw7923702915469573346 : True := ⟨⟩
theorem tw6460966521098074893 : True := ⟨⟩
theorem tw6216033271563703469 : True := ⟨⟩
theorem tw8778671856527934898 : True := ⟨⟩
theorem tw15462992800728643659 : True := ⟨⟩
theorem tw154871700347349385 : True := ⟨⟩
theorem tw1876284267304334591 : True := ⟨⟩
theorem tw13150661809386230508 : True := ⟨⟩
theorem tw18173914834931495973 : True := ⟨⟩
theorem tw8105830805119860317 : True := ⟨⟩
theorem tw1213666046027356511 : True := ⟨⟩
theorem tw11450275943994455990 : True := ⟨⟩
theorem tw14314133134477209284 : True := ⟨⟩
theorem tw2207817973478938216 : True := ⟨⟩
theorem tw9370115536473471133 : True := ⟨⟩
theorem tw10698829266838348154 : True := ⟨⟩
theorem tw5274829272982666545 : True := ⟨⟩
theorem tw10269081998898121243 : True := ⟨⟩
theorem tw1552857426587298226 : True := ⟨⟩
theorem tw16315053957116525436 : True := ⟨⟩
theorem tw5282283922864298156 : True := ⟨⟩
theorem tw2682973687022302978 : True := ⟨⟩
theorem tw2936799095737714382 : True := ⟨⟩
theorem tw9321796208036801940 : True := ⟨⟩
theorem tw4998001990490953706 : True := ⟨⟩
theorem tw945861476033566700 : True := ⟨⟩
theorem tw6735552807121987811 : True := ⟨⟩
theorem tw8571184235532366510 : True := ⟨⟩
theorem tw6606875086121380550 : True := ⟨⟩
theorem tw4772410448533662562 : True := ⟨⟩
theorem tw4532548537324856634 : True := ⟨⟩
theorem tw4485590747672999114 : True := ⟨⟩
theorem tw7798976556582896058 : True := ⟨⟩
theorem tw17294395744611713098 : True := ⟨⟩
theorem tw12762722769849151566 : True := ⟨⟩
theorem tw14083834280242248106 : True := ⟨⟩
theorem tw8102643725754146565 : True := ⟨⟩
theorem tw3210078786618844196 : True := ⟨⟩
theorem tw5350216910946226995 : True := ⟨⟩
theorem tw17148229171239856432 : True := ⟨⟩
theorem tw12056596633878991817 : True := ⟨⟩
theorem tw12004703523718567385 : True := ⟨⟩
theorem tw7400771686186127474 : True := ⟨⟩
theorem tw3117193011312037209 : True := ⟨⟩
theorem tw8115153917610635543 : True := ⟨⟩
theorem tw16887932952891968693 : True := ⟨⟩
theorem tw17180457848445815676 : True := ⟨⟩
theorem tw17549760099613038055 : True := ⟨⟩
theorem tw12553914923479104506 : True := ⟨⟩
theorem tw2697976716319701033 : True := ⟨⟩
theorem tw7365562674294520451 : True := ⟨⟩
theorem tw15296638952792297585 : True := ⟨⟩
theorem tw11566098377363298415 : True := ⟨⟩
theorem tw17087466662150396210 : True := ⟨⟩
theorem tw7580357766596436714 : True := ⟨⟩
theorem tw15349486494167490861 : True := ⟨⟩
theorem tw9367411864662104596 : True := ⟨⟩
theorem tw1389151227800987198 : True := ⟨⟩
theorem tw142377125942736700 : True := ⟨⟩
theorem tw5588498093969417903 : True := ⟨⟩
theorem tw10595842591828190984 : True := ⟨⟩
theorem tw10280545108713110612 : True := ⟨⟩
theorem tw8393340031374782525 : True := ⟨⟩
theorem tw3339025504875072537 : True := ⟨⟩
theorem tw13602253286356535353 : True := ⟨⟩
theorem tw341249449185904685 : True := ⟨⟩
theorem tw1316056555746827224 : True := ⟨⟩
theorem tw5857869478962280401 : True := ⟨⟩
theorem tw15969937429085165904 : True := ⟨⟩
theorem tw14394845925615563878 : True := ⟨⟩
theorem tw14642846902033847964 : True := ⟨⟩
theorem tw4753448620645791293 : True := ⟨⟩
theorem tw5747684920607356772 : True := ⟨⟩
theorem tw16939745714101447976 : True := ⟨⟩
theorem tw15573729904360925794 : True := ⟨⟩
theorem tw10828986214106111531 : True := ⟨⟩
theorem tw13338651292558784369 : True := ⟨⟩
theorem tw5099458221760260784 : True := ⟨⟩
theorem tw4077311611012620791 : True := ⟨⟩
theorem tw3864012138097595758 : True := ⟨⟩
theorem tw8413133151647880539 : True := ⟨⟩
theorem tw1357463484097335404 : True := ⟨⟩
theorem tw13208604148985916543 : True := ⟨⟩
theorem tw17597196502641442581 : True := ⟨⟩
theorem tw10240100896771907615 : True := ⟨⟩
theorem tw16049930973857864354 : True := ⟨⟩
theorem tw4046193847619289583 : True := ⟨⟩
theorem tw12774209864397607762 : True := ⟨⟩
theorem tw7944191787301449481 : True := ⟨⟩
theorem tw9143120035062812437 : True := ⟨⟩
theorem tw16451975095625300501 : True := ⟨⟩
theorem tw18145382148040430673 : True := ⟨⟩
theorem tw15228004617427520810 : True := ⟨⟩
theorem tw3579776383272448420 : True := ⟨⟩
theorem tw14149781006570564392 : True := ⟨⟩
theorem tw7122917452565745793 : True := ⟨⟩
theorem tw14062913937729191461 : True := ⟨⟩
theorem tw2335221107431800076 : True := ⟨⟩
theorem tw10645105620128953169 : True := ⟨⟩
theorem tw14786868411472786527 : True := ⟨⟩
theorem tw2963349702327202441 : True := ⟨⟩
theorem tw17858152450515298520 : True := ⟨⟩
theorem tw12633084752571091873 : True := ⟨⟩
theorem tw8218819101457601776 : True := ⟨⟩
theorem tw15203487316939043196 : True := ⟨⟩
theorem tw15580662879708500073 : True := ⟨⟩
theorem tw4021013208564600997 : True := ⟨⟩
theorem tw4399152324972305773 : True := ⟨⟩
theorem tw6424660084863691381 : True := ⟨⟩
theorem tw7942442253511216057 : True := ⟨⟩
theorem tw6674158366018852832 : True := ⟨⟩
theorem tw12158838097934144204 : True := ⟨⟩
theorem tw949623864930693503 : True := ⟨⟩
theorem tw13200177327426563521 : True := ⟨⟩
theorem tw7442186320969616419 : True := ⟨⟩
theorem tw17254660705983429885 : True := ⟨⟩
theorem tw8943767207682116370 : True := ⟨⟩
theorem tw5015485144833937494 : True := ⟨⟩
theorem tw11968577826497805164 : True := ⟨⟩
theorem tw16898140867199733807 : True := ⟨⟩
theorem tw13945929957867325323 : True := ⟨⟩
theorem tw9232459349045140238 : True := ⟨⟩
theorem tw3811385743445658432 : True := ⟨⟩
theorem tw12306811582311103309 : True := ⟨⟩
theorem tw11750193621415288269 : True := ⟨⟩
theorem tw9157471666820141079 : True := ⟨⟩
theorem tw4816591812421909578 : True := ⟨⟩
theorem tw7159127617245474268 : True := ⟨⟩
theorem tw9810778144079480939 : True := ⟨⟩
theorem tw6688023859364591009 : True := ⟨⟩
theorem tw14788181089696935199 : True := ⟨⟩
theorem tw852593511820718288 : True := ⟨⟩
theorem tw16211047929992225662 : True := ⟨⟩
theorem tw94868424139816031 : True := ⟨⟩
theorem tw12990674161636488019 : True := ⟨⟩
theorem tw2630073035006717432 : True := ⟨⟩
theorem tw13438974104106733290 : True := ⟨⟩
theorem tw14523373071547133963 : True := ⟨⟩
theorem tw7790257302778281365 : True := ⟨⟩
theorem tw15764078114090916407 : True := ⟨⟩
theorem tw5291684633237533370 : True := ⟨⟩
theorem tw10982862429998695089 : True := ⟨⟩
theorem tw15363440215121832254 : True := ⟨⟩
theorem tw2445334534209988144 : True := ⟨⟩
theorem tw1609962597479199270 : True := ⟨⟩
theorem tw14562085262976629575 : True := ⟨⟩
theorem tw5537142922510019513 : True := ⟨⟩
theorem tw12870153981298063223 : True := ⟨⟩
theorem tw12251282699700696565 : True := ⟨⟩
theorem tw6780867225593270323 : True := ⟨⟩
theorem tw15427648684169686026 : True := ⟨⟩
theorem tw7079413332180022301 : True := ⟨⟩
theorem tw17568486544692314898 : True := ⟨⟩
theorem tw12413431706624350462 : True := ⟨⟩
theorem tw15748281939648194942 : True := ⟨⟩
theorem tw7903404604211633244 : True := ⟨⟩
theorem tw3947230950247764520 : True := ⟨⟩
theorem tw13763058914918435997 : True := ⟨⟩
theorem tw7690984054068338649 : True := ⟨⟩
theorem tw2072141069035214820 : True := ⟨⟩
theorem tw15121075237869902544 : True := ⟨⟩
theorem tw6272824482244420723 : True := ⟨⟩
theorem tw7802637551987220340 : True := ⟨⟩
theorem tw4991233941168006118 : True := ⟨⟩
theorem tw6717344003143779680 : True := ⟨⟩
theorem tw12652051318014542249 : True := ⟨⟩
theorem tw13761193140921743694 : True := ⟨⟩
theorem tw6084979216208777291 : True := ⟨⟩
theorem tw6735103666419164843 : True := ⟨⟩
theorem tw10790982469999391166 : True := ⟨⟩
theorem tw17201635001647436091 : True := ⟨⟩
theorem tw4248940891403876299 : True := ⟨⟩
theorem tw6025575362324150769 : True := ⟨⟩
theorem tw16950052303361855040 : True := ⟨⟩
theorem tw12374553892970707226 : True := ⟨⟩
theorem tw13548834284501389479 : True := ⟨⟩
theorem tw8651396409497315184 : True := ⟨⟩
theorem tw507824493542866205 : True := ⟨⟩
theorem tw3762316585708380085 : True := ⟨⟩
theorem tw14321741261754214532 : True := ⟨⟩
theorem tw1417264206484863418 : True := ⟨⟩
theorem tw13221396546327683414 : True := ⟨⟩
theorem tw1064106604902352485 : True := ⟨⟩
theorem tw5841164822644244280 : True := ⟨⟩
theorem tw17868134621989668443 : True := ⟨⟩
theorem tw17724238746111204827 : True := ⟨⟩
theorem tw16229196577225518906 : True := ⟨⟩
theorem tw6835049807684851434 : True := ⟨⟩
theorem tw7634825401528832651 : True := ⟨⟩
theorem tw4481246472201632358 : True := ⟨⟩
theorem tw3359412301547400997 : True := ⟨⟩
theorem tw18273998448740285081 : True := ⟨⟩
theorem tw12412626361518170872 : True := ⟨⟩
theorem tw3042714763999674821 : True := ⟨⟩
theorem tw15786151642803260290 : True := ⟨⟩
theorem tw9876580066074774020 : True := ⟨⟩
theorem tw17431490575633474237 : True := ⟨⟩
theorem tw5518649813578686510 : True := ⟨⟩
theorem tw3524917834074627172 : True := ⟨⟩
theorem tw8870699084537738914 : True := ⟨⟩
theorem tw9448724195129578477 : True := ⟨⟩
theorem tw5360514018585083577 : True := ⟨⟩
theorem tw6565313388684518780 : True := ⟨⟩
theorem tw1509906915654886317 : True := ⟨⟩
theorem tw14866905476427166414 : True := ⟨⟩
theorem tw3756369471083676879 : True := ⟨⟩
theorem tw15873243133191901032 : True := ⟨⟩
theorem tw3603358376667855148 : True := ⟨⟩
theorem tw14365163053040766185 : True := ⟨⟩
theorem tw1146661050546790199 : True := ⟨⟩
theorem tw10028180340896065567 : True := ⟨⟩
theorem tw2973413373722649038 : True := ⟨⟩
theorem tw2265179145292809652 : True := ⟨⟩
theorem tw9924868186204702650 : True := ⟨⟩
theorem tw6247868918457611503 : True := ⟨⟩
theorem tw18422496656155279979 : True := ⟨⟩
theorem tw14507039311653490641 : True := ⟨⟩
theorem tw12121866750215393809 : True := ⟨⟩
theorem tw9242324422997722838 : True := ⟨⟩
theorem tw7515135067208451136 : True := ⟨⟩
theorem tw7459034636244564869 : True := ⟨⟩
theorem tw7055376407952189787 : True := ⟨⟩
theorem tw3597615787986783107 : True := ⟨⟩
theorem tw2321489227107761463 : True := ⟨⟩
theorem tw17263175000078561433 : True := ⟨⟩
theorem tw9920798447756730513 : True := ⟨⟩
theorem tw7474572305656022776 : True := ⟨⟩
theorem tw11555452338293584702 : True := ⟨⟩
theorem tw8138613913093828562 : True := ⟨⟩
theorem tw10122466892310309799 : True := ⟨⟩
end holds
set_option Elab.async true
theorem holds : rw_pb0183_01.Holds := by
  (w_on; o_law; o_head (kmHook KK [2, 3, 25, 30, 37, 38, 47, 48, 49, 60, 61, 76, 77, 81, 82, 84, 85, 86, 87, 95, 96, 102, 103, 111, 117, 118, 124, 125, 131, 132, 145, 146, 171, 172, 176, 177, 186, 187, 188, 189, 204, 205, 211, 212, 214, 215, 216, 217, 232, 233, 237, 238, 240, 241, 242, 243, 258, 259, 265, 266, 268, 269, 270, 271, 279, 280, 286, 287, 293, 294, 300, 301, 307, 308, 312, 313, 317, 318, 324, 325, 331, 332, 336, 337, 341, 342, 346, 347, 353, 354, 360, 361, 367, 368, 374, 375, 379, 380, 386, 387] (fun _ => by kernel_rfl) [370]); (case hw => w_witness2); (intro w s₀ s₁ mg mb G Y fa o pm cd doc dV kV ho hd hcd hD hmg hg args vals as hpre hlay hrd hwl hlo); (have KX := km_in_of Y); (have hT8 := km_tabs_of Y); (refine Ground.open G ?_); (intro T B D TE TW); (wrow_args hpre hlay hrd hwl hlo); exact Mine.law_last KX hT8 T ho hd hcd hD hg (by assumption) (by assumption) (by assumption) (by kernel_rfl) (by rfl) (by rfl) (by kernel_rfl) (fun _ => rfl) (by wrow_post))
end
end Mine
theorem PySem.Challenge.cw_pb0183_01_holds : PySem.Challenge.rw_pb0183_01.Holds :=
  Mine.holds
