import PyProof.Rows.All
import Wide.All
import OpenK.AllK
import Wide.FinOn
import PySem.Challenge.RW_pf0233_01
set_option Elab.async false
set_option maxRecDepth 100000
set_option maxHeartbeats 0
set_option linter.all false
set_option rowWalk.seconds 0
set_option compiler.extract_closed false
namespace Mine
section
open PySem PySem.W PyProof.Rows PySem.Calls
abbrev pwBody : List Stmt := PySem.Challenge.pw_pf0233_01.main.body
noncomputable def hd.view_39 : Program := view PySem.Challenge.pw_pf0233_01 [0, 2, 3, 5, 6, 7, 8, 9, 10, 11, 12, 13, 15, 17, 18, 19, 20, 21, 22, 23, 24, 25, 26, 27, 28, 29, 30]
abbrev fnOf : Option Stmt → Arguments × List Stmt × Scope
  | some (.FunctionDef _ a b _ _ _ s _ _ _) => (a, b, s)
  | _ => default
abbrev fnAt (i : Nat) := fnOf pwBody[i]?
abbrev methAt (i j : Nat) := match pwBody[i]? with
  | some (.ClassDef _ _ _ l _ _ _ _ _ _ _) => fnOf l[j]?
  | _ => default
noncomputable def hd.heap_39 : Params → Frag :=
  (fun {a21 : Arguments} {b21 : List Stmt} {s21 : Scope} (_ : fnAt 0 = (a21, b21, s21)) {a59 : Arguments} {b59 : List Stmt} {s59 : Scope} (_ : fnAt 6 = (a59, b59, s59)) {a105 : Arguments} {b105 : List Stmt} {s105 : Scope} (_ : fnAt 8 = (a105, b105, s105)) {a112 : Arguments} {b112 : List Stmt} {s112 : Scope} (_ : fnAt 9 = (a112, b112, s112)) {a119 : Arguments} {b119 : List Stmt} {s119 : Scope} (_ : fnAt 10 = (a119, b119, s119)) {a124 : Arguments} {b124 : List Stmt} {s124 : Scope} (_ : fnAt 11 = (a124, b124, s124)) {a129 : Arguments} {b129 : List Stmt} {s129 : Scope} (_ : fnAt 12 = (a129, b129, s129)) {a136 : Arguments} {b136 : List Stmt} {s136 : Scope} (_ : fnAt 13 = (a136, b136, s136)) {a178 : Arguments} {b178 : List Stmt} {s178 : Scope} (_ : fnAt 17 = (a178, b178, s178)) {a185 : Arguments} {b185 : List Stmt} {s185 : Scope} (_ : fnAt 18 = (a185, b185, s185)) {a190 : Arguments} {b190 : List Stmt} {s190 : Scope} (_ : fnAt 19 = (a190, b190, s190)) {a195 : Arguments} {b195 : List Stmt} {s195 : Scope} (_ : fnAt 20 = (a195, b195, s195)) {a200 : Arguments} {b200 : List Stmt} {s200 : Scope} (_ : fnAt 21 = (a200, b200, s200)) {a205 : Arguments} {b205 : List Stmt} {s205 : Scope} (_ : fnAt 22 = (a205, b205, s205)) {a210 : Arguments} {b210 : List Stmt} {s210 : Scope} (_ : fnAt 23 = (a210, b210, s210)) {a215 : Arguments} {b215 : List Stmt} {s215 : Scope} (_ : fnAt 24 = (a215, b215, s215)) {a220 : Arguments} {b220 : List Stmt} {s220 : Scope} (_ : fnAt 25 = (a220, b220, s220)) {a225 : Arguments} {b225 : List Stmt} {s225 : Scope} (_ : fnAt 26 = (a225, b225, s225)) {a230 : Arguments} {b230 : List Stmt} {s230 : Scope} (_ : fnAt 27 = (a230, b230, s230)) {a237 : Arguments} {b237 : List Stmt} {s237 : Scope} (_ : fnAt 28 = (a237, b237, s237)) {a244 : Arguments} {b244 : List Stmt} {s244 : Scope} (_ : fnAt 29 = (a244, b244, s244)) {a249 : Arguments} {b249 : List Stmt} {s249 : Scope} (_ : fnAt 30 = (a249, b249, s249)) {a35 : Arguments} {b35 : List Stmt} {s35 : Scope} (_ : methAt 2 0 = (a35, b35, s35)) {a71 : Arguments} {b71 : List Stmt} {s71 : Scope} (_ : methAt 7 0 = (a71, b71, s71)) {a76 : Arguments} {b76 : List Stmt} {s76 : Scope} (_ : methAt 7 1 = (a76, b76, s76)) {a81 : Arguments} {b81 : List Stmt} {s81 : Scope} (_ : methAt 7 2 = (a81, b81, s81)) {a88 : Arguments} {b88 : List Stmt} {s88 : Scope} (_ : methAt 7 3 = (a88, b88, s88)) {a93 : Arguments} {b93 : List Stmt} {s93 : Scope} (_ : methAt 7 4 = (a93, b93, s93)) {a150 : Arguments} {b150 : List Stmt} {s150 : Scope} (_ : methAt 15 0 = (a150, b150, s150)) {a157 : Arguments} {b157 : List Stmt} {s157 : Scope} (_ : methAt 15 1 = (a157, b157, s157)) {a164 : Arguments} {b164 : List Stmt} {s164 : Scope} (_ : methAt 15 2 = (a164, b164, s164)) => fun (P : Params) => ((
(nat_lit 2, (Obj.mk .none none (.dict (List.toArray [(DictEntry.mk (PyData.keyHash P "type.__subclasses__.Exception.0") (.str "type.__subclasses__.Exception.0" 221) (.int 38 0)), (DictEntry.mk (PyData.keyHash P "type.__subclasses__.Exception.n") (.str "type.__subclasses__.Exception.n" 222) (.int 1 0))]) 2) #[])) ::
    (nat_lit 3, (Obj.mk (.type "dict") none (.dict (List.toArray [(DictEntry.mk (PyData.keyHash P "__name__") (.str "__name__" 165) (.str "law_pf0233_01" 414)), (DictEntry.mk (PyData.keyHash P "__doc__") (.str "__doc__" 166) .none), (DictEntry.mk (PyData.keyHash P "__package__") (.str "__package__" 167) .none), (DictEntry.mk (PyData.keyHash P "__loader__") (.str "__loader__" 168) (.builtin "__main__.__loader__#opaque")), (DictEntry.mk (PyData.keyHash P "__spec__") (.str "__spec__" 169) .none), (DictEntry.mk (PyData.keyHash P "__annotations__") (.str "__annotations__" 170) (.ref 6)), (DictEntry.mk (PyData.keyHash P "__builtins__") (.str "__builtins__" 171) (.ref 4)), (DictEntry.mk (PyData.keyHash P "__file__") (.str "__file__" 173) (.str "/claim/cut.py" 172)), (DictEntry.mk (PyData.keyHash P "__cached__") (.str "__cached__" 174) .none), (DictEntry.mk (PyData.keyHash P "_wall") (.str "_wall" 193) (.ref 21)), (DictEntry.mk (PyData.keyHash P "PressError") (.str "PressError" 224) (.ref 38)), (DictEntry.mk (PyData.keyHash P "RangeError") (.str "RangeError" 240) (.ref 51)), (DictEntry.mk (PyData.keyHash P "SHARES") (.str "SHARES" 246) (.ref 54)), (DictEntry.mk (PyData.keyHash P "counted_colours") (.str "counted_colours" 252) (.ref 59)), (DictEntry.mk (PyData.keyHash P "Box") (.str "Box" 309) (.ref 96)), (DictEntry.mk (PyData.keyHash P "halves") (.str "halves" 315) (.ref 105)), (DictEntry.mk (PyData.keyHash P "next_box") (.str "next_box" 327) (.ref 112)), (DictEntry.mk (PyData.keyHash P "cut_boxes") (.str "cut_boxes" 337) (.ref 119)), (DictEntry.mk (PyData.keyHash P "palette_of") (.str "palette_of" 343) (.ref 124)), (DictEntry.mk (PyData.keyHash P "apart") (.str "apart" 349) (.ref 129)), (DictEntry.mk (PyData.keyHash P "nearest_colour") (.str "nearest_colour" 359) (.ref 136)), (DictEntry.mk (PyData.keyHash P "Plane") (.str "Plane" 413) (.ref 167)), (DictEntry.mk (PyData.keyHash P "_law_paint") (.str "_law_paint" 424) (.ref 178)), (DictEntry.mk (PyData.keyHash P "_law_dab") (.str "_law_dab" 433) (.ref 185)), (DictEntry.mk (PyData.keyHash P "_law_colour") (.str "_law_colour" 439) (.ref 190)), (DictEntry.mk (PyData.keyHash P "_law_counted") (.str "_law_counted" 445) (.ref 195)), (DictEntry.mk (PyData.keyHash P "_law_sides") (.str "_law_sides" 451) (.ref 200)), (DictEntry.mk (PyData.keyHash P "_law_spread") (.str "_law_spread" 457) (.ref 205)), (DictEntry.mk (PyData.keyHash P "_law_longest") (.str "_law_longest" 463) (.ref 210)), (DictEntry.mk (PyData.keyHash P "_law_places") (.str "_law_places" 469) (.ref 215)), (DictEntry.mk (PyData.keyHash P "_law_mean") (.str "_law_mean" 475) (.ref 220)), (DictEntry.mk (PyData.keyHash P "_law_box_right") (.str "_law_box_right" 481) (.ref 225)), (DictEntry.mk (PyData.keyHash P "_law_next") (.str "_law_next" 487) (.ref 230)), (DictEntry.mk (PyData.keyHash P "_law_far") (.str "_law_far" 495) (.ref 237)), (DictEntry.mk (PyData.keyHash P "_law_is_refused") (.str "_law_is_refused" 502) (.ref 244)), (DictEntry.mk (PyData.keyHash P "law") (.str "law" 508) (.ref 249))]) 36) #[])) ::
    (nat_lit 15, (Obj.mk (.type "tuple") none (.seq #[] 0) #[])) ::
    (nat_lit 17, (Obj.mk (.type "tuple") none (.seq (List.toArray [(.str "k" 190)]) 0) #[])) ::
    (nat_lit 18, (Obj.mk (.type "tuple") none (.seq #[] 0) #[])) ::
    (nat_lit 20, (Obj.mk (.type "code") none (.fields (List.toArray [(.str "_wall" 187), (.str "_wall" 188), (.str "/claim/cut.py" 189), (.int 1 0), (.int 1 0), (.int 0 0), (.int 0 0), (.int 3 0), (.ref 15), (.bool Bool.true), (.int 181 0), (.ref 16), .none, (.ref 17), (.ref 18), (.ref 19), (.int 191 0), (.int 1 0), (.str "/claim/cut.py" 192)])) #[])) ::
    (nat_lit 21, (Obj.mk (.type "function") none (.func (FuncData.mk "_wall" "_wall" a21 (FuncBody.stmts b21) s21 3 [] .none .none .none (.str "__main__" 164) none (.ref 20) .none 0)) #[])) ::
    (nat_lit 22, (Obj.mk (.type "tuple") none (.seq (List.toArray [(.type "Exception")]) 0) #[])) ::
    (nat_lit 29, (Obj.mk (.type "tuple") none (.seq #[] 0) #[])) ::
    (nat_lit 31, (Obj.mk (.type "tuple") none (.seq (List.toArray [(.str "self" 211), (.str "message" 212)]) 0) #[])) ::
    (nat_lit 32, (Obj.mk (.type "tuple") none (.seq #[] 0) #[])) ::
    (nat_lit 34, (Obj.mk (.type "code") none (.fields (List.toArray [(.str "__init__" 208), (.str "PressError.__init__" 209), (.str "/claim/cut.py" 210), (.int 7 0), (.int 2 0), (.int 0 0), (.int 0 0), (.int 3 0), (.ref 29), (.bool Bool.true), (.int 181 0), (.ref 30), .none, (.ref 31), (.ref 32), (.ref 33), (.int 213 0), (.int 7 0), (.str "/claim/cut.py" 214)])) #[])) ::
    (nat_lit 35, (Obj.mk (.type "function") none (.func (FuncData.mk "__init__" "PressError.__init__" a35 (FuncBody.stmts b35) s35 3 [] .none .none .none (.str "pixelpress.errors" 194) none (.ref 34) .none 0)) #[])) ::
    (nat_lit 36, (Obj.mk (.type "tuple") none (.seq (List.toArray [(.str "message" 216)]) 0) #[])) ::
    (nat_lit 37, (Obj.mk (.type "dict") none (.dict (List.toArray [(DictEntry.mk (PyData.keyHash P "__module__") (.str "__module__" 203) (.str "pixelpress.errors" 194)), (DictEntry.mk (PyData.keyHash P "__firstlineno__") (.str "__firstlineno__" 207) (.int 5 206)), (DictEntry.mk (PyData.keyHash P "__init__") (.str "__init__" 215) (.ref 35)), (DictEntry.mk (PyData.keyHash P "__static_attributes__") (.str "__static_attributes__" 217) (.ref 36)), (DictEntry.mk (PyData.keyHash P "__weakref__") (.str "__weakref__" 219) (.ref 39)), (DictEntry.mk (PyData.keyHash P "__doc__") (.str "__doc__" 220) .none)]) 3) #[])) ::
    (nat_lit 38, (Obj.mk (.type "type") none (.cls (ClassData.mk "PressError" [(.type "Exception")] [(.ref 38), (.type "Exception"), (.type "BaseException"), (.type "object")] 37 "PressError" Bool.true [] [(.ref 51)] Bool.false none Bool.false)) (List.toArray [(some (.ref 22)), none, (some (.str "PressError" 196)), (some (.str "PressError" 204)), (some (.builtin "Exception.__new__")), (some (.bool Bool.true))]))) ::
    (nat_lit 39, (Obj.mk (.type "getset_descriptor") none (.fields (List.toArray [(.str "__weakref__" 218), (.ref 38), (.builtin "ExceptionGroup.__weakref__"), .none])) #[])) ::
    (nat_lit 42, (Obj.mk (.type "tuple") none (.seq (List.toArray [(.ref 38)]) 0) #[])) ::
    (nat_lit 49, (Obj.mk (.type "tuple") none (.seq #[] 0) #[])) ::
    (nat_lit 50, (Obj.mk (.type "dict") none (.dict (List.toArray [(DictEntry.mk (PyData.keyHash P "__module__") (.str "__module__" 232) (.str "pixelpress.errors" 194)), (DictEntry.mk (PyData.keyHash P "__firstlineno__") (.str "__firstlineno__" 236) (.int 10 235)), (DictEntry.mk (PyData.keyHash P "__static_attributes__") (.str "__static_attributes__" 237) (.ref 49)), (DictEntry.mk (PyData.keyHash P "__doc__") (.str "__doc__" 238) .none)]) 2) #[])) ::
    (nat_lit 51, (Obj.mk (.type "type") none (.cls (ClassData.mk "RangeError" [(.ref 38)] [(.ref 51), (.ref 38), (.type "Exception"), (.type "BaseException"), (.type "object")] 50 "RangeError" Bool.true [] [] Bool.false none Bool.false)) (List.toArray [(some (.ref 42)), none, (some (.str "RangeError" 225)), (some (.str "RangeError" 233)), (some (.builtin "Exception.__new__")), (some (.bool Bool.true))]))) ::
    (nat_lit 54, (Obj.mk (.type "tuple") none (.seq (List.toArray [(.int 2 243), (.int 3 244), (.int 1 245)]) 0) #[])) ::
    (nat_lit 55, (Obj.mk (.type "tuple") none (.seq #[] 0) #[])) ::
    (nat_lit 58, (Obj.mk (.type "code") none (.fields (List.toArray [(.str "counted_colours" 247), (.str "counted_colours" 248), (.str "/claim/cut.py" 249), (.int 14 0), (.int 1 0), (.int 0 0), (.int 0 0), (.int 3 0), (.ref 55), (.bool Bool.true), (.int 181 0), (.ref 56), .none, .none, .none, (.ref 57), (.int 250 0), (.int 14 0), (.str "/claim/cut.py" 251)])) #[])) ::
    (nat_lit 59, (Obj.mk (.type "function") none (.func (FuncData.mk "counted_colours" "counted_colours" a59 (FuncBody.stmts b59) s59 3 [] .none .none .none (.str "pixelpress.palette" 241) none (.ref 58) .none 0)) #[])) ::
    (nat_lit 67, (Obj.mk (.type "tuple") none (.seq #[] 0) #[])) ::
    (nat_lit 70, (Obj.mk (.type "code") none (.fields (List.toArray [(.str "__init__" 265), (.str "Box.__init__" 266), (.str "/claim/cut.py" 267), (.int 23 0), (.int 2 0), (.int 0 0), (.int 0 0), (.int 3 0), (.ref 67), (.bool Bool.true), (.int 181 0), (.ref 68), .none, .none, .none, (.ref 69), (.int 268 0), (.int 23 0), (.str "/claim/cut.py" 269)])) #[])) ::
    (nat_lit 71, (Obj.mk (.type "function") none (.func (FuncData.mk "__init__" "Box.__init__" a71 (FuncBody.stmts b71) s71 3 [] .none .none .none (.str "pixelpress.palette" 241) none (.ref 70) .none 0)) #[])) ::
    (nat_lit 72, (Obj.mk (.type "tuple") none (.seq #[] 0) #[])) ::
    (nat_lit 75, (Obj.mk (.type "code") none (.fields (List.toArray [(.str "many" 271), (.str "Box.many" 272), (.str "/claim/cut.py" 273), (.int 28 0), (.int 1 0), (.int 0 0), (.int 0 0), (.int 3 0), (.ref 72), (.bool Bool.true), (.int 181 0), (.ref 73), .none, .none, .none, (.ref 74), (.int 274 0), (.int 28 0), (.str "/claim/cut.py" 275)])) #[])) ::
    (nat_lit 76, (Obj.mk (.type "function") none (.func (FuncData.mk "many" "Box.many" a76 (FuncBody.stmts b76) s76 3 [] .none .none .none (.str "pixelpress.palette" 241) none (.ref 75) .none 0)) #[])) ::
    (nat_lit 77, (Obj.mk (.type "tuple") none (.seq #[] 0) #[])) ::
    (nat_lit 80, (Obj.mk (.type "code") none (.fields (List.toArray [(.str "spread" 277), (.str "Box.spread" 278), (.str "/claim/cut.py" 279), (.int 31 0), (.int 1 0), (.int 0 0), (.int 0 0), (.int 3 0), (.ref 77), (.bool Bool.true), (.int 181 0), (.ref 78), .none, .none, .none, (.ref 79), (.int 280 0), (.int 31 0), (.str "/claim/cut.py" 281)])) #[])) ::
    (nat_lit 81, (Obj.mk (.type "function") none (.func (FuncData.mk "spread" "Box.spread" a81 (FuncBody.stmts b81) s81 3 [] .none .none .none (.str "pixelpress.palette" 241) none (.ref 80) .none 0)) #[])) ::
    (nat_lit 82, (Obj.mk (.type "tuple") none (.seq #[] 0) #[])) ::
    (nat_lit 84, (Obj.mk (.type "tuple") none (.seq (List.toArray [(.str "self" 286), (.str "best" 287), (.str "part" 288), (.str "here" 289)]) 0) #[])) ::
    (nat_lit 85, (Obj.mk (.type "tuple") none (.seq #[] 0) #[])) ::
    (nat_lit 87, (Obj.mk (.type "code") none (.fields (List.toArray [(.str "longest" 283), (.str "Box.longest" 284), (.str "/claim/cut.py" 285), (.int 34 0), (.int 1 0), (.int 0 0), (.int 0 0), (.int 3 0), (.ref 82), (.bool Bool.true), (.int 181 0), (.ref 83), .none, (.ref 84), (.ref 85), (.ref 86), (.int 290 0), (.int 34 0), (.str "/claim/cut.py" 291)])) #[])) ::
    (nat_lit 88, (Obj.mk (.type "function") none (.func (FuncData.mk "longest" "Box.longest" a88 (FuncBody.stmts b88) s88 3 [] .none .none .none (.str "pixelpress.palette" 241) none (.ref 87) .none 0)) #[])) ::
    (nat_lit 89, (Obj.mk (.type "tuple") none (.seq #[] 0) #[])) ::
    (nat_lit 92, (Obj.mk (.type "code") none (.fields (List.toArray [(.str "mean" 293), (.str "Box.mean" 294), (.str "/claim/cut.py" 295), (.int 42 0), (.int 1 0), (.int 0 0), (.int 0 0), (.int 3 0), (.ref 89), (.bool Bool.true), (.int 181 0), (.ref 90), .none, .none, .none, (.ref 91), (.int 296 0), (.int 42 0), (.str "/claim/cut.py" 297)])) #[])) ::
    (nat_lit 93, (Obj.mk (.type "function") none (.func (FuncData.mk "mean" "Box.mean" a93 (FuncBody.stmts b93) s93 3 [] .none .none .none (.str "pixelpress.palette" 241) none (.ref 92) .none 0)) #[])) ::
    (nat_lit 94, (Obj.mk (.type "tuple") none (.seq (List.toArray [(.str "counted" 299), (.str "high" 300), (.str "low" 301)]) 0) #[])) ::
    (nat_lit 95, (Obj.mk (.type "dict") none (.dict (List.toArray [(DictEntry.mk (PyData.keyHash P "__module__") (.str "__module__" 260) (.str "pixelpress.palette" 241)), (DictEntry.mk (PyData.keyHash P "__firstlineno__") (.str "__firstlineno__" 264) (.int 21 263)), (DictEntry.mk (PyData.keyHash P "__init__") (.str "__init__" 270) (.ref 71)), (DictEntry.mk (PyData.keyHash P "many") (.str "many" 276) (.ref 76)), (DictEntry.mk (PyData.keyHash P "spread") (.str "spread" 282) (.ref 81)), (DictEntry.mk (PyData.keyHash P "longest") (.str "longest" 292) (.ref 88)), (DictEntry.mk (PyData.keyHash P "mean") (.str "mean" 298) (.ref 93)), (DictEntry.mk (PyData.keyHash P "__static_attributes__") (.str "__static_attributes__" 302) (.ref 94)), (DictEntry.mk (PyData.keyHash P "__dict__") (.str "__dict__" 304) (.ref 97)), (DictEntry.mk (PyData.keyHash P "__weakref__") (.str "__weakref__" 306) (.ref 98)), (DictEntry.mk (PyData.keyHash P "__doc__") (.str "__doc__" 307) .none)]) 4) #[])) ::
    (nat_lit 96, (Obj.mk (.type "type") none (.cls (ClassData.mk "Box" [(.type "object")] [(.ref 96), (.type "object")] 95 "Box" Bool.true [] [] Bool.false none Bool.false)) (List.toArray [none, none, (some (.str "Box" 253)), (some (.str "Box" 261)), (some (.builtin "object.__new__")), (some (.bool Bool.true))]))) ::
    (nat_lit 97, (Obj.mk (.type "getset_descriptor") none (.fields (List.toArray [(.str "__dict__" 303), (.ref 96), (.builtin "function.__dict__"), (.builtin "function.__dict__#set")])) #[])) ::
    (nat_lit 98, (Obj.mk (.type "getset_descriptor") none (.fields (List.toArray [(.str "__weakref__" 305), (.ref 96), (.builtin "ExceptionGroup.__weakref__"), .none])) #[])) ::
    (nat_lit 101, (Obj.mk (.type "tuple") none (.seq #[] 0) #[])) ::
    (nat_lit 104, (Obj.mk (.type "code") none (.fields (List.toArray [(.str "halves" 310), (.str "halves" 311), (.str "/claim/cut.py" 312), (.int 49 0), (.int 1 0), (.int 0 0), (.int 0 0), (.int 3 0), (.ref 101), (.bool Bool.true), (.int 181 0), (.ref 102), .none, .none, .none, (.ref 103), (.int 313 0), (.int 49 0), (.str "/claim/cut.py" 314)])) #[])) ::
    (nat_lit 105, (Obj.mk (.type "function") none (.func (FuncData.mk "halves" "halves" a105 (FuncBody.stmts b105) s105 3 [] .none .none .none (.str "pixelpress.palette" 241) none (.ref 104) .none 0)) #[])) ::
    (nat_lit 106, (Obj.mk (.type "tuple") none (.seq #[] 0) #[])) ::
    (nat_lit 108, (Obj.mk (.type "tuple") none (.seq (List.toArray [(.str "boxes" 319), (.str "many" 320), (.str "best" 321), (.str "most" 322), (.str "place" 323), (.str "worth" 324)]) 0) #[])) ::
    (nat_lit 109, (Obj.mk (.type "tuple") none (.seq #[] 0) #[])) ::
    (nat_lit 111, (Obj.mk (.type "code") none (.fields (List.toArray [(.str "next_box" 316), (.str "next_box" 317), (.str "/claim/cut.py" 318), (.int 55 0), (.int 2 0), (.int 0 0), (.int 0 0), (.int 3 0), (.ref 106), (.bool Bool.true), (.int 181 0), (.ref 107), .none, (.ref 108), (.ref 109), (.ref 110), (.int 325 0), (.int 55 0), (.str "/claim/cut.py" 326)])) #[])) ::
    (nat_lit 112, (Obj.mk (.type "function") none (.func (FuncData.mk "next_box" "next_box" a112 (FuncBody.stmts b112) s112 3 [] .none .none .none (.str "pixelpress.palette" 241) none (.ref 111) .none 0)) #[])) ::
    (nat_lit 113, (Obj.mk (.type "tuple") none (.seq #[] 0) #[])) ::
    (nat_lit 115, (Obj.mk (.type "tuple") none (.seq (List.toArray [(.str "counted" 331), (.str "many" 332), (.str "boxes" 333), (.str "place" 334)]) 0) #[])) ::
    (nat_lit 116, (Obj.mk (.type "tuple") none (.seq #[] 0) #[])) ::
    (nat_lit 118, (Obj.mk (.type "code") none (.fields (List.toArray [(.str "cut_boxes" 328), (.str "cut_boxes" 329), (.str "/claim/cut.py" 330), (.int 63 0), (.int 2 0), (.int 0 0), (.int 0 0), (.int 3 0), (.ref 113), (.bool Bool.true), (.int 181 0), (.ref 114), .none, (.ref 115), (.ref 116), (.ref 117), (.int 335 0), (.int 63 0), (.str "/claim/cut.py" 336)])) #[])) ::
    (nat_lit 119, (Obj.mk (.type "function") none (.func (FuncData.mk "cut_boxes" "cut_boxes" a119 (FuncBody.stmts b119) s119 3 [] .none .none .none (.str "pixelpress.palette" 241) none (.ref 118) .none 0)) #[])) ::
    (nat_lit 120, (Obj.mk (.type "tuple") none (.seq #[] 0) #[])) ::
    (nat_lit 123, (Obj.mk (.type "code") none (.fields (List.toArray [(.str "palette_of" 338), (.str "palette_of" 339), (.str "/claim/cut.py" 340), (.int 73 0), (.int 2 0), (.int 0 0), (.int 0 0), (.int 3 0), (.ref 120), (.bool Bool.true), (.int 181 0), (.ref 121), .none, .none, .none, (.ref 122), (.int 341 0), (.int 73 0), (.str "/claim/cut.py" 342)])) #[])) ::
    (nat_lit 124, (Obj.mk (.type "function") none (.func (FuncData.mk "palette_of" "palette_of" a124 (FuncBody.stmts b124) s124 3 [] .none .none .none (.str "pixelpress.palette" 241) none (.ref 123) .none 0)) #[])) ::
    (nat_lit 125, (Obj.mk (.type "tuple") none (.seq #[] 0) #[])) ::
    (nat_lit 128, (Obj.mk (.type "code") none (.fields (List.toArray [(.str "apart" 344), (.str "apart" 345), (.str "/claim/cut.py" 346), (.int 75 0), (.int 2 0), (.int 0 0), (.int 0 0), (.int 3 0), (.ref 125), (.bool Bool.true), (.int 181 0), (.ref 126), .none, .none, .none, (.ref 127), (.int 347 0), (.int 75 0), (.str "/claim/cut.py" 348)])) #[])) ::
    (nat_lit 129, (Obj.mk (.type "function") none (.func (FuncData.mk "apart" "apart" a129 (FuncBody.stmts b129) s129 3 [] .none .none .none (.str "pixelpress.palette" 241) none (.ref 128) .none 0)) #[])) ::
    (nat_lit 130, (Obj.mk (.type "tuple") none (.seq #[] 0) #[])) ::
    (nat_lit 132, (Obj.mk (.type "tuple") none (.seq (List.toArray [(.str "palette" 353), (.str "colour" 354), (.str "best" 355), (.str "place" 356)]) 0) #[])) ::
    (nat_lit 133, (Obj.mk (.type "tuple") none (.seq #[] 0) #[])) ::
    (nat_lit 135, (Obj.mk (.type "code") none (.fields (List.toArray [(.str "nearest_colour" 350), (.str "nearest_colour" 351), (.str "/claim/cut.py" 352), (.int 77 0), (.int 2 0), (.int 0 0), (.int 0 0), (.int 3 0), (.ref 130), (.bool Bool.true), (.int 181 0), (.ref 131), .none, (.ref 132), (.ref 133), (.ref 134), (.int 357 0), (.int 77 0), (.str "/claim/cut.py" 358)])) #[])) ::
    (nat_lit 136, (Obj.mk (.type "function") none (.func (FuncData.mk "nearest_colour" "nearest_colour" a136 (FuncBody.stmts b136) s136 3 [] .none .none .none (.str "pixelpress.palette" 241) none (.ref 135) .none 0)) #[])) ::
    (nat_lit 144, (Obj.mk (.type "tuple") none (.seq #[] 0) #[])) ::
    (nat_lit 146, (Obj.mk (.type "tuple") none (.seq (List.toArray [(.str "self" 377), (.str "width" 378), (.str "height" 379), (.str "rows" 380)]) 0) #[])) ::
    (nat_lit 147, (Obj.mk (.type "tuple") none (.seq #[] 0) #[])) ::
    (nat_lit 149, (Obj.mk (.type "code") none (.fields (List.toArray [(.str "__init__" 374), (.str "Plane.__init__" 375), (.str "/claim/cut.py" 376), (.int 86 0), (.int 4 0), (.int 0 0), (.int 0 0), (.int 3 0), (.ref 144), (.bool Bool.true), (.int 181 0), (.ref 145), .none, (.ref 146), (.ref 147), (.ref 148), (.int 381 0), (.int 86 0), (.str "/claim/cut.py" 382)])) #[])) ::
    (nat_lit 150, (Obj.mk (.type "function") none (.func (FuncData.mk "__init__" "Plane.__init__" a150 (FuncBody.stmts b150) s150 3 [] .none .none .none (.str "pixelpress.planes" 360) none (.ref 149) .none 0)) #[])) ::
    (nat_lit 151, (Obj.mk (.type "tuple") none (.seq #[] 0) #[])) ::
    (nat_lit 153, (Obj.mk (.type "tuple") none (.seq (List.toArray [(.str "self" 387), (.str "x" 388), (.str "y" 389)]) 0) #[])) ::
    (nat_lit 154, (Obj.mk (.type "tuple") none (.seq #[] 0) #[])) ::
    (nat_lit 156, (Obj.mk (.type "code") none (.fields (List.toArray [(.str "at" 384), (.str "Plane.at" 385), (.str "/claim/cut.py" 386), (.int 91 0), (.int 3 0), (.int 0 0), (.int 0 0), (.int 3 0), (.ref 151), (.bool Bool.true), (.int 181 0), (.ref 152), .none, (.ref 153), (.ref 154), (.ref 155), (.int 390 0), (.int 91 0), (.str "/claim/cut.py" 391)])) #[])) ::
    (nat_lit 157, (Obj.mk (.type "function") none (.func (FuncData.mk "at" "Plane.at" a157 (FuncBody.stmts b157) s157 3 [] .none .none .none (.str "pixelpress.planes" 360) none (.ref 156) .none 0)) #[])) ::
    (nat_lit 158, (Obj.mk (.type "tuple") none (.seq #[] 0) #[])) ::
    (nat_lit 160, (Obj.mk (.type "tuple") none (.seq (List.toArray [(.str "self" 396), (.str "x" 397), (.str "y" 398), (.str "value" 399)]) 0) #[])) ::
    (nat_lit 161, (Obj.mk (.type "tuple") none (.seq #[] 0) #[])) ::
    (nat_lit 163, (Obj.mk (.type "code") none (.fields (List.toArray [(.str "put" 393), (.str "Plane.put" 394), (.str "/claim/cut.py" 395), (.int 94 0), (.int 4 0), (.int 0 0), (.int 0 0), (.int 3 0), (.ref 158), (.bool Bool.true), (.int 181 0), (.ref 159), .none, (.ref 160), (.ref 161), (.ref 162), (.int 400 0), (.int 94 0), (.str "/claim/cut.py" 401)])) #[])) ::
    (nat_lit 164, (Obj.mk (.type "function") none (.func (FuncData.mk "put" "Plane.put" a164 (FuncBody.stmts b164) s164 3 [] .none .none .none (.str "pixelpress.planes" 360) none (.ref 163) .none 0)) #[])) ::
    (nat_lit 165, (Obj.mk (.type "tuple") none (.seq (List.toArray [(.str "height" 403), (.str "rows" 404), (.str "width" 405)]) 0) #[])) ::
    (nat_lit 166, (Obj.mk (.type "dict") none (.dict (List.toArray [(DictEntry.mk (PyData.keyHash P "__module__") (.str "__module__" 369) (.str "pixelpress.planes" 360)), (DictEntry.mk (PyData.keyHash P "__firstlineno__") (.str "__firstlineno__" 373) (.int 84 372)), (DictEntry.mk (PyData.keyHash P "__init__") (.str "__init__" 383) (.ref 150)), (DictEntry.mk (PyData.keyHash P "at") (.str "at" 392) (.ref 157)), (DictEntry.mk (PyData.keyHash P "put") (.str "put" 402) (.ref 164)), (DictEntry.mk (PyData.keyHash P "__static_attributes__") (.str "__static_attributes__" 406) (.ref 165)), (DictEntry.mk (PyData.keyHash P "__dict__") (.str "__dict__" 408) (.ref 168)), (DictEntry.mk (PyData.keyHash P "__weakref__") (.str "__weakref__" 410) (.ref 169)), (DictEntry.mk (PyData.keyHash P "__doc__") (.str "__doc__" 411) .none)]) 4) #[])) ::
    (nat_lit 167, (Obj.mk (.type "type") none (.cls (ClassData.mk "Plane" [(.type "object")] [(.ref 167), (.type "object")] 166 "Plane" Bool.true [] [] Bool.false none Bool.false)) (List.toArray [none, none, (some (.str "Plane" 362)), (some (.str "Plane" 370)), (some (.builtin "object.__new__")), (some (.bool Bool.true))]))) ::
    (nat_lit 168, (Obj.mk (.type "getset_descriptor") none (.fields (List.toArray [(.str "__dict__" 407), (.ref 167), (.builtin "function.__dict__"), (.builtin "function.__dict__#set")])) #[])) ::
    (nat_lit 169, (Obj.mk (.type "getset_descriptor") none (.fields (List.toArray [(.str "__weakref__" 409), (.ref 167), (.builtin "ExceptionGroup.__weakref__"), .none])) #[])) ::
    (nat_lit 172, (Obj.mk (.type "tuple") none (.seq #[] 0) #[])) ::
    (nat_lit 174, (Obj.mk (.type "tuple") none (.seq (List.toArray [(.str "script" 419), (.str "first" 420), (.str "tube" 421)]) 0) #[])) ::
    (nat_lit 175, (Obj.mk (.type "tuple") none (.seq #[] 0) #[])) ::
    (nat_lit 177, (Obj.mk (.type "code") none (.fields (List.toArray [(.str "_law_paint" 416), (.str "_law_paint" 417), (.str "/claim/cut.py" 418), (.int 97 0), (.int 1 0), (.int 0 0), (.int 0 0), (.int 3 0), (.ref 172), (.bool Bool.true), (.int 181 0), (.ref 173), .none, (.ref 174), (.ref 175), (.ref 176), (.int 422 0), (.int 97 0), (.str "/claim/cut.py" 423)])) #[])) ::
    (nat_lit 178, (Obj.mk (.type "function") none (.func (FuncData.mk "_law_paint" "_law_paint" a178 (FuncBody.stmts b178) s178 3 [] .none .none .none (.str "law_pf0233_01" 414) none (.ref 177) .none 0)) #[])) ::
    (nat_lit 179, (Obj.mk (.type "tuple") none (.seq #[] 0) #[])) ::
    (nat_lit 181, (Obj.mk (.type "tuple") none (.seq (List.toArray [(.str "paint" 428), (.str "many" 429), (.str "drop" 430)]) 0) #[])) ::
    (nat_lit 182, (Obj.mk (.type "tuple") none (.seq #[] 0) #[])) ::
    (nat_lit 184, (Obj.mk (.type "code") none (.fields (List.toArray [(.str "_law_dab" 425), (.str "_law_dab" 426), (.str "/claim/cut.py" 427), (.int 101 0), (.int 2 0), (.int 0 0), (.int 0 0), (.int 3 0), (.ref 179), (.bool Bool.true), (.int 181 0), (.ref 180), .none, (.ref 181), (.ref 182), (.ref 183), (.int 431 0), (.int 101 0), (.str "/claim/cut.py" 432)])) #[])) ::
    (nat_lit 185, (Obj.mk (.type "function") none (.func (FuncData.mk "_law_dab" "_law_dab" a185 (FuncBody.stmts b185) s185 3 [] .none .none .none (.str "law_pf0233_01" 414) none (.ref 184) .none 0)) #[])) ::
    (nat_lit 186, (Obj.mk (.type "tuple") none (.seq #[] 0) #[])) ::
    (nat_lit 189, (Obj.mk (.type "code") none (.fields (List.toArray [(.str "_law_colour" 434), (.str "_law_colour" 435), (.str "/claim/cut.py" 436), (.int 108 0), (.int 1 0), (.int 0 0), (.int 0 0), (.int 3 0), (.ref 186), (.bool Bool.true), (.int 181 0), (.ref 187), .none, .none, .none, (.ref 188), (.int 437 0), (.int 108 0), (.str "/claim/cut.py" 438)])) #[])) ::
    (nat_lit 190, (Obj.mk (.type "function") none (.func (FuncData.mk "_law_colour" "_law_colour" a190 (FuncBody.stmts b190) s190 3 [] .none .none .none (.str "law_pf0233_01" 414) none (.ref 189) .none 0)) #[])) ::
    (nat_lit 191, (Obj.mk (.type "tuple") none (.seq #[] 0) #[])) ::
    (nat_lit 194, (Obj.mk (.type "code") none (.fields (List.toArray [(.str "_law_counted" 440), (.str "_law_counted" 441), (.str "/claim/cut.py" 442), (.int 110 0), (.int 1 0), (.int 0 0), (.int 0 0), (.int 3 0), (.ref 191), (.bool Bool.true), (.int 181 0), (.ref 192), .none, .none, .none, (.ref 193), (.int 443 0), (.int 110 0), (.str "/claim/cut.py" 444)])) #[])) ::
    (nat_lit 195, (Obj.mk (.type "function") none (.func (FuncData.mk "_law_counted" "_law_counted" a195 (FuncBody.stmts b195) s195 3 [] .none .none .none (.str "law_pf0233_01" 414) none (.ref 194) .none 0)) #[])) ::
    (nat_lit 196, (Obj.mk (.type "tuple") none (.seq #[] 0) #[])) ::
    (nat_lit 199, (Obj.mk (.type "code") none (.fields (List.toArray [(.str "_law_sides" 446), (.str "_law_sides" 447), (.str "/claim/cut.py" 448), (.int 115 0), (.int 1 0), (.int 0 0), (.int 0 0), (.int 3 0), (.ref 196), (.bool Bool.true), (.int 181 0), (.ref 197), .none, .none, .none, (.ref 198), (.int 449 0), (.int 115 0), (.str "/claim/cut.py" 450)])) #[])) ::
    (nat_lit 200, (Obj.mk (.type "function") none (.func (FuncData.mk "_law_sides" "_law_sides" a200 (FuncBody.stmts b200) s200 3 [] .none .none .none (.str "law_pf0233_01" 414) none (.ref 199) .none 0)) #[])) ::
    (nat_lit 201, (Obj.mk (.type "tuple") none (.seq #[] 0) #[])) ::
    (nat_lit 204, (Obj.mk (.type "code") none (.fields (List.toArray [(.str "_law_spread" 452), (.str "_law_spread" 453), (.str "/claim/cut.py" 454), (.int 118 0), (.int 1 0), (.int 0 0), (.int 0 0), (.int 3 0), (.ref 201), (.bool Bool.true), (.int 181 0), (.ref 202), .none, .none, .none, (.ref 203), (.int 455 0), (.int 118 0), (.str "/claim/cut.py" 456)])) #[])) ::
    (nat_lit 205, (Obj.mk (.type "function") none (.func (FuncData.mk "_law_spread" "_law_spread" a205 (FuncBody.stmts b205) s205 3 [] .none .none .none (.str "law_pf0233_01" 414) none (.ref 204) .none 0)) #[])) ::
    (nat_lit 206, (Obj.mk (.type "tuple") none (.seq #[] 0) #[])) ::
    (nat_lit 209, (Obj.mk (.type "code") none (.fields (List.toArray [(.str "_law_longest" 458), (.str "_law_longest" 459), (.str "/claim/cut.py" 460), (.int 120 0), (.int 1 0), (.int 0 0), (.int 0 0), (.int 3 0), (.ref 206), (.bool Bool.true), (.int 181 0), (.ref 207), .none, .none, .none, (.ref 208), (.int 461 0), (.int 120 0), (.str "/claim/cut.py" 462)])) #[])) ::
    (nat_lit 210, (Obj.mk (.type "function") none (.func (FuncData.mk "_law_longest" "_law_longest" a210 (FuncBody.stmts b210) s210 3 [] .none .none .none (.str "law_pf0233_01" 414) none (.ref 209) .none 0)) #[])) ::
    (nat_lit 211, (Obj.mk (.type "tuple") none (.seq #[] 0) #[])) ::
    (nat_lit 214, (Obj.mk (.type "code") none (.fields (List.toArray [(.str "_law_places" 464), (.str "_law_places" 465), (.str "/claim/cut.py" 466), (.int 123 0), (.int 1 0), (.int 0 0), (.int 0 0), (.int 3 0), (.ref 211), (.bool Bool.true), (.int 181 0), (.ref 212), .none, .none, .none, (.ref 213), (.int 467 0), (.int 123 0), (.str "/claim/cut.py" 468)])) #[])) ::
    (nat_lit 215, (Obj.mk (.type "function") none (.func (FuncData.mk "_law_places" "_law_places" a215 (FuncBody.stmts b215) s215 3 [] .none .none .none (.str "law_pf0233_01" 414) none (.ref 214) .none 0)) #[])) ::
    (nat_lit 216, (Obj.mk (.type "tuple") none (.seq #[] 0) #[])) ::
    (nat_lit 219, (Obj.mk (.type "code") none (.fields (List.toArray [(.str "_law_mean" 470), (.str "_law_mean" 471), (.str "/claim/cut.py" 472), (.int 125 0), (.int 1 0), (.int 0 0), (.int 0 0), (.int 3 0), (.ref 216), (.bool Bool.true), (.int 181 0), (.ref 217), .none, .none, .none, (.ref 218), (.int 473 0), (.int 125 0), (.str "/claim/cut.py" 474)])) #[])) ::
    (nat_lit 220, (Obj.mk (.type "function") none (.func (FuncData.mk "_law_mean" "_law_mean" a220 (FuncBody.stmts b220) s220 3 [] .none .none .none (.str "law_pf0233_01" 414) none (.ref 219) .none 0)) #[])) ::
    (nat_lit 221, (Obj.mk (.type "tuple") none (.seq #[] 0) #[])) ::
    (nat_lit 224, (Obj.mk (.type "code") none (.fields (List.toArray [(.str "_law_box_right" 476), (.str "_law_box_right" 477), (.str "/claim/cut.py" 478), (.int 131 0), (.int 1 0), (.int 0 0), (.int 0 0), (.int 3 0), (.ref 221), (.bool Bool.true), (.int 181 0), (.ref 222), .none, .none, .none, (.ref 223), (.int 479 0), (.int 131 0), (.str "/claim/cut.py" 480)])) #[])) ::
    (nat_lit 225, (Obj.mk (.type "function") none (.func (FuncData.mk "_law_box_right" "_law_box_right" a225 (FuncBody.stmts b225) s225 3 [] .none .none .none (.str "law_pf0233_01" 414) none (.ref 224) .none 0)) #[])) ::
    (nat_lit 226, (Obj.mk (.type "tuple") none (.seq #[] 0) #[])) ::
    (nat_lit 229, (Obj.mk (.type "code") none (.fields (List.toArray [(.str "_law_next" 482), (.str "_law_next" 483), (.str "/claim/cut.py" 484), (.int 148 0), (.int 2 0), (.int 0 0), (.int 0 0), (.int 3 0), (.ref 226), (.bool Bool.true), (.int 181 0), (.ref 227), .none, .none, .none, (.ref 228), (.int 485 0), (.int 148 0), (.str "/claim/cut.py" 486)])) #[])) ::
    (nat_lit 230, (Obj.mk (.type "function") none (.func (FuncData.mk "_law_next" "_law_next" a230 (FuncBody.stmts b230) s230 3 [] .none .none .none (.str "law_pf0233_01" 414) none (.ref 229) .none 0)) #[])) ::
    (nat_lit 231, (Obj.mk (.type "tuple") none (.seq #[] 0) #[])) ::
    (nat_lit 233, (Obj.mk (.type "tuple") none (.seq (List.toArray [(.str "one" 491), (.str "other" 492)]) 0) #[])) ::
    (nat_lit 234, (Obj.mk (.type "tuple") none (.seq #[] 0) #[])) ::
    (nat_lit 236, (Obj.mk (.type "code") none (.fields (List.toArray [(.str "_law_far" 488), (.str "_law_far" 489), (.str "/claim/cut.py" 490), (.int 154 0), (.int 2 0), (.int 0 0), (.int 0 0), (.int 3 0), (.ref 231), (.bool Bool.true), (.int 181 0), (.ref 232), .none, (.ref 233), (.ref 234), (.ref 235), (.int 493 0), (.int 154 0), (.str "/claim/cut.py" 494)])) #[])) ::
    (nat_lit 237, (Obj.mk (.type "function") none (.func (FuncData.mk "_law_far" "_law_far" a237 (FuncBody.stmts b237) s237 3 [] .none .none .none (.str "law_pf0233_01" 414) none (.ref 236) .none 0)) #[])) ::
    (nat_lit 238, (Obj.mk (.type "tuple") none (.seq #[] 0) #[])) ::
    (nat_lit 240, (Obj.mk (.type "tuple") none (.seq (List.toArray [(.str "deed" 499)]) 0) #[])) ::
    (nat_lit 241, (Obj.mk (.type "tuple") none (.seq #[] 0) #[])) ::
    (nat_lit 243, (Obj.mk (.type "code") none (.fields (List.toArray [(.str "_law_is_refused" 496), (.str "_law_is_refused" 497), (.str "/claim/cut.py" 498), (.int 156 0), (.int 1 0), (.int 0 0), (.int 0 0), (.int 3 0), (.ref 238), (.bool Bool.true), (.int 181 0), (.ref 239), .none, (.ref 240), (.ref 241), (.ref 242), (.int 500 0), (.int 156 0), (.str "/claim/cut.py" 501)])) #[])) ::
    (nat_lit 244, (Obj.mk (.type "function") none (.func (FuncData.mk "_law_is_refused" "_law_is_refused" a244 (FuncBody.stmts b244) s244 3 [] .none .none .none (.str "law_pf0233_01" 414) none (.ref 243) .none 0)) #[])) ::
    (nat_lit 245, (Obj.mk (.type "tuple") none (.seq #[] 0) #[])) ::
    (nat_lit 248, (Obj.mk (.type "code") none (.fields (List.toArray [(.str "law" 503), (.str "law" 504), (.str "/claim/cut.py" 505), (.int 162 0), (.int 1 0), (.int 0 0), (.int 0 0), (.int 3 0), (.ref 245), (.bool Bool.true), (.int 181 0), (.ref 246), .none, .none, .none, (.ref 247), (.int 506 0), (.int 162 0), (.str "/claim/cut.py" 507)])) #[])) ::
    (nat_lit 249, (Obj.mk (.type "function") none (.func (FuncData.mk "law" "law" a249 (FuncBody.stmts b249) s249 3 [] .none .none .none (.str "law_pf0233_01" 414) none (.ref 248) .none 0)) #[]))
 :: []) : Frag)) rfl rfl rfl rfl rfl rfl rfl rfl rfl rfl rfl rfl rfl rfl rfl rfl rfl rfl rfl rfl rfl rfl rfl rfl rfl rfl rfl rfl rfl rfl rfl
abbrev RW : RowW := PySem.W.OpenRow.toRowW (PySem.W.OpenLaw.row PySem.Challenge.rw_pf0233_01)
noncomputable abbrev HK : Hook := kmHook Mine.hd.heap_39 [2, 3, 15, 17, 18, 20, 21, 22, 29, 31, 32, 34, 35, 36, 37, 38, 39, 42, 49, 50, 51, 54, 55, 58, 59, 67, 70, 71, 72, 75, 76, 77, 80, 81, 82, 84, 85, 87, 88, 89, 92, 93, 94, 95, 96, 97, 98, 101, 104, 105, 106, 108, 109, 111, 112, 113, 115, 116, 118, 119, 120, 123, 124, 125, 128, 129, 130, 132, 133, 135, 136, 144, 146, 147, 149, 150, 151, 153, 154, 156, 157, 158, 160, 161, 163, 164, 165, 166, 167, 168, 169, 172, 174, 175, 177, 178, 179, 181, 182, 184, 185, 186, 189, 190, 191, 194, 195, 196, 199, 200, 201, 204, 205, 206, 209, 210, 211, 214, 215, 216, 219, 220, 221, 224, 225, 226, 229, 230, 231, 233, 234, 236, 237, 238, 240, 241, 243, 244, 245, 248, 249] (fun _ => by kernel_rfl) [246]
noncomputable def hd.H2_0 : Params → List Obj := fun (P : Params) => ([(Obj.mk .none none (.dict #[] 0) #[])] : List Obj)
noncomputable def hd.H2_4 : Params → List Obj := fun (P : Params) => ([(Obj.mk .none none (.dict (List.toArray [(DictEntry.mk (PyData.keyHash P "type.__subclasses__.Exception.0") (.str "type.__subclasses__.Exception.0" 221) (.int 38 0)), (DictEntry.mk (PyData.keyHash P "type.__subclasses__.Exception.n") (.str "type.__subclasses__.Exception.n" 222) (.int 1 0))]) 2) #[])] : List Obj)
noncomputable def hd.H3_0 : Params → List Obj := fun (P : Params) => ([(Obj.mk (.type "dict") none (.dict (List.toArray [(DictEntry.mk (PyData.keyHash P "__name__") (.str "__name__" 165) (.str "__main__" 164)), (DictEntry.mk (PyData.keyHash P "__doc__") (.str "__doc__" 166) .none), (DictEntry.mk (PyData.keyHash P "__package__") (.str "__package__" 167) .none), (DictEntry.mk (PyData.keyHash P "__loader__") (.str "__loader__" 168) (.builtin "__main__.__loader__#opaque")), (DictEntry.mk (PyData.keyHash P "__spec__") (.str "__spec__" 169) .none), (DictEntry.mk (PyData.keyHash P "__annotations__") (.str "__annotations__" 170) (.ref 6)), (DictEntry.mk (PyData.keyHash P "__builtins__") (.str "__builtins__" 171) (.ref 4)), (DictEntry.mk (PyData.keyHash P "__file__") (.str "__file__" 173) (.str "/claim/cut.py" 172)), (DictEntry.mk (PyData.keyHash P "__cached__") (.str "__cached__" 174) .none)]) 9) #[])] : List Obj)
noncomputable def hd.H3_4 : Params → List Obj := fun (P : Params) => ([(Obj.mk (.type "dict") none (.dict (List.toArray [(DictEntry.mk (PyData.keyHash P "__name__") (.str "__name__" 165) (.str "pixelpress.errors" 194)), (DictEntry.mk (PyData.keyHash P "__doc__") (.str "__doc__" 166) .none), (DictEntry.mk (PyData.keyHash P "__package__") (.str "__package__" 167) .none), (DictEntry.mk (PyData.keyHash P "__loader__") (.str "__loader__" 168) (.builtin "__main__.__loader__#opaque")), (DictEntry.mk (PyData.keyHash P "__spec__") (.str "__spec__" 169) .none), (DictEntry.mk (PyData.keyHash P "__annotations__") (.str "__annotations__" 170) (.ref 6)), (DictEntry.mk (PyData.keyHash P "__builtins__") (.str "__builtins__" 171) (.ref 4)), (DictEntry.mk (PyData.keyHash P "__file__") (.str "__file__" 173) (.str "/claim/cut.py" 172)), (DictEntry.mk (PyData.keyHash P "__cached__") (.str "__cached__" 174) .none), (DictEntry.mk (PyData.keyHash P "_wall") (.str "_wall" 193) (.ref 21)), (DictEntry.mk (PyData.keyHash P "PressError") (.str "PressError" 224) (.ref 38))]) 11) #[])] : List Obj)
noncomputable def hd.H3_5 : Params → List Obj := fun (P : Params) => ([(Obj.mk (.type "dict") none (.dict (List.toArray [(DictEntry.mk (PyData.keyHash P "__name__") (.str "__name__" 165) (.str "pixelpress.errors" 194)), (DictEntry.mk (PyData.keyHash P "__doc__") (.str "__doc__" 166) .none), (DictEntry.mk (PyData.keyHash P "__package__") (.str "__package__" 167) .none), (DictEntry.mk (PyData.keyHash P "__loader__") (.str "__loader__" 168) (.builtin "__main__.__loader__#opaque")), (DictEntry.mk (PyData.keyHash P "__spec__") (.str "__spec__" 169) .none), (DictEntry.mk (PyData.keyHash P "__annotations__") (.str "__annotations__" 170) (.ref 6)), (DictEntry.mk (PyData.keyHash P "__builtins__") (.str "__builtins__" 171) (.ref 4)), (DictEntry.mk (PyData.keyHash P "__file__") (.str "__file__" 173) (.str "/claim/cut.py" 172)), (DictEntry.mk (PyData.keyHash P "__cached__") (.str "__cached__" 174) .none), (DictEntry.mk (PyData.keyHash P "_wall") (.str "_wall" 193) (.ref 21)), (DictEntry.mk (PyData.keyHash P "PressError") (.str "PressError" 224) (.ref 38)), (DictEntry.mk (PyData.keyHash P "RangeError") (.str "RangeError" 240) (.ref 51))]) 12) #[])] : List Obj)
noncomputable def hd.H3_9 : Params → List Obj := fun (P : Params) => ([(Obj.mk (.type "dict") none (.dict (List.toArray [(DictEntry.mk (PyData.keyHash P "__name__") (.str "__name__" 165) (.str "pixelpress.palette" 241)), (DictEntry.mk (PyData.keyHash P "__doc__") (.str "__doc__" 166) .none), (DictEntry.mk (PyData.keyHash P "__package__") (.str "__package__" 167) .none), (DictEntry.mk (PyData.keyHash P "__loader__") (.str "__loader__" 168) (.builtin "__main__.__loader__#opaque")), (DictEntry.mk (PyData.keyHash P "__spec__") (.str "__spec__" 169) .none), (DictEntry.mk (PyData.keyHash P "__annotations__") (.str "__annotations__" 170) (.ref 6)), (DictEntry.mk (PyData.keyHash P "__builtins__") (.str "__builtins__" 171) (.ref 4)), (DictEntry.mk (PyData.keyHash P "__file__") (.str "__file__" 173) (.str "/claim/cut.py" 172)), (DictEntry.mk (PyData.keyHash P "__cached__") (.str "__cached__" 174) .none), (DictEntry.mk (PyData.keyHash P "_wall") (.str "_wall" 193) (.ref 21)), (DictEntry.mk (PyData.keyHash P "PressError") (.str "PressError" 224) (.ref 38)), (DictEntry.mk (PyData.keyHash P "RangeError") (.str "RangeError" 240) (.ref 51)), (DictEntry.mk (PyData.keyHash P "SHARES") (.str "SHARES" 246) (.ref 54)), (DictEntry.mk (PyData.keyHash P "counted_colours") (.str "counted_colours" 252) (.ref 59)), (DictEntry.mk (PyData.keyHash P "Box") (.str "Box" 309) (.ref 96))]) 15) #[])] : List Obj)
noncomputable def hd.H3_16 : Params → List Obj := fun (P : Params) => ([(Obj.mk (.type "dict") none (.dict (List.toArray [(DictEntry.mk (PyData.keyHash P "__name__") (.str "__name__" 165) (.str "pixelpress.planes" 360)), (DictEntry.mk (PyData.keyHash P "__doc__") (.str "__doc__" 166) .none), (DictEntry.mk (PyData.keyHash P "__package__") (.str "__package__" 167) .none), (DictEntry.mk (PyData.keyHash P "__loader__") (.str "__loader__" 168) (.builtin "__main__.__loader__#opaque")), (DictEntry.mk (PyData.keyHash P "__spec__") (.str "__spec__" 169) .none), (DictEntry.mk (PyData.keyHash P "__annotations__") (.str "__annotations__" 170) (.ref 6)), (DictEntry.mk (PyData.keyHash P "__builtins__") (.str "__builtins__" 171) (.ref 4)), (DictEntry.mk (PyData.keyHash P "__file__") (.str "__file__" 173) (.str "/claim/cut.py" 172)), (DictEntry.mk (PyData.keyHash P "__cached__") (.str "__cached__" 174) .none), (DictEntry.mk (PyData.keyHash P "_wall") (.str "_wall" 193) (.ref 21)), (DictEntry.mk (PyData.keyHash P "PressError") (.str "PressError" 224) (.ref 38)), (DictEntry.mk (PyData.keyHash P "RangeError") (.str "RangeError" 240) (.ref 51)), (DictEntry.mk (PyData.keyHash P "SHARES") (.str "SHARES" 246) (.ref 54)), (DictEntry.mk (PyData.keyHash P "counted_colours") (.str "counted_colours" 252) (.ref 59)), (DictEntry.mk (PyData.keyHash P "Box") (.str "Box" 309) (.ref 96)), (DictEntry.mk (PyData.keyHash P "halves") (.str "halves" 315) (.ref 105)), (DictEntry.mk (PyData.keyHash P "next_box") (.str "next_box" 327) (.ref 112)), (DictEntry.mk (PyData.keyHash P "cut_boxes") (.str "cut_boxes" 337) (.ref 119)), (DictEntry.mk (PyData.keyHash P "palette_of") (.str "palette_of" 343) (.ref 124)), (DictEntry.mk (PyData.keyHash P "apart") (.str "apart" 349) (.ref 129)), (DictEntry.mk (PyData.keyHash P "nearest_colour") (.str "nearest_colour" 359) (.ref 136))]) 21) #[])] : List Obj)
noncomputable def hd.H3_17 : Params → List Obj := fun (P : Params) => ([(Obj.mk (.type "dict") none (.dict (List.toArray [(DictEntry.mk (PyData.keyHash P "__name__") (.str "__name__" 165) (.str "pixelpress.planes" 360)), (DictEntry.mk (PyData.keyHash P "__doc__") (.str "__doc__" 166) .none), (DictEntry.mk (PyData.keyHash P "__package__") (.str "__package__" 167) .none), (DictEntry.mk (PyData.keyHash P "__loader__") (.str "__loader__" 168) (.builtin "__main__.__loader__#opaque")), (DictEntry.mk (PyData.keyHash P "__spec__") (.str "__spec__" 169) .none), (DictEntry.mk (PyData.keyHash P "__annotations__") (.str "__annotations__" 170) (.ref 6)), (DictEntry.mk (PyData.keyHash P "__builtins__") (.str "__builtins__" 171) (.ref 4)), (DictEntry.mk (PyData.keyHash P "__file__") (.str "__file__" 173) (.str "/claim/cut.py" 172)), (DictEntry.mk (PyData.keyHash P "__cached__") (.str "__cached__" 174) .none), (DictEntry.mk (PyData.keyHash P "_wall") (.str "_wall" 193) (.ref 21)), (DictEntry.mk (PyData.keyHash P "PressError") (.str "PressError" 224) (.ref 38)), (DictEntry.mk (PyData.keyHash P "RangeError") (.str "RangeError" 240) (.ref 51)), (DictEntry.mk (PyData.keyHash P "SHARES") (.str "SHARES" 246) (.ref 54)), (DictEntry.mk (PyData.keyHash P "counted_colours") (.str "counted_colours" 252) (.ref 59)), (DictEntry.mk (PyData.keyHash P "Box") (.str "Box" 309) (.ref 96)), (DictEntry.mk (PyData.keyHash P "halves") (.str "halves" 315) (.ref 105)), (DictEntry.mk (PyData.keyHash P "next_box") (.str "next_box" 327) (.ref 112)), (DictEntry.mk (PyData.keyHash P "cut_boxes") (.str "cut_boxes" 337) (.ref 119)), (DictEntry.mk (PyData.keyHash P "palette_of") (.str "palette_of" 343) (.ref 124)), (DictEntry.mk (PyData.keyHash P "apart") (.str "apart" 349) (.ref 129)), (DictEntry.mk (PyData.keyHash P "nearest_colour") (.str "nearest_colour" 359) (.ref 136)), (DictEntry.mk (PyData.keyHash P "Plane") (.str "Plane" 413) (.ref 167))]) 22) #[])] : List Obj)
noncomputable def hd.H3_32 : Params → List Obj := fun (P : Params) => ([(Obj.mk (.type "dict") none (.dict (List.toArray [(DictEntry.mk (PyData.keyHash P "__name__") (.str "__name__" 165) (.str "law_pf0233_01" 414)), (DictEntry.mk (PyData.keyHash P "__doc__") (.str "__doc__" 166) .none), (DictEntry.mk (PyData.keyHash P "__package__") (.str "__package__" 167) .none), (DictEntry.mk (PyData.keyHash P "__loader__") (.str "__loader__" 168) (.builtin "__main__.__loader__#opaque")), (DictEntry.mk (PyData.keyHash P "__spec__") (.str "__spec__" 169) .none), (DictEntry.mk (PyData.keyHash P "__annotations__") (.str "__annotations__" 170) (.ref 6)), (DictEntry.mk (PyData.keyHash P "__builtins__") (.str "__builtins__" 171) (.ref 4)), (DictEntry.mk (PyData.keyHash P "__file__") (.str "__file__" 173) (.str "/claim/cut.py" 172)), (DictEntry.mk (PyData.keyHash P "__cached__") (.str "__cached__" 174) .none), (DictEntry.mk (PyData.keyHash P "_wall") (.str "_wall" 193) (.ref 21)), (DictEntry.mk (PyData.keyHash P "PressError") (.str "PressError" 224) (.ref 38)), (DictEntry.mk (PyData.keyHash P "RangeError") (.str "RangeError" 240) (.ref 51)), (DictEntry.mk (PyData.keyHash P "SHARES") (.str "SHARES" 246) (.ref 54)), (DictEntry.mk (PyData.keyHash P "counted_colours") (.str "counted_colours" 252) (.ref 59)), (DictEntry.mk (PyData.keyHash P "Box") (.str "Box" 309) (.ref 96)), (DictEntry.mk (PyData.keyHash P "halves") (.str "halves" 315) (.ref 105)), (DictEntry.mk (PyData.keyHash P "next_box") (.str "next_box" 327) (.ref 112)), (DictEntry.mk (PyData.keyHash P "cut_boxes") (.str "cut_boxes" 337) (.ref 119)), (DictEntry.mk (PyData.keyHash P "palette_of") (.str "palette_of" 343) (.ref 124)), (DictEntry.mk (PyData.keyHash P "apart") (.str "apart" 349) (.ref 129)), (DictEntry.mk (PyData.keyHash P "nearest_colour") (.str "nearest_colour" 359) (.ref 136)), (DictEntry.mk (PyData.keyHash P "Plane") (.str "Plane" 413) (.ref 167)), (DictEntry.mk (PyData.keyHash P "_law_paint") (.str "_law_paint" 424) (.ref 178)), (DictEntry.mk (PyData.keyHash P "_law_dab") (.str "_law_dab" 433) (.ref 185)), (DictEntry.mk (PyData.keyHash P "_law_colour") (.str "_law_colour" 439) (.ref 190)), (DictEntry.mk (PyData.keyHash P "_law_counted") (.str "_law_counted" 445) (.ref 195)), (DictEntry.mk (PyData.keyHash P "_law_sides") (.str "_law_sides" 451) (.ref 200)), (DictEntry.mk (PyData.keyHash P "_law_spread") (.str "_law_spread" 457) (.ref 205)), (DictEntry.mk (PyData.keyHash P "_law_longest") (.str "_law_longest" 463) (.ref 210)), (DictEntry.mk (PyData.keyHash P "_law_places") (.str "_law_places" 469) (.ref 215)), (DictEntry.mk (PyData.keyHash P "_law_mean") (.str "_law_mean" 475) (.ref 220)), (DictEntry.mk (PyData.keyHash P "_law_box_right") (.str "_law_box_right" 481) (.ref 225)), (DictEntry.mk (PyData.keyHash P "_law_next") (.str "_law_next" 487) (.ref 230)), (DictEntry.mk (PyData.keyHash P "_law_far") (.str "_law_far" 495) (.ref 237)), (DictEntry.mk (PyData.keyHash P "_law_is_refused") (.str "_law_is_refused" 502) (.ref 244)), (DictEntry.mk (PyData.keyHash P "law") (.str "law" 508) (.ref 249))]) 36) #[])] : List Obj)
noncomputable def hd.H11_0 : Params → List Obj := fun (P : Params) => ([(Obj.mk (.type "tuple") none (.seq #[] 0) #[])] : List Obj)
noncomputable def hd.H12_0 : Params → List Obj := fun (P : Params) => ([(Obj.mk .none none (.fields #[]) #[])] : List Obj)
noncomputable def hd.H12_4 : Params → List Obj := fun (P : Params) => ([(Obj.mk .none none (.fields (List.toArray [(.int 1 0), (.int 0 0), (.ref 20), (.int 5 0), (.int 0 0), (.ref 27)])) #[])] : List Obj)
noncomputable def hd.H12_5 : Params → List Obj := fun (P : Params) => ([(Obj.mk .none none (.fields (List.toArray [(.int 1 0), (.int 0 0), (.ref 20), (.int 5 0), (.int 0 0), (.ref 27), (.int 10 0), (.int 0 0), (.ref 47)])) #[])] : List Obj)
noncomputable def hd.H12_9 : Params → List Obj := fun (P : Params) => ([(Obj.mk .none none (.fields (List.toArray [(.int 1 0), (.int 0 0), (.ref 20), (.int 5 0), (.int 0 0), (.ref 27), (.int 10 0), (.int 0 0), (.ref 47), (.int 14 0), (.int 0 0), (.ref 58), (.int 21 0), (.int 0 0), (.ref 65)])) #[])] : List Obj)
noncomputable def hd.H12_16 : Params → List Obj := fun (P : Params) => ([(Obj.mk .none none (.fields (List.toArray [(.int 1 0), (.int 0 0), (.ref 20), (.int 5 0), (.int 0 0), (.ref 27), (.int 10 0), (.int 0 0), (.ref 47), (.int 14 0), (.int 0 0), (.ref 58), (.int 21 0), (.int 0 0), (.ref 65), (.int 49 0), (.int 0 0), (.ref 104), (.int 55 0), (.int 0 0), (.ref 111), (.int 63 0), (.int 0 0), (.ref 118), (.int 73 0), (.int 0 0), (.ref 123), (.int 75 0), (.int 0 0), (.ref 128), (.int 77 0), (.int 0 0), (.ref 135)])) #[])] : List Obj)
noncomputable def hd.H12_17 : Params → List Obj := fun (P : Params) => ([(Obj.mk .none none (.fields (List.toArray [(.int 1 0), (.int 0 0), (.ref 20), (.int 5 0), (.int 0 0), (.ref 27), (.int 10 0), (.int 0 0), (.ref 47), (.int 14 0), (.int 0 0), (.ref 58), (.int 21 0), (.int 0 0), (.ref 65), (.int 49 0), (.int 0 0), (.ref 104), (.int 55 0), (.int 0 0), (.ref 111), (.int 63 0), (.int 0 0), (.ref 118), (.int 73 0), (.int 0 0), (.ref 123), (.int 75 0), (.int 0 0), (.ref 128), (.int 77 0), (.int 0 0), (.ref 135), (.int 84 0), (.int 0 0), (.ref 142)])) #[])] : List Obj)
noncomputable def hd.H12_32 : Params → List Obj := fun (P : Params) => ([(Obj.mk .none none (.fields (List.toArray [(.int 1 0), (.int 0 0), (.ref 20), (.int 5 0), (.int 0 0), (.ref 27), (.int 10 0), (.int 0 0), (.ref 47), (.int 14 0), (.int 0 0), (.ref 58), (.int 21 0), (.int 0 0), (.ref 65), (.int 49 0), (.int 0 0), (.ref 104), (.int 55 0), (.int 0 0), (.ref 111), (.int 63 0), (.int 0 0), (.ref 118), (.int 73 0), (.int 0 0), (.ref 123), (.int 75 0), (.int 0 0), (.ref 128), (.int 77 0), (.int 0 0), (.ref 135), (.int 84 0), (.int 0 0), (.ref 142), (.int 97 0), (.int 0 0), (.ref 177), (.int 101 0), (.int 0 0), (.ref 184), (.int 108 0), (.int 0 0), (.ref 189), (.int 110 0), (.int 0 0), (.ref 194), (.int 115 0), (.int 0 0), (.ref 199), (.int 118 0), (.int 0 0), (.ref 204), (.int 120 0), (.int 0 0), (.ref 209), (.int 123 0), (.int 0 0), (.ref 214), (.int 125 0), (.int 0 0), (.ref 219), (.int 131 0), (.int 0 0), (.ref 224), (.int 148 0), (.int 0 0), (.ref 229), (.int 154 0), (.int 0 0), (.ref 236), (.int 156 0), (.int 0 0), (.ref 243), (.int 162 0), (.int 0 0), (.ref 248)])) #[])] : List Obj)
noncomputable def hd.H13_0 : Params → List Obj := fun (P : Params) => ([(Obj.mk (.type "code") none (.fields (List.toArray [(.str "<module>" 182), (.str "<module>" 183), (.str "/claim/cut.py" 184), (.int 1 0), (.int 0 0), (.int 0 0), (.int 0 0), (.int 0 0), (.ref 11), (.bool Bool.false), (.int 181 0), (.ref 12), .none, .none, .none, .none, (.int 185 0), (.int 1 0), (.str "/claim/cut.py" 186)])) #[]),
    (Obj.mk (.type "frame") none .plain (List.toArray [(some (.ref 13)), (some (.ref 3)), (some (.ref 3)), none, (some (.str "__main__" 164)), none, (some (.ref 0))]))] : List Obj)
noncomputable def hd.H15_4 : Params → List Obj :=
  (fun {a21 : Arguments} {b21 : List Stmt} {s21 : Scope} (_ : fnAt 0 = (a21, b21, s21)) {a35 : Arguments} {b35 : List Stmt} {s35 : Scope} (_ : methAt 2 0 = (a35, b35, s35)) => fun (P : Params) => ([(Obj.mk (.type "tuple") none (.seq #[] 0) #[]),
    (Obj.mk .none none (.fields #[]) #[]),
    (Obj.mk (.type "tuple") none (.seq (List.toArray [(.str "k" 190)]) 0) #[]),
    (Obj.mk (.type "tuple") none (.seq #[] 0) #[]),
    (Obj.mk .none none (.func (FuncData.mk "_wall" "_wall" a21 (FuncBody.stmts b21) s21 0 [] .none .none .none .none none .none .none 0)) #[]),
    (Obj.mk (.type "code") none (.fields (List.toArray [(.str "_wall" 187), (.str "_wall" 188), (.str "/claim/cut.py" 189), (.int 1 0), (.int 1 0), (.int 0 0), (.int 0 0), (.int 3 0), (.ref 15), (.bool Bool.true), (.int 181 0), (.ref 16), .none, (.ref 17), (.ref 18), (.ref 19), (.int 191 0), (.int 1 0), (.str "/claim/cut.py" 192)])) #[]),
    (Obj.mk (.type "function") none (.func (FuncData.mk "_wall" "_wall" a21 (FuncBody.stmts b21) s21 3 [] .none .none .none (.str "__main__" 164) none (.ref 20) .none 0)) #[]),
    (Obj.mk (.type "tuple") none (.seq (List.toArray [(.type "Exception")]) 0) #[]),
    (Obj.mk (.type "builtin_function_or_method") none (.fields (List.toArray [(.builtin "type.__prepare__"), (.type "type")])) #[]),
    (Obj.mk (.type "dict") none (.dict (List.toArray [(DictEntry.mk (PyData.keyHash P "__module__") (.str "__module__" 203) (.str "pixelpress.errors" 194)), (DictEntry.mk (PyData.keyHash P "__qualname__") (.str "__qualname__" 205) (.str "PressError" 204)), (DictEntry.mk (PyData.keyHash P "__firstlineno__") (.str "__firstlineno__" 207) (.int 5 206)), (DictEntry.mk (PyData.keyHash P "__init__") (.str "__init__" 215) (.ref 35)), (DictEntry.mk (PyData.keyHash P "__static_attributes__") (.str "__static_attributes__" 217) (.ref 36))]) 5) #[]),
    (Obj.mk (.type "tuple") none (.seq #[] 0) #[]),
    (Obj.mk .none none (.fields (List.toArray [(.int 7 0), (.int 4 0), (.ref 34)])) #[]),
    (Obj.mk (.type "code") none (.fields (List.toArray [(.str "PressError" 198), (.str "PressError" 199), (.str "/claim/cut.py" 200), (.int 5 0), (.int 0 0), (.int 0 0), (.int 0 0), (.int 0 0), (.ref 25), (.bool Bool.false), (.int 181 0), (.ref 26), .none, .none, .none, .none, (.int 201 0), (.int 5 0), (.str "/claim/cut.py" 202)])) #[]),
    (Obj.mk (.type "frame") none .plain (List.toArray [(some (.ref 27)), (some (.ref 3)), (some (.ref 24)), none, (some (.str "pixelpress.errors" 194)), none, (some (.ref 0))])),
    (Obj.mk (.type "tuple") none (.seq #[] 0) #[]),
    (Obj.mk .none none (.fields #[]) #[]),
    (Obj.mk (.type "tuple") none (.seq (List.toArray [(.str "self" 211), (.str "message" 212)]) 0) #[]),
    (Obj.mk (.type "tuple") none (.seq #[] 0) #[]),
    (Obj.mk .none none (.func (FuncData.mk "__init__" "PressError.__init__" a35 (FuncBody.stmts b35) s35 0 [] .none .none .none .none none .none .none 0)) #[]),
    (Obj.mk (.type "code") none (.fields (List.toArray [(.str "__init__" 208), (.str "PressError.__init__" 209), (.str "/claim/cut.py" 210), (.int 7 0), (.int 2 0), (.int 0 0), (.int 0 0), (.int 3 0), (.ref 29), (.bool Bool.true), (.int 181 0), (.ref 30), .none, (.ref 31), (.ref 32), (.ref 33), (.int 213 0), (.int 7 0), (.str "/claim/cut.py" 214)])) #[]),
    (Obj.mk (.type "function") none (.func (FuncData.mk "__init__" "PressError.__init__" a35 (FuncBody.stmts b35) s35 3 [] .none .none .none (.str "pixelpress.errors" 194) none (.ref 34) .none 0)) #[]),
    (Obj.mk (.type "tuple") none (.seq (List.toArray [(.str "message" 216)]) 0) #[]),
    (Obj.mk (.type "dict") none (.dict (List.toArray [(DictEntry.mk (PyData.keyHash P "__module__") (.str "__module__" 203) (.str "pixelpress.errors" 194)), (DictEntry.mk (PyData.keyHash P "__firstlineno__") (.str "__firstlineno__" 207) (.int 5 206)), (DictEntry.mk (PyData.keyHash P "__init__") (.str "__init__" 215) (.ref 35)), (DictEntry.mk (PyData.keyHash P "__static_attributes__") (.str "__static_attributes__" 217) (.ref 36)), (DictEntry.mk (PyData.keyHash P "__weakref__") (.str "__weakref__" 219) (.ref 39)), (DictEntry.mk (PyData.keyHash P "__doc__") (.str "__doc__" 220) .none)]) 3) #[])] : List Obj)) rfl rfl
noncomputable def hd.H38_4 : Params → List Obj := fun (P : Params) => ([(Obj.mk (.type "type") none (.cls (ClassData.mk "PressError" [(.type "Exception")] [(.ref 38), (.type "Exception"), (.type "BaseException"), (.type "object")] 37 "PressError" Bool.true [] [] Bool.false none Bool.false)) (List.toArray [(some (.ref 22)), none, (some (.str "PressError" 196)), (some (.str "PressError" 204)), (some (.builtin "Exception.__new__")), (some (.bool Bool.true))]))] : List Obj)
noncomputable def hd.H38_5 : Params → List Obj := fun (P : Params) => ([(Obj.mk (.type "type") none (.cls (ClassData.mk "PressError" [(.type "Exception")] [(.ref 38), (.type "Exception"), (.type "BaseException"), (.type "object")] 37 "PressError" Bool.true [] [(.ref 51)] Bool.false none Bool.false)) (List.toArray [(some (.ref 22)), none, (some (.str "PressError" 196)), (some (.str "PressError" 204)), (some (.builtin "Exception.__new__")), (some (.bool Bool.true))]))] : List Obj)
noncomputable def hd.H39_4 : Params → List Obj := fun (P : Params) => ([(Obj.mk (.type "getset_descriptor") none (.fields (List.toArray [(.str "__weakref__" 218), (.ref 38), (.builtin "ExceptionGroup.__weakref__"), .none])) #[]),
    (Obj.mk (.type "super") none (.fields (List.toArray [(.ref 38), (.ref 38), (.ref 38)])) #[]),
    (Obj.mk (.type "builtin_function_or_method") none (.fields (List.toArray [(.builtin "object.__init_subclass__"), (.ref 38)])) #[])] : List Obj)
noncomputable def hd.H42_5 : Params → List Obj := fun (P : Params) => ([(Obj.mk (.type "tuple") none (.seq (List.toArray [(.ref 38)]) 0) #[]),
    (Obj.mk (.type "builtin_function_or_method") none (.fields (List.toArray [(.builtin "type.__prepare__"), (.type "type")])) #[]),
    (Obj.mk (.type "dict") none (.dict (List.toArray [(DictEntry.mk (PyData.keyHash P "__module__") (.str "__module__" 232) (.str "pixelpress.errors" 194)), (DictEntry.mk (PyData.keyHash P "__qualname__") (.str "__qualname__" 234) (.str "RangeError" 233)), (DictEntry.mk (PyData.keyHash P "__firstlineno__") (.str "__firstlineno__" 236) (.int 10 235)), (DictEntry.mk (PyData.keyHash P "__static_attributes__") (.str "__static_attributes__" 237) (.ref 49))]) 4) #[]),
    (Obj.mk (.type "tuple") none (.seq #[] 0) #[]),
    (Obj.mk .none none (.fields #[]) #[]),
    (Obj.mk (.type "code") none (.fields (List.toArray [(.str "RangeError" 227), (.str "RangeError" 228), (.str "/claim/cut.py" 229), (.int 10 0), (.int 0 0), (.int 0 0), (.int 0 0), (.int 0 0), (.ref 45), (.bool Bool.false), (.int 181 0), (.ref 46), .none, .none, .none, .none, (.int 230 0), (.int 10 0), (.str "/claim/cut.py" 231)])) #[]),
    (Obj.mk (.type "frame") none .plain (List.toArray [(some (.ref 47)), (some (.ref 3)), (some (.ref 44)), none, (some (.str "pixelpress.errors" 194)), none, (some (.ref 0))])),
    (Obj.mk (.type "tuple") none (.seq #[] 0) #[]),
    (Obj.mk (.type "dict") none (.dict (List.toArray [(DictEntry.mk (PyData.keyHash P "__module__") (.str "__module__" 232) (.str "pixelpress.errors" 194)), (DictEntry.mk (PyData.keyHash P "__firstlineno__") (.str "__firstlineno__" 236) (.int 10 235)), (DictEntry.mk (PyData.keyHash P "__static_attributes__") (.str "__static_attributes__" 237) (.ref 49)), (DictEntry.mk (PyData.keyHash P "__doc__") (.str "__doc__" 238) .none)]) 2) #[]),
    (Obj.mk (.type "type") none (.cls (ClassData.mk "RangeError" [(.ref 38)] [(.ref 51), (.ref 38), (.type "Exception"), (.type "BaseException"), (.type "object")] 50 "RangeError" Bool.true [] [] Bool.false none Bool.false)) (List.toArray [(some (.ref 42)), none, (some (.str "RangeError" 225)), (some (.str "RangeError" 233)), (some (.builtin "Exception.__new__")), (some (.bool Bool.true))])),
    (Obj.mk (.type "super") none (.fields (List.toArray [(.ref 51), (.ref 51), (.ref 51)])) #[]),
    (Obj.mk (.type "builtin_function_or_method") none (.fields (List.toArray [(.builtin "object.__init_subclass__"), (.ref 51)])) #[])] : List Obj)
noncomputable def hd.H54_9 : Params → List Obj :=
  (fun {a59 : Arguments} {b59 : List Stmt} {s59 : Scope} (_ : fnAt 6 = (a59, b59, s59)) {a71 : Arguments} {b71 : List Stmt} {s71 : Scope} (_ : methAt 7 0 = (a71, b71, s71)) {a76 : Arguments} {b76 : List Stmt} {s76 : Scope} (_ : methAt 7 1 = (a76, b76, s76)) {a81 : Arguments} {b81 : List Stmt} {s81 : Scope} (_ : methAt 7 2 = (a81, b81, s81)) {a88 : Arguments} {b88 : List Stmt} {s88 : Scope} (_ : methAt 7 3 = (a88, b88, s88)) {a93 : Arguments} {b93 : List Stmt} {s93 : Scope} (_ : methAt 7 4 = (a93, b93, s93)) => fun (P : Params) => ([(Obj.mk (.type "tuple") none (.seq (List.toArray [(.int 2 243), (.int 3 244), (.int 1 245)]) 0) #[]),
    (Obj.mk (.type "tuple") none (.seq #[] 0) #[]),
    (Obj.mk .none none (.fields #[]) #[]),
    (Obj.mk .none none (.func (FuncData.mk "counted_colours" "counted_colours" a59 (FuncBody.stmts b59) s59 0 [] .none .none .none .none none .none .none 0)) #[]),
    (Obj.mk (.type "code") none (.fields (List.toArray [(.str "counted_colours" 247), (.str "counted_colours" 248), (.str "/claim/cut.py" 249), (.int 14 0), (.int 1 0), (.int 0 0), (.int 0 0), (.int 3 0), (.ref 55), (.bool Bool.true), (.int 181 0), (.ref 56), .none, .none, .none, (.ref 57), (.int 250 0), (.int 14 0), (.str "/claim/cut.py" 251)])) #[]),
    (Obj.mk (.type "function") none (.func (FuncData.mk "counted_colours" "counted_colours" a59 (FuncBody.stmts b59) s59 3 [] .none .none .none (.str "pixelpress.palette" 241) none (.ref 58) .none 0)) #[]),
    (Obj.mk (.type "tuple") none (.seq #[] 0) #[]),
    (Obj.mk (.type "builtin_function_or_method") none (.fields (List.toArray [(.builtin "type.__prepare__"), (.type "type")])) #[]),
    (Obj.mk (.type "dict") none (.dict (List.toArray [(DictEntry.mk (PyData.keyHash P "__module__") (.str "__module__" 260) (.str "pixelpress.palette" 241)), (DictEntry.mk (PyData.keyHash P "__qualname__") (.str "__qualname__" 262) (.str "Box" 261)), (DictEntry.mk (PyData.keyHash P "__firstlineno__") (.str "__firstlineno__" 264) (.int 21 263)), (DictEntry.mk (PyData.keyHash P "__init__") (.str "__init__" 270) (.ref 71)), (DictEntry.mk (PyData.keyHash P "many") (.str "many" 276) (.ref 76)), (DictEntry.mk (PyData.keyHash P "spread") (.str "spread" 282) (.ref 81)), (DictEntry.mk (PyData.keyHash P "longest") (.str "longest" 292) (.ref 88)), (DictEntry.mk (PyData.keyHash P "mean") (.str "mean" 298) (.ref 93)), (DictEntry.mk (PyData.keyHash P "__static_attributes__") (.str "__static_attributes__" 302) (.ref 94))]) 9) #[]),
    (Obj.mk (.type "tuple") none (.seq #[] 0) #[]),
    (Obj.mk .none none (.fields (List.toArray [(.int 23 0), (.int 4 0), (.ref 70), (.int 28 0), (.int 4 0), (.ref 75), (.int 31 0), (.int 4 0), (.ref 80), (.int 34 0), (.int 4 0), (.ref 87), (.int 42 0), (.int 4 0), (.ref 92)])) #[]),
    (Obj.mk (.type "code") none (.fields (List.toArray [(.str "Box" 255), (.str "Box" 256), (.str "/claim/cut.py" 257), (.int 21 0), (.int 0 0), (.int 0 0), (.int 0 0), (.int 0 0), (.ref 63), (.bool Bool.false), (.int 181 0), (.ref 64), .none, .none, .none, .none, (.int 258 0), (.int 21 0), (.str "/claim/cut.py" 259)])) #[]),
    (Obj.mk (.type "frame") none .plain (List.toArray [(some (.ref 65)), (some (.ref 3)), (some (.ref 62)), none, (some (.str "pixelpress.palette" 241)), none, (some (.ref 0))])),
    (Obj.mk (.type "tuple") none (.seq #[] 0) #[]),
    (Obj.mk .none none (.fields #[]) #[]),
    (Obj.mk .none none (.func (FuncData.mk "__init__" "Box.__init__" a71 (FuncBody.stmts b71) s71 0 [] .none .none .none .none none .none .none 0)) #[]),
    (Obj.mk (.type "code") none (.fields (List.toArray [(.str "__init__" 265), (.str "Box.__init__" 266), (.str "/claim/cut.py" 267), (.int 23 0), (.int 2 0), (.int 0 0), (.int 0 0), (.int 3 0), (.ref 67), (.bool Bool.true), (.int 181 0), (.ref 68), .none, .none, .none, (.ref 69), (.int 268 0), (.int 23 0), (.str "/claim/cut.py" 269)])) #[]),
    (Obj.mk (.type "function") none (.func (FuncData.mk "__init__" "Box.__init__" a71 (FuncBody.stmts b71) s71 3 [] .none .none .none (.str "pixelpress.palette" 241) none (.ref 70) .none 0)) #[]),
    (Obj.mk (.type "tuple") none (.seq #[] 0) #[]),
    (Obj.mk .none none (.fields #[]) #[]),
    (Obj.mk .none none (.func (FuncData.mk "many" "Box.many" a76 (FuncBody.stmts b76) s76 0 [] .none .none .none .none none .none .none 0)) #[]),
    (Obj.mk (.type "code") none (.fields (List.toArray [(.str "many" 271), (.str "Box.many" 272), (.str "/claim/cut.py" 273), (.int 28 0), (.int 1 0), (.int 0 0), (.int 0 0), (.int 3 0), (.ref 72), (.bool Bool.true), (.int 181 0), (.ref 73), .none, .none, .none, (.ref 74), (.int 274 0), (.int 28 0), (.str "/claim/cut.py" 275)])) #[]),
    (Obj.mk (.type "function") none (.func (FuncData.mk "many" "Box.many" a76 (FuncBody.stmts b76) s76 3 [] .none .none .none (.str "pixelpress.palette" 241) none (.ref 75) .none 0)) #[]),
    (Obj.mk (.type "tuple") none (.seq #[] 0) #[]),
    (Obj.mk .none none (.fields #[]) #[]),
    (Obj.mk .none none (.func (FuncData.mk "spread" "Box.spread" a81 (FuncBody.stmts b81) s81 0 [] .none .none .none .none none .none .none 0)) #[]),
    (Obj.mk (.type "code") none (.fields (List.toArray [(.str "spread" 277), (.str "Box.spread" 278), (.str "/claim/cut.py" 279), (.int 31 0), (.int 1 0), (.int 0 0), (.int 0 0), (.int 3 0), (.ref 77), (.bool Bool.true), (.int 181 0), (.ref 78), .none, .none, .none, (.ref 79), (.int 280 0), (.int 31 0), (.str "/claim/cut.py" 281)])) #[]),
    (Obj.mk (.type "function") none (.func (FuncData.mk "spread" "Box.spread" a81 (FuncBody.stmts b81) s81 3 [] .none .none .none (.str "pixelpress.palette" 241) none (.ref 80) .none 0)) #[]),
    (Obj.mk (.type "tuple") none (.seq #[] 0) #[]),
    (Obj.mk .none none (.fields #[]) #[]),
    (Obj.mk (.type "tuple") none (.seq (List.toArray [(.str "self" 286), (.str "best" 287), (.str "part" 288), (.str "here" 289)]) 0) #[]),
    (Obj.mk (.type "tuple") none (.seq #[] 0) #[]),
    (Obj.mk .none none (.func (FuncData.mk "longest" "Box.longest" a88 (FuncBody.stmts b88) s88 0 [] .none .none .none .none none .none .none 0)) #[]),
    (Obj.mk (.type "code") none (.fields (List.toArray [(.str "longest" 283), (.str "Box.longest" 284), (.str "/claim/cut.py" 285), (.int 34 0), (.int 1 0), (.int 0 0), (.int 0 0), (.int 3 0), (.ref 82), (.bool Bool.true), (.int 181 0), (.ref 83), .none, (.ref 84), (.ref 85), (.ref 86), (.int 290 0), (.int 34 0), (.str "/claim/cut.py" 291)])) #[]),
    (Obj.mk (.type "function") none (.func (FuncData.mk "longest" "Box.longest" a88 (FuncBody.stmts b88) s88 3 [] .none .none .none (.str "pixelpress.palette" 241) none (.ref 87) .none 0)) #[]),
    (Obj.mk (.type "tuple") none (.seq #[] 0) #[]),
    (Obj.mk .none none (.fields #[]) #[]),
    (Obj.mk .none none (.func (FuncData.mk "mean" "Box.mean" a93 (FuncBody.stmts b93) s93 0 [] .none .none .none .none none .none .none 0)) #[]),
    (Obj.mk (.type "code") none (.fields (List.toArray [(.str "mean" 293), (.str "Box.mean" 294), (.str "/claim/cut.py" 295), (.int 42 0), (.int 1 0), (.int 0 0), (.int 0 0), (.int 3 0), (.ref 89), (.bool Bool.true), (.int 181 0), (.ref 90), .none, .none, .none, (.ref 91), (.int 296 0), (.int 42 0), (.str "/claim/cut.py" 297)])) #[]),
    (Obj.mk (.type "function") none (.func (FuncData.mk "mean" "Box.mean" a93 (FuncBody.stmts b93) s93 3 [] .none .none .none (.str "pixelpress.palette" 241) none (.ref 92) .none 0)) #[]),
    (Obj.mk (.type "tuple") none (.seq (List.toArray [(.str "counted" 299), (.str "high" 300), (.str "low" 301)]) 0) #[]),
    (Obj.mk (.type "dict") none (.dict (List.toArray [(DictEntry.mk (PyData.keyHash P "__module__") (.str "__module__" 260) (.str "pixelpress.palette" 241)), (DictEntry.mk (PyData.keyHash P "__firstlineno__") (.str "__firstlineno__" 264) (.int 21 263)), (DictEntry.mk (PyData.keyHash P "__init__") (.str "__init__" 270) (.ref 71)), (DictEntry.mk (PyData.keyHash P "many") (.str "many" 276) (.ref 76)), (DictEntry.mk (PyData.keyHash P "spread") (.str "spread" 282) (.ref 81)), (DictEntry.mk (PyData.keyHash P "longest") (.str "longest" 292) (.ref 88)), (DictEntry.mk (PyData.keyHash P "mean") (.str "mean" 298) (.ref 93)), (DictEntry.mk (PyData.keyHash P "__static_attributes__") (.str "__static_attributes__" 302) (.ref 94)), (DictEntry.mk (PyData.keyHash P "__dict__") (.str "__dict__" 304) (.ref 97)), (DictEntry.mk (PyData.keyHash P "__weakref__") (.str "__weakref__" 306) (.ref 98)), (DictEntry.mk (PyData.keyHash P "__doc__") (.str "__doc__" 307) .none)]) 4) #[]),
    (Obj.mk (.type "type") none (.cls (ClassData.mk "Box" [(.type "object")] [(.ref 96), (.type "object")] 95 "Box" Bool.true [] [] Bool.false none Bool.false)) (List.toArray [none, none, (some (.str "Box" 253)), (some (.str "Box" 261)), (some (.builtin "object.__new__")), (some (.bool Bool.true))])),
    (Obj.mk (.type "getset_descriptor") none (.fields (List.toArray [(.str "__dict__" 303), (.ref 96), (.builtin "function.__dict__"), (.builtin "function.__dict__#set")])) #[]),
    (Obj.mk (.type "getset_descriptor") none (.fields (List.toArray [(.str "__weakref__" 305), (.ref 96), (.builtin "ExceptionGroup.__weakref__"), .none])) #[]),
    (Obj.mk (.type "super") none (.fields (List.toArray [(.ref 96), (.ref 96), (.ref 96)])) #[]),
    (Obj.mk (.type "builtin_function_or_method") none (.fields (List.toArray [(.builtin "object.__init_subclass__"), (.ref 96)])) #[])] : List Obj)) rfl rfl rfl rfl rfl rfl
noncomputable def hd.H101_16 : Params → List Obj :=
  (fun {a105 : Arguments} {b105 : List Stmt} {s105 : Scope} (_ : fnAt 8 = (a105, b105, s105)) {a112 : Arguments} {b112 : List Stmt} {s112 : Scope} (_ : fnAt 9 = (a112, b112, s112)) {a119 : Arguments} {b119 : List Stmt} {s119 : Scope} (_ : fnAt 10 = (a119, b119, s119)) {a124 : Arguments} {b124 : List Stmt} {s124 : Scope} (_ : fnAt 11 = (a124, b124, s124)) {a129 : Arguments} {b129 : List Stmt} {s129 : Scope} (_ : fnAt 12 = (a129, b129, s129)) {a136 : Arguments} {b136 : List Stmt} {s136 : Scope} (_ : fnAt 13 = (a136, b136, s136)) => fun (P : Params) => ([(Obj.mk (.type "tuple") none (.seq #[] 0) #[]),
    (Obj.mk .none none (.fields #[]) #[]),
    (Obj.mk .none none (.func (FuncData.mk "halves" "halves" a105 (FuncBody.stmts b105) s105 0 [] .none .none .none .none none .none .none 0)) #[]),
    (Obj.mk (.type "code") none (.fields (List.toArray [(.str "halves" 310), (.str "halves" 311), (.str "/claim/cut.py" 312), (.int 49 0), (.int 1 0), (.int 0 0), (.int 0 0), (.int 3 0), (.ref 101), (.bool Bool.true), (.int 181 0), (.ref 102), .none, .none, .none, (.ref 103), (.int 313 0), (.int 49 0), (.str "/claim/cut.py" 314)])) #[]),
    (Obj.mk (.type "function") none (.func (FuncData.mk "halves" "halves" a105 (FuncBody.stmts b105) s105 3 [] .none .none .none (.str "pixelpress.palette" 241) none (.ref 104) .none 0)) #[]),
    (Obj.mk (.type "tuple") none (.seq #[] 0) #[]),
    (Obj.mk .none none (.fields #[]) #[]),
    (Obj.mk (.type "tuple") none (.seq (List.toArray [(.str "boxes" 319), (.str "many" 320), (.str "best" 321), (.str "most" 322), (.str "place" 323), (.str "worth" 324)]) 0) #[]),
    (Obj.mk (.type "tuple") none (.seq #[] 0) #[]),
    (Obj.mk .none none (.func (FuncData.mk "next_box" "next_box" a112 (FuncBody.stmts b112) s112 0 [] .none .none .none .none none .none .none 0)) #[]),
    (Obj.mk (.type "code") none (.fields (List.toArray [(.str "next_box" 316), (.str "next_box" 317), (.str "/claim/cut.py" 318), (.int 55 0), (.int 2 0), (.int 0 0), (.int 0 0), (.int 3 0), (.ref 106), (.bool Bool.true), (.int 181 0), (.ref 107), .none, (.ref 108), (.ref 109), (.ref 110), (.int 325 0), (.int 55 0), (.str "/claim/cut.py" 326)])) #[]),
    (Obj.mk (.type "function") none (.func (FuncData.mk "next_box" "next_box" a112 (FuncBody.stmts b112) s112 3 [] .none .none .none (.str "pixelpress.palette" 241) none (.ref 111) .none 0)) #[]),
    (Obj.mk (.type "tuple") none (.seq #[] 0) #[]),
    (Obj.mk .none none (.fields #[]) #[]),
    (Obj.mk (.type "tuple") none (.seq (List.toArray [(.str "counted" 331), (.str "many" 332), (.str "boxes" 333), (.str "place" 334)]) 0) #[]),
    (Obj.mk (.type "tuple") none (.seq #[] 0) #[]),
    (Obj.mk .none none (.func (FuncData.mk "cut_boxes" "cut_boxes" a119 (FuncBody.stmts b119) s119 0 [] .none .none .none .none none .none .none 0)) #[]),
    (Obj.mk (.type "code") none (.fields (List.toArray [(.str "cut_boxes" 328), (.str "cut_boxes" 329), (.str "/claim/cut.py" 330), (.int 63 0), (.int 2 0), (.int 0 0), (.int 0 0), (.int 3 0), (.ref 113), (.bool Bool.true), (.int 181 0), (.ref 114), .none, (.ref 115), (.ref 116), (.ref 117), (.int 335 0), (.int 63 0), (.str "/claim/cut.py" 336)])) #[]),
    (Obj.mk (.type "function") none (.func (FuncData.mk "cut_boxes" "cut_boxes" a119 (FuncBody.stmts b119) s119 3 [] .none .none .none (.str "pixelpress.palette" 241) none (.ref 118) .none 0)) #[]),
    (Obj.mk (.type "tuple") none (.seq #[] 0) #[]),
    (Obj.mk .none none (.fields #[]) #[]),
    (Obj.mk .none none (.func (FuncData.mk "palette_of" "palette_of" a124 (FuncBody.stmts b124) s124 0 [] .none .none .none .none none .none .none 0)) #[]),
    (Obj.mk (.type "code") none (.fields (List.toArray [(.str "palette_of" 338), (.str "palette_of" 339), (.str "/claim/cut.py" 340), (.int 73 0), (.int 2 0), (.int 0 0), (.int 0 0), (.int 3 0), (.ref 120), (.bool Bool.true), (.int 181 0), (.ref 121), .none, .none, .none, (.ref 122), (.int 341 0), (.int 73 0), (.str "/claim/cut.py" 342)])) #[]),
    (Obj.mk (.type "function") none (.func (FuncData.mk "palette_of" "palette_of" a124 (FuncBody.stmts b124) s124 3 [] .none .none .none (.str "pixelpress.palette" 241) none (.ref 123) .none 0)) #[]),
    (Obj.mk (.type "tuple") none (.seq #[] 0) #[]),
    (Obj.mk .none none (.fields #[]) #[]),
    (Obj.mk .none none (.func (FuncData.mk "apart" "apart" a129 (FuncBody.stmts b129) s129 0 [] .none .none .none .none none .none .none 0)) #[]),
    (Obj.mk (.type "code") none (.fields (List.toArray [(.str "apart" 344), (.str "apart" 345), (.str "/claim/cut.py" 346), (.int 75 0), (.int 2 0), (.int 0 0), (.int 0 0), (.int 3 0), (.ref 125), (.bool Bool.true), (.int 181 0), (.ref 126), .none, .none, .none, (.ref 127), (.int 347 0), (.int 75 0), (.str "/claim/cut.py" 348)])) #[]),
    (Obj.mk (.type "function") none (.func (FuncData.mk "apart" "apart" a129 (FuncBody.stmts b129) s129 3 [] .none .none .none (.str "pixelpress.palette" 241) none (.ref 128) .none 0)) #[]),
    (Obj.mk (.type "tuple") none (.seq #[] 0) #[]),
    (Obj.mk .none none (.fields #[]) #[]),
    (Obj.mk (.type "tuple") none (.seq (List.toArray [(.str "palette" 353), (.str "colour" 354), (.str "best" 355), (.str "place" 356)]) 0) #[]),
    (Obj.mk (.type "tuple") none (.seq #[] 0) #[]),
    (Obj.mk .none none (.func (FuncData.mk "nearest_colour" "nearest_colour" a136 (FuncBody.stmts b136) s136 0 [] .none .none .none .none none .none .none 0)) #[]),
    (Obj.mk (.type "code") none (.fields (List.toArray [(.str "nearest_colour" 350), (.str "nearest_colour" 351), (.str "/claim/cut.py" 352), (.int 77 0), (.int 2 0), (.int 0 0), (.int 0 0), (.int 3 0), (.ref 130), (.bool Bool.true), (.int 181 0), (.ref 131), .none, (.ref 132), (.ref 133), (.ref 134), (.int 357 0), (.int 77 0), (.str "/claim/cut.py" 358)])) #[]),
    (Obj.mk (.type "function") none (.func (FuncData.mk "nearest_colour" "nearest_colour" a136 (FuncBody.stmts b136) s136 3 [] .none .none .none (.str "pixelpress.palette" 241) none (.ref 135) .none 0)) #[])] : List Obj)) rfl rfl rfl rfl rfl rfl
noncomputable def hd.H137_17 : Params → List Obj :=
  (fun {a150 : Arguments} {b150 : List Stmt} {s150 : Scope} (_ : methAt 15 0 = (a150, b150, s150)) {a157 : Arguments} {b157 : List Stmt} {s157 : Scope} (_ : methAt 15 1 = (a157, b157, s157)) {a164 : Arguments} {b164 : List Stmt} {s164 : Scope} (_ : methAt 15 2 = (a164, b164, s164)) => fun (P : Params) => ([(Obj.mk (.type "tuple") none (.seq #[] 0) #[]),
    (Obj.mk (.type "builtin_function_or_method") none (.fields (List.toArray [(.builtin "type.__prepare__"), (.type "type")])) #[]),
    (Obj.mk (.type "dict") none (.dict (List.toArray [(DictEntry.mk (PyData.keyHash P "__module__") (.str "__module__" 369) (.str "pixelpress.planes" 360)), (DictEntry.mk (PyData.keyHash P "__qualname__") (.str "__qualname__" 371) (.str "Plane" 370)), (DictEntry.mk (PyData.keyHash P "__firstlineno__") (.str "__firstlineno__" 373) (.int 84 372)), (DictEntry.mk (PyData.keyHash P "__init__") (.str "__init__" 383) (.ref 150)), (DictEntry.mk (PyData.keyHash P "at") (.str "at" 392) (.ref 157)), (DictEntry.mk (PyData.keyHash P "put") (.str "put" 402) (.ref 164)), (DictEntry.mk (PyData.keyHash P "__static_attributes__") (.str "__static_attributes__" 406) (.ref 165))]) 7) #[]),
    (Obj.mk (.type "tuple") none (.seq #[] 0) #[]),
    (Obj.mk .none none (.fields (List.toArray [(.int 86 0), (.int 4 0), (.ref 149), (.int 91 0), (.int 4 0), (.ref 156), (.int 94 0), (.int 4 0), (.ref 163)])) #[]),
    (Obj.mk (.type "code") none (.fields (List.toArray [(.str "Plane" 364), (.str "Plane" 365), (.str "/claim/cut.py" 366), (.int 84 0), (.int 0 0), (.int 0 0), (.int 0 0), (.int 0 0), (.ref 140), (.bool Bool.false), (.int 181 0), (.ref 141), .none, .none, .none, .none, (.int 367 0), (.int 84 0), (.str "/claim/cut.py" 368)])) #[]),
    (Obj.mk (.type "frame") none .plain (List.toArray [(some (.ref 142)), (some (.ref 3)), (some (.ref 139)), none, (some (.str "pixelpress.planes" 360)), none, (some (.ref 0))])),
    (Obj.mk (.type "tuple") none (.seq #[] 0) #[]),
    (Obj.mk .none none (.fields #[]) #[]),
    (Obj.mk (.type "tuple") none (.seq (List.toArray [(.str "self" 377), (.str "width" 378), (.str "height" 379), (.str "rows" 380)]) 0) #[]),
    (Obj.mk (.type "tuple") none (.seq #[] 0) #[]),
    (Obj.mk .none none (.func (FuncData.mk "__init__" "Plane.__init__" a150 (FuncBody.stmts b150) s150 0 [] .none .none .none .none none .none .none 0)) #[]),
    (Obj.mk (.type "code") none (.fields (List.toArray [(.str "__init__" 374), (.str "Plane.__init__" 375), (.str "/claim/cut.py" 376), (.int 86 0), (.int 4 0), (.int 0 0), (.int 0 0), (.int 3 0), (.ref 144), (.bool Bool.true), (.int 181 0), (.ref 145), .none, (.ref 146), (.ref 147), (.ref 148), (.int 381 0), (.int 86 0), (.str "/claim/cut.py" 382)])) #[]),
    (Obj.mk (.type "function") none (.func (FuncData.mk "__init__" "Plane.__init__" a150 (FuncBody.stmts b150) s150 3 [] .none .none .none (.str "pixelpress.planes" 360) none (.ref 149) .none 0)) #[]),
    (Obj.mk (.type "tuple") none (.seq #[] 0) #[]),
    (Obj.mk .none none (.fields #[]) #[]),
    (Obj.mk (.type "tuple") none (.seq (List.toArray [(.str "self" 387), (.str "x" 388), (.str "y" 389)]) 0) #[]),
    (Obj.mk (.type "tuple") none (.seq #[] 0) #[]),
    (Obj.mk .none none (.func (FuncData.mk "at" "Plane.at" a157 (FuncBody.stmts b157) s157 0 [] .none .none .none .none none .none .none 0)) #[]),
    (Obj.mk (.type "code") none (.fields (List.toArray [(.str "at" 384), (.str "Plane.at" 385), (.str "/claim/cut.py" 386), (.int 91 0), (.int 3 0), (.int 0 0), (.int 0 0), (.int 3 0), (.ref 151), (.bool Bool.true), (.int 181 0), (.ref 152), .none, (.ref 153), (.ref 154), (.ref 155), (.int 390 0), (.int 91 0), (.str "/claim/cut.py" 391)])) #[]),
    (Obj.mk (.type "function") none (.func (FuncData.mk "at" "Plane.at" a157 (FuncBody.stmts b157) s157 3 [] .none .none .none (.str "pixelpress.planes" 360) none (.ref 156) .none 0)) #[]),
    (Obj.mk (.type "tuple") none (.seq #[] 0) #[]),
    (Obj.mk .none none (.fields #[]) #[]),
    (Obj.mk (.type "tuple") none (.seq (List.toArray [(.str "self" 396), (.str "x" 397), (.str "y" 398), (.str "value" 399)]) 0) #[]),
    (Obj.mk (.type "tuple") none (.seq #[] 0) #[]),
    (Obj.mk .none none (.func (FuncData.mk "put" "Plane.put" a164 (FuncBody.stmts b164) s164 0 [] .none .none .none .none none .none .none 0)) #[]),
    (Obj.mk (.type "code") none (.fields (List.toArray [(.str "put" 393), (.str "Plane.put" 394), (.str "/claim/cut.py" 395), (.int 94 0), (.int 4 0), (.int 0 0), (.int 0 0), (.int 3 0), (.ref 158), (.bool Bool.true), (.int 181 0), (.ref 159), .none, (.ref 160), (.ref 161), (.ref 162), (.int 400 0), (.int 94 0), (.str "/claim/cut.py" 401)])) #[]),
    (Obj.mk (.type "function") none (.func (FuncData.mk "put" "Plane.put" a164 (FuncBody.stmts b164) s164 3 [] .none .none .none (.str "pixelpress.planes" 360) none (.ref 163) .none 0)) #[]),
    (Obj.mk (.type "tuple") none (.seq (List.toArray [(.str "height" 403), (.str "rows" 404), (.str "width" 405)]) 0) #[]),
    (Obj.mk (.type "dict") none (.dict (List.toArray [(DictEntry.mk (PyData.keyHash P "__module__") (.str "__module__" 369) (.str "pixelpress.planes" 360)), (DictEntry.mk (PyData.keyHash P "__firstlineno__") (.str "__firstlineno__" 373) (.int 84 372)), (DictEntry.mk (PyData.keyHash P "__init__") (.str "__init__" 383) (.ref 150)), (DictEntry.mk (PyData.keyHash P "at") (.str "at" 392) (.ref 157)), (DictEntry.mk (PyData.keyHash P "put") (.str "put" 402) (.ref 164)), (DictEntry.mk (PyData.keyHash P "__static_attributes__") (.str "__static_attributes__" 406) (.ref 165)), (DictEntry.mk (PyData.keyHash P "__dict__") (.str "__dict__" 408) (.ref 168)), (DictEntry.mk (PyData.keyHash P "__weakref__") (.str "__weakref__" 410) (.ref 169)), (DictEntry.mk (PyData.keyHash P "__doc__") (.str "__doc__" 411) .none)]) 4) #[]),
    (Obj.mk (.type "type") none (.cls (ClassData.mk "Plane" [(.type "object")] [(.ref 167), (.type "object")] 166 "Plane" Bool.true [] [] Bool.false none Bool.false)) (List.toArray [none, none, (some (.str "Plane" 362)), (some (.str "Plane" 370)), (some (.builtin "object.__new__")), (some (.bool Bool.true))])),
    (Obj.mk (.type "getset_descriptor") none (.fields (List.toArray [(.str "__dict__" 407), (.ref 167), (.builtin "function.__dict__"), (.builtin "function.__dict__#set")])) #[]),
    (Obj.mk (.type "getset_descriptor") none (.fields (List.toArray [(.str "__weakref__" 409), (.ref 167), (.builtin "ExceptionGroup.__weakref__"), .none])) #[]),
    (Obj.mk (.type "super") none (.fields (List.toArray [(.ref 167), (.ref 167), (.ref 167)])) #[]),
    (Obj.mk (.type "builtin_function_or_method") none (.fields (List.toArray [(.builtin "object.__init_subclass__"), (.ref 167)])) #[])] : List Obj)) rfl rfl rfl
noncomputable def hd.H172_32 : Params → List Obj :=
  (fun {a178 : Arguments} {b178 : List Stmt} {s178 : Scope} (_ : fnAt 17 = (a178, b178, s178)) {a185 : Arguments} {b185 : List Stmt} {s185 : Scope} (_ : fnAt 18 = (a185, b185, s185)) {a190 : Arguments} {b190 : List Stmt} {s190 : Scope} (_ : fnAt 19 = (a190, b190, s190)) {a195 : Arguments} {b195 : List Stmt} {s195 : Scope} (_ : fnAt 20 = (a195, b195, s195)) {a200 : Arguments} {b200 : List Stmt} {s200 : Scope} (_ : fnAt 21 = (a200, b200, s200)) {a205 : Arguments} {b205 : List Stmt} {s205 : Scope} (_ : fnAt 22 = (a205, b205, s205)) {a210 : Arguments} {b210 : List Stmt} {s210 : Scope} (_ : fnAt 23 = (a210, b210, s210)) {a215 : Arguments} {b215 : List Stmt} {s215 : Scope} (_ : fnAt 24 = (a215, b215, s215)) {a220 : Arguments} {b220 : List Stmt} {s220 : Scope} (_ : fnAt 25 = (a220, b220, s220)) {a225 : Arguments} {b225 : List Stmt} {s225 : Scope} (_ : fnAt 26 = (a225, b225, s225)) {a230 : Arguments} {b230 : List Stmt} {s230 : Scope} (_ : fnAt 27 = (a230, b230, s230)) {a237 : Arguments} {b237 : List Stmt} {s237 : Scope} (_ : fnAt 28 = (a237, b237, s237)) {a244 : Arguments} {b244 : List Stmt} {s244 : Scope} (_ : fnAt 29 = (a244, b244, s244)) {a249 : Arguments} {b249 : List Stmt} {s249 : Scope} (_ : fnAt 30 = (a249, b249, s249)) => fun (P : Params) => ([(Obj.mk (.type "tuple") none (.seq #[] 0) #[]),
    (Obj.mk .none none (.fields #[]) #[]),
    (Obj.mk (.type "tuple") none (.seq (List.toArray [(.str "script" 419), (.str "first" 420), (.str "tube" 421)]) 0) #[]),
    (Obj.mk (.type "tuple") none (.seq #[] 0) #[]),
    (Obj.mk .none none (.func (FuncData.mk "_law_paint" "_law_paint" a178 (FuncBody.stmts b178) s178 0 [] .none .none .none .none none .none .none 0)) #[]),
    (Obj.mk (.type "code") none (.fields (List.toArray [(.str "_law_paint" 416), (.str "_law_paint" 417), (.str "/claim/cut.py" 418), (.int 97 0), (.int 1 0), (.int 0 0), (.int 0 0), (.int 3 0), (.ref 172), (.bool Bool.true), (.int 181 0), (.ref 173), .none, (.ref 174), (.ref 175), (.ref 176), (.int 422 0), (.int 97 0), (.str "/claim/cut.py" 423)])) #[]),
    (Obj.mk (.type "function") none (.func (FuncData.mk "_law_paint" "_law_paint" a178 (FuncBody.stmts b178) s178 3 [] .none .none .none (.str "law_pf0233_01" 414) none (.ref 177) .none 0)) #[]),
    (Obj.mk (.type "tuple") none (.seq #[] 0) #[]),
    (Obj.mk .none none (.fields #[]) #[]),
    (Obj.mk (.type "tuple") none (.seq (List.toArray [(.str "paint" 428), (.str "many" 429), (.str "drop" 430)]) 0) #[]),
    (Obj.mk (.type "tuple") none (.seq #[] 0) #[]),
    (Obj.mk .none none (.func (FuncData.mk "_law_dab" "_law_dab" a185 (FuncBody.stmts b185) s185 0 [] .none .none .none .none none .none .none 0)) #[]),
    (Obj.mk (.type "code") none (.fields (List.toArray [(.str "_law_dab" 425), (.str "_law_dab" 426), (.str "/claim/cut.py" 427), (.int 101 0), (.int 2 0), (.int 0 0), (.int 0 0), (.int 3 0), (.ref 179), (.bool Bool.true), (.int 181 0), (.ref 180), .none, (.ref 181), (.ref 182), (.ref 183), (.int 431 0), (.int 101 0), (.str "/claim/cut.py" 432)])) #[]),
    (Obj.mk (.type "function") none (.func (FuncData.mk "_law_dab" "_law_dab" a185 (FuncBody.stmts b185) s185 3 [] .none .none .none (.str "law_pf0233_01" 414) none (.ref 184) .none 0)) #[]),
    (Obj.mk (.type "tuple") none (.seq #[] 0) #[]),
    (Obj.mk .none none (.fields #[]) #[]),
    (Obj.mk .none none (.func (FuncData.mk "_law_colour" "_law_colour" a190 (FuncBody.stmts b190) s190 0 [] .none .none .none .none none .none .none 0)) #[]),
    (Obj.mk (.type "code") none (.fields (List.toArray [(.str "_law_colour" 434), (.str "_law_colour" 435), (.str "/claim/cut.py" 436), (.int 108 0), (.int 1 0), (.int 0 0), (.int 0 0), (.int 3 0), (.ref 186), (.bool Bool.true), (.int 181 0), (.ref 187), .none, .none, .none, (.ref 188), (.int 437 0), (.int 108 0), (.str "/claim/cut.py" 438)])) #[]),
    (Obj.mk (.type "function") none (.func (FuncData.mk "_law_colour" "_law_colour" a190 (FuncBody.stmts b190) s190 3 [] .none .none .none (.str "law_pf0233_01" 414) none (.ref 189) .none 0)) #[]),
    (Obj.mk (.type "tuple") none (.seq #[] 0) #[]),
    (Obj.mk .none none (.fields #[]) #[]),
    (Obj.mk .none none (.func (FuncData.mk "_law_counted" "_law_counted" a195 (FuncBody.stmts b195) s195 0 [] .none .none .none .none none .none .none 0)) #[]),
    (Obj.mk (.type "code") none (.fields (List.toArray [(.str "_law_counted" 440), (.str "_law_counted" 441), (.str "/claim/cut.py" 442), (.int 110 0), (.int 1 0), (.int 0 0), (.int 0 0), (.int 3 0), (.ref 191), (.bool Bool.true), (.int 181 0), (.ref 192), .none, .none, .none, (.ref 193), (.int 443 0), (.int 110 0), (.str "/claim/cut.py" 444)])) #[]),
    (Obj.mk (.type "function") none (.func (FuncData.mk "_law_counted" "_law_counted" a195 (FuncBody.stmts b195) s195 3 [] .none .none .none (.str "law_pf0233_01" 414) none (.ref 194) .none 0)) #[]),
    (Obj.mk (.type "tuple") none (.seq #[] 0) #[]),
    (Obj.mk .none none (.fields #[]) #[]),
    (Obj.mk .none none (.func (FuncData.mk "_law_sides" "_law_sides" a200 (FuncBody.stmts b200) s200 0 [] .none .none .none .none none .none .none 0)) #[]),
    (Obj.mk (.type "code") none (.fields (List.toArray [(.str "_law_sides" 446), (.str "_law_sides" 447), (.str "/claim/cut.py" 448), (.int 115 0), (.int 1 0), (.int 0 0), (.int 0 0), (.int 3 0), (.ref 196), (.bool Bool.true), (.int 181 0), (.ref 197), .none, .none, .none, (.ref 198), (.int 449 0), (.int 115 0), (.str "/claim/cut.py" 450)])) #[]),
    (Obj.mk (.type "function") none (.func (FuncData.mk "_law_sides" "_law_sides" a200 (FuncBody.stmts b200) s200 3 [] .none .none .none (.str "law_pf0233_01" 414) none (.ref 199) .none 0)) #[]),
    (Obj.mk (.type "tuple") none (.seq #[] 0) #[]),
    (Obj.mk .none none (.fields #[]) #[]),
    (Obj.mk .none none (.func (FuncData.mk "_law_spread" "_law_spread" a205 (FuncBody.stmts b205) s205 0 [] .none .none .none .none none .none .none 0)) #[]),
    (Obj.mk (.type "code") none (.fields (List.toArray [(.str "_law_spread" 452), (.str "_law_spread" 453), (.str "/claim/cut.py" 454), (.int 118 0), (.int 1 0), (.int 0 0), (.int 0 0), (.int 3 0), (.ref 201), (.bool Bool.true), (.int 181 0), (.ref 202), .none, .none, .none, (.ref 203), (.int 455 0), (.int 118 0), (.str "/claim/cut.py" 456)])) #[]),
    (Obj.mk (.type "function") none (.func (FuncData.mk "_law_spread" "_law_spread" a205 (FuncBody.stmts b205) s205 3 [] .none .none .none (.str "law_pf0233_01" 414) none (.ref 204) .none 0)) #[]),
    (Obj.mk (.type "tuple") none (.seq #[] 0) #[]),
    (Obj.mk .none none (.fields #[]) #[]),
    (Obj.mk .none none (.func (FuncData.mk "_law_longest" "_law_longest" a210 (FuncBody.stmts b210) s210 0 [] .none .none .none .none none .none .none 0)) #[]),
    (Obj.mk (.type "code") none (.fields (List.toArray [(.str "_law_longest" 458), (.str "_law_longest" 459), (.str "/claim/cut.py" 460), (.int 120 0), (.int 1 0), (.int 0 0), (.int 0 0), (.int 3 0), (.ref 206), (.bool Bool.true), (.int 181 0), (.ref 207), .none, .none, .none, (.ref 208), (.int 461 0), (.int 120 0), (.str "/claim/cut.py" 462)])) #[]),
    (Obj.mk (.type "function") none (.func (FuncData.mk "_law_longest" "_law_longest" a210 (FuncBody.stmts b210) s210 3 [] .none .none .none (.str "law_pf0233_01" 414) none (.ref 209) .none 0)) #[]),
    (Obj.mk (.type "tuple") none (.seq #[] 0) #[]),
    (Obj.mk .none none (.fields #[]) #[]),
    (Obj.mk .none none (.func (FuncData.mk "_law_places" "_law_places" a215 (FuncBody.stmts b215) s215 0 [] .none .none .none .none none .none .none 0)) #[]),
    (Obj.mk (.type "code") none (.fields (List.toArray [(.str "_law_places" 464), (.str "_law_places" 465), (.str "/claim/cut.py" 466), (.int 123 0), (.int 1 0), (.int 0 0), (.int 0 0), (.int 3 0), (.ref 211), (.bool Bool.true), (.int 181 0), (.ref 212), .none, .none, .none, (.ref 213), (.int 467 0), (.int 123 0), (.str "/claim/cut.py" 468)])) #[]),
    (Obj.mk (.type "function") none (.func (FuncData.mk "_law_places" "_law_places" a215 (FuncBody.stmts b215) s215 3 [] .none .none .none (.str "law_pf0233_01" 414) none (.ref 214) .none 0)) #[]),
    (Obj.mk (.type "tuple") none (.seq #[] 0) #[]),
    (Obj.mk .none none (.fields #[]) #[]),
    (Obj.mk .none none (.func (FuncData.mk "_law_mean" "_law_mean" a220 (FuncBody.stmts b220) s220 0 [] .none .none .none .none none .none .none 0)) #[]),
    (Obj.mk (.type "code") none (.fields (List.toArray [(.str "_law_mean" 470), (.str "_law_mean" 471), (.str "/claim/cut.py" 472), (.int 125 0), (.int 1 0), (.int 0 0), (.int 0 0), (.int 3 0), (.ref 216), (.bool Bool.true), (.int 181 0), (.ref 217), .none, .none, .none, (.ref 218), (.int 473 0), (.int 125 0), (.str "/claim/cut.py" 474)])) #[]),
    (Obj.mk (.type "function") none (.func (FuncData.mk "_law_mean" "_law_mean" a220 (FuncBody.stmts b220) s220 3 [] .none .none .none (.str "law_pf0233_01" 414) none (.ref 219) .none 0)) #[]),
    (Obj.mk (.type "tuple") none (.seq #[] 0) #[]),
    (Obj.mk .none none (.fields #[]) #[]),
    (Obj.mk .none none (.func (FuncData.mk "_law_box_right" "_law_box_right" a225 (FuncBody.stmts b225) s225 0 [] .none .none .none .none none .none .none 0)) #[]),
    (Obj.mk (.type "code") none (.fields (List.toArray [(.str "_law_box_right" 476), (.str "_law_box_right" 477), (.str "/claim/cut.py" 478), (.int 131 0), (.int 1 0), (.int 0 0), (.int 0 0), (.int 3 0), (.ref 221), (.bool Bool.true), (.int 181 0), (.ref 222), .none, .none, .none, (.ref 223), (.int 479 0), (.int 131 0), (.str "/claim/cut.py" 480)])) #[]),
    (Obj.mk (.type "function") none (.func (FuncData.mk "_law_box_right" "_law_box_right" a225 (FuncBody.stmts b225) s225 3 [] .none .none .none (.str "law_pf0233_01" 414) none (.ref 224) .none 0)) #[]),
    (Obj.mk (.type "tuple") none (.seq #[] 0) #[]),
    (Obj.mk .none none (.fields #[]) #[]),
    (Obj.mk .none none (.func (FuncData.mk "_law_next" "_law_next" a230 (FuncBody.stmts b230) s230 0 [] .none .none .none .none none .none .none 0)) #[]),
    (Obj.mk (.type "code") none (.fields (List.toArray [(.str "_law_next" 482), (.str "_law_next" 483), (.str "/claim/cut.py" 484), (.int 148 0), (.int 2 0), (.int 0 0), (.int 0 0), (.int 3 0), (.ref 226), (.bool Bool.true), (.int 181 0), (.ref 227), .none, .none, .none, (.ref 228), (.int 485 0), (.int 148 0), (.str "/claim/cut.py" 486)])) #[]),
    (Obj.mk (.type "function") none (.func (FuncData.mk "_law_next" "_law_next" a230 (FuncBody.stmts b230) s230 3 [] .none .none .none (.str "law_pf0233_01" 414) none (.ref 229) .none 0)) #[]),
    (Obj.mk (.type "tuple") none (.seq #[] 0) #[]),
    (Obj.mk .none none (.fields #[]) #[]),
    (Obj.mk (.type "tuple") none (.seq (List.toArray [(.str "one" 491), (.str "other" 492)]) 0) #[]),
    (Obj.mk (.type "tuple") none (.seq #[] 0) #[]),
    (Obj.mk .none none (.func (FuncData.mk "_law_far" "_law_far" a237 (FuncBody.stmts b237) s237 0 [] .none .none .none .none none .none .none 0)) #[]),
    (Obj.mk (.type "code") none (.fields (List.toArray [(.str "_law_far" 488), (.str "_law_far" 489), (.str "/claim/cut.py" 490), (.int 154 0), (.int 2 0), (.int 0 0), (.int 0 0), (.int 3 0), (.ref 231), (.bool Bool.true), (.int 181 0), (.ref 232), .none, (.ref 233), (.ref 234), (.ref 235), (.int 493 0), (.int 154 0), (.str "/claim/cut.py" 494)])) #[]),
    (Obj.mk (.type "function") none (.func (FuncData.mk "_law_far" "_law_far" a237 (FuncBody.stmts b237) s237 3 [] .none .none .none (.str "law_pf0233_01" 414) none (.ref 236) .none 0)) #[]),
    (Obj.mk (.type "tuple") none (.seq #[] 0) #[]),
    (Obj.mk .none none (.fields #[]) #[]),
    (Obj.mk (.type "tuple") none (.seq (List.toArray [(.str "deed" 499)]) 0) #[]),
    (Obj.mk (.type "tuple") none (.seq #[] 0) #[]),
    (Obj.mk .none none (.func (FuncData.mk "_law_is_refused" "_law_is_refused" a244 (FuncBody.stmts b244) s244 0 [] .none .none .none .none none .none .none 0)) #[]),
    (Obj.mk (.type "code") none (.fields (List.toArray [(.str "_law_is_refused" 496), (.str "_law_is_refused" 497), (.str "/claim/cut.py" 498), (.int 156 0), (.int 1 0), (.int 0 0), (.int 0 0), (.int 3 0), (.ref 238), (.bool Bool.true), (.int 181 0), (.ref 239), .none, (.ref 240), (.ref 241), (.ref 242), (.int 500 0), (.int 156 0), (.str "/claim/cut.py" 501)])) #[]),
    (Obj.mk (.type "function") none (.func (FuncData.mk "_law_is_refused" "_law_is_refused" a244 (FuncBody.stmts b244) s244 3 [] .none .none .none (.str "law_pf0233_01" 414) none (.ref 243) .none 0)) #[]),
    (Obj.mk (.type "tuple") none (.seq #[] 0) #[]),
    (Obj.mk .none none (.fields #[]) #[]),
    (Obj.mk .none none (.func (FuncData.mk "law" "law" a249 (FuncBody.stmts b249) s249 0 [] .none .none .none .none none .none .none 0)) #[]),
    (Obj.mk (.type "code") none (.fields (List.toArray [(.str "law" 503), (.str "law" 504), (.str "/claim/cut.py" 505), (.int 162 0), (.int 1 0), (.int 0 0), (.int 0 0), (.int 3 0), (.ref 245), (.bool Bool.true), (.int 181 0), (.ref 246), .none, .none, .none, (.ref 247), (.int 506 0), (.int 162 0), (.str "/claim/cut.py" 507)])) #[]),
    (Obj.mk (.type "function") none (.func (FuncData.mk "law" "law" a249 (FuncBody.stmts b249) s249 3 [] .none .none .none (.str "law_pf0233_01" 414) none (.ref 248) .none 0)) #[])] : List Obj)) rfl rfl rfl rfl rfl rfl rfl rfl rfl rfl rfl rfl rfl rfl
noncomputable def hd.heap0 (P : Params) : Heap := Heap.mk (Array.mk (boot_o_0 P :: (boot_o_1 P :: (hd.H2_0 P ++ (hd.H3_0 P ++ (boot_o_4 P :: (boot_o_5 P :: (boot_o_6 P :: (boot_o_7 P :: (boot_o_8 P :: (boot_o_9 P :: (boot_o_10 P :: (hd.H11_0 P ++ (hd.H12_0 P ++ (hd.H13_0 P ++ []))))))))))))))) {}
noncomputable def hd.heap4 (P : Params) : Heap := Heap.mk (Array.mk (boot_o_0 P :: (boot_o_1 P :: (hd.H2_4 P ++ (hd.H3_4 P ++ (boot_o_4 P :: (boot_o_5 P :: (boot_o_6 P :: (boot_o_7 P :: (boot_o_8 P :: (boot_o_9 P :: (boot_o_10 P :: (hd.H11_0 P ++ (hd.H12_4 P ++ (hd.H13_0 P ++ (hd.H15_4 P ++ (hd.H38_4 P ++ (hd.H39_4 P ++ [])))))))))))))))))) {}
noncomputable def hd.heap5 (P : Params) : Heap := Heap.mk (Array.mk (boot_o_0 P :: (boot_o_1 P :: (hd.H2_4 P ++ (hd.H3_5 P ++ (boot_o_4 P :: (boot_o_5 P :: (boot_o_6 P :: (boot_o_7 P :: (boot_o_8 P :: (boot_o_9 P :: (boot_o_10 P :: (hd.H11_0 P ++ (hd.H12_5 P ++ (hd.H13_0 P ++ (hd.H15_4 P ++ (hd.H38_5 P ++ (hd.H39_4 P ++ (hd.H42_5 P ++ []))))))))))))))))))) {}
noncomputable def hd.heap9 (P : Params) : Heap := Heap.mk (Array.mk (boot_o_0 P :: (boot_o_1 P :: (hd.H2_4 P ++ (hd.H3_9 P ++ (boot_o_4 P :: (boot_o_5 P :: (boot_o_6 P :: (boot_o_7 P :: (boot_o_8 P :: (boot_o_9 P :: (boot_o_10 P :: (hd.H11_0 P ++ (hd.H12_9 P ++ (hd.H13_0 P ++ (hd.H15_4 P ++ (hd.H38_5 P ++ (hd.H39_4 P ++ (hd.H42_5 P ++ (hd.H54_9 P ++ [])))))))))))))))))))) {}
noncomputable def hd.heap16 (P : Params) : Heap := Heap.mk (Array.mk (boot_o_0 P :: (boot_o_1 P :: (hd.H2_4 P ++ (hd.H3_16 P ++ (boot_o_4 P :: (boot_o_5 P :: (boot_o_6 P :: (boot_o_7 P :: (boot_o_8 P :: (boot_o_9 P :: (boot_o_10 P :: (hd.H11_0 P ++ (hd.H12_16 P ++ (hd.H13_0 P ++ (hd.H15_4 P ++ (hd.H38_5 P ++ (hd.H39_4 P ++ (hd.H42_5 P ++ (hd.H54_9 P ++ (hd.H101_16 P ++ []))))))))))))))))))))) {}
noncomputable def hd.heap17 (P : Params) : Heap := Heap.mk (Array.mk (boot_o_0 P :: (boot_o_1 P :: (hd.H2_4 P ++ (hd.H3_17 P ++ (boot_o_4 P :: (boot_o_5 P :: (boot_o_6 P :: (boot_o_7 P :: (boot_o_8 P :: (boot_o_9 P :: (boot_o_10 P :: (hd.H11_0 P ++ (hd.H12_17 P ++ (hd.H13_0 P ++ (hd.H15_4 P ++ (hd.H38_5 P ++ (hd.H39_4 P ++ (hd.H42_5 P ++ (hd.H54_9 P ++ (hd.H101_16 P ++ (hd.H137_17 P ++ [])))))))))))))))))))))) {}
noncomputable def hd.heap32 (P : Params) : Heap := Heap.mk (Array.mk (boot_o_0 P :: (boot_o_1 P :: (hd.H2_4 P ++ (hd.H3_32 P ++ (boot_o_4 P :: (boot_o_5 P :: (boot_o_6 P :: (boot_o_7 P :: (boot_o_8 P :: (boot_o_9 P :: (boot_o_10 P :: (hd.H11_0 P ++ (hd.H12_32 P ++ (hd.H13_0 P ++ (hd.H15_4 P ++ (hd.H38_5 P ++ (hd.H39_4 P ++ (hd.H42_5 P ++ (hd.H54_9 P ++ (hd.H101_16 P ++ (hd.H137_17 P ++ (hd.H172_32 P ++ []))))))))))))))))))))))) {}
noncomputable def hd.env : Env := { scope := RW.prog.main.scope, locals := mainNs, globals := mainNs, cells := [], code := .ref 13, frame := some 14 }
noncomputable abbrev hd.code : Code := .body pwBody hd.env
noncomputable def hd.st (h : Params → Heap) (k : Nat) (w : World) (os : OsState) : Shared := ⟨h w.params, #[], {}, k, os⟩
abbrev hd.l1 : List Stmt := pwBody.take 3
abbrev hd.l2 : List Stmt := (pwBody.drop 3).take 1
abbrev hd.l3 : List Stmt := (pwBody.drop 4).take 4
abbrev hd.l4 : List Stmt := (pwBody.drop 8).take 7
abbrev hd.l5 : List Stmt := (pwBody.drop 15).take 1
abbrev hd.l6 : List Stmt := (pwBody.drop 16).take 15
theorem body_is : hd.l1 ++ (hd.l2 ++ (hd.l3 ++ (hd.l4 ++ (hd.l5 ++ (hd.l6 ++ []))))) = pwBody := by kernel_rfl
theorem run0 : ∀ (w : World) (os : OsState), topGo treeTable RW.prog w 11 (some (.ref 6)) 12 (hd.st boot_heap boot_toks w os) (topStub RW.prog) = some ((hd.st hd.heap0 187 w os), ⟨denote treeTable hd.code, hd.code, ⟨0, 0, 0, 0⟩, [topFrame ⟨0, 0, 0, 0⟩]⟩) := fun w os => by kernel_rfl
theorem runB : ∀ (w : World) (os : OsState), segRun treeTable RW.prog w 11 (some (.ref 6)) 1 1 (hd.st hd.heap0 187 w os) (blockOf pwBody hd.env hd.code ⟨0, 0, 0, 0⟩ [topFrame ⟨0, 0, 0, 0⟩]) = some (.next, (hd.st hd.heap0 187 w os), hd.code, ⟨0, 0, 0, 0⟩) := fun w os => by kernel_rfl
theorem run1 : ∀ (w : World) (os : OsState), segRun treeTable RW.prog w 11 (some (.ref 6)) 1 267 (hd.st hd.heap0 187 w os) (piecesOf hd.l1 hd.env hd.code ⟨0, 0, 0, 0⟩ [topFrame ⟨0, 0, 0, 0⟩]) = some (.next, (hd.st hd.heap4 225 w os), hd.code, ⟨5, 0, 9, 30⟩) := fun w os => by kernel_rfl
theorem run2 : ∀ (w : World) (os : OsState), segRun treeTable RW.prog w 11 (some (.ref 6)) 1 214 (hd.st hd.heap4 225 w os) (piecesOf hd.l2 hd.env hd.code ⟨5, 0, 9, 30⟩ [topFrame ⟨0, 0, 0, 0⟩]) = some (.next, (hd.st hd.heap5 241 w os), hd.code, ⟨10, 0, 11, 8⟩) := fun w os => by kernel_rfl
theorem run3 : ∀ (w : World) (os : OsState), segRun treeTable RW.prog w 11 (some (.ref 6)) 1 387 (hd.st hd.heap5 241 w os) (piecesOf hd.l3 hd.env hd.code ⟨10, 0, 11, 8⟩ [topFrame ⟨0, 0, 0, 0⟩]) = some (.next, (hd.st hd.heap9 310 w os), hd.code, ⟨21, 0, 48, 27⟩) := fun w os => by kernel_rfl
theorem run4 : ∀ (w : World) (os : OsState), segRun treeTable RW.prog w 11 (some (.ref 6)) 1 186 (hd.st hd.heap9 310 w os) (piecesOf hd.l4 hd.env hd.code ⟨21, 0, 48, 27⟩ [topFrame ⟨0, 0, 0, 0⟩]) = some (.next, (hd.st hd.heap16 362 w os), hd.code, ⟨83, 0, 83, 8⟩) := fun w os => by kernel_rfl
theorem run5 : ∀ (w : World) (os : OsState), segRun treeTable RW.prog w 11 (some (.ref 6)) 1 294 (hd.st hd.heap16 362 w os) (piecesOf hd.l5 hd.env hd.code ⟨83, 0, 83, 8⟩ [topFrame ⟨0, 0, 0, 0⟩]) = some (.next, (hd.st hd.heap17 414 w os), hd.code, ⟨84, 0, 95, 16⟩) := fun w os => by kernel_rfl
theorem run6 : ∀ (w : World) (os : OsState), segRun treeTable RW.prog w 11 (some (.ref 6)) 1 391 (hd.st hd.heap17 414 w os) (piecesOf hd.l6 hd.env hd.code ⟨84, 0, 95, 16⟩ [topFrame ⟨0, 0, 0, 0⟩]) = some (.next, (hd.st hd.heap32 509 w os), hd.code, ⟨162, 0, 183, 26⟩) := fun w os => by kernel_rfl
theorem runE : ∀ (w : World) (os : OsState), topRun treeTable RW.prog w 11 (some (.ref 6)) 2 (hd.st hd.heap32 509 w os) ⟨doneF .next, hd.code, ⟨162, 0, 183, 26⟩, [topFrame ⟨0, 0, 0, 0⟩]⟩ = some (hd.st hd.heap32 509 w os) := fun w os => by kernel_rfl
theorem run_all : ∀ (w : World) (os : OsState), topRun treeTable RW.prog w 11 (some (.ref 6)) (12 + (1 + (267 + (214 + (387 + (186 + (294 + (391 + 2)))))))) (hd.st boot_heap boot_toks w os) (topStub RW.prog) = some (hd.st hd.heap32 509 w os) := fun w os => by
  have k := (piece_app (run1 w os) (piece_app (run2 w os) (piece_app (run3 w os) (piece_app (run4 w os) (piece_app (run5 w os) (piece_app (run6 w os) (piece_nil (runE w os))))))))
  rw [body_is] at k
  exact go_top (run0 w os) (piece_block (runB w os) k)
theorem open_all : ∀ w : World, (fencedOpening treeTable RW.prog w 3592).map (fun s => (s.heap, s.gens, s.drawn, s.toks)) = some (boot_heap w.params, Array.mk [], boot_drawn, boot_toks) := boot_open (by kernel_rfl) rfl (fun s => by kernel_rfl)
theorem left_all : LeftO RW.prog Mine.hd.view_39 [] (fun s => xlAt Mine.hd.view_39 [] s && recOk RW.records s) HK.obs HK.val 3592 :=
  LeftO.of_pieces (H₁ := hd.heap32) (gs₁ := #[]) (d₁ := {}) (k₁ := 509) open_all (m₀ := 11) (ann := some (.ref 6)) (fun w => by kernel_rfl) run_all rfl (fun w => funext fun os => by kernel_rfl)
end
section
open PySem PySem.W PyProof.Rows PySem.Calls PyProof.Rows.LCg
theorem dummy : (PySem.Challenge.rw_pf0233_01.Holds → Mine.hd.heap_39 = Mine.hd.heap_39) := by k_fill; intro _; rfl
end
section
open PySem PySem.W PyProof.Rows PySem.Calls PyProof.Rows.LCg
abbrev PR : Program := PySem.Challenge.rw_pf0233_01.row.prog
abbrev Led := List (Addr × Obj)
/-- the paint: a list of two ints, the first not negative -/
def Paint (o : Obj) : Prop := ∃ (x y : Int) (t u : Tok) (n : Nat), o = listOf #[.int x t, .int y u] n ∧ 0 ≤ x
theorem off1_out {D : Addr} {l : Led} (h : Off1 D l) : ∀ q ∈ l, q.1 ≠ D := by
  induction l with
  | nil => intro q hq; exact nomatch hq
  | cons x l ih =>
    obtain ⟨h1, h2⟩ := h
    intro q hq
    rcases List.mem_cons.mp hq with rfl | hq
    · exact h1
    · exact ih h2 q hq
theorem off1_in {D : Addr} {l : Led} (h : ∀ q ∈ l, q.1 ≠ D) : Off1 D l := by
  induction l with
  | nil => trivial
  | cons x l ih => exact ⟨h x (List.mem_cons_self ..), ih fun q hq => h q (List.mem_cons_of_mem _ hq)⟩
theorem allLt_out {D : Addr} {l : Led} (h : AllLt D l) : ∀ q ∈ l, q.1 ≠ D := by
  induction l with
  | nil => intro q hq; exact nomatch hq
  | cons x l ih =>
    obtain ⟨h1, h2⟩ := h
    intro q hq
    rcases List.mem_cons.mp hq with rfl | hq
    · exact Nat.ne_of_lt h1
    · exact ih h2 q hq
theorem allLt_le {D D' : Addr} {l : Led} (h : AllLt D l) (hd : (@LE.le Nat _ D D')) : ∀ q ∈ l, q.1 ≠ D' := by
  induction l with
  | nil => intro q hq; exact nomatch hq
  | cons x l ih =>
    obtain ⟨h1, h2⟩ := h
    intro q hq
    rcases List.mem_cons.mp hq with rfl | hq
    · exact Nat.ne_of_lt (Nat.lt_of_lt_of_le h1 hd)
    · exact ih h2 q hq
theorem allLt_out1 {D : Addr} {l : Led} (h : AllLt D l) : ∀ q ∈ l, q.1 ≠ D + 1 := allLt_le h (Nat.le_succ _)
theorem allLt_out2 {D : Addr} {l : Led} (h : AllLt D l) : ∀ q ∈ l, q.1 ≠ D + 1 + 1 := allLt_le h (Nat.le_add_right D 2)
theorem allLt_out3 {D : Addr} {l : Led} (h : AllLt D l) : ∀ q ∈ l, q.1 ≠ D + 1 + 1 + 1 := allLt_le h (Nat.le_add_right D 3)
abbrev tupObj (its : Array Value) (n : Nat) : Obj := { cls := .type "tuple", data := .seq its n }
abbrev Col := Int × Int × Int
def Col.ok (c : Col) : Prop := (0 ≤ c.1 ∧ c.1 ≤ 250) ∧ (0 ≤ c.2.1 ∧ c.2.1 ≤ 250) ∧ (0 ≤ c.2.2 ∧ c.2.2 ≤ 250)
def IsCol (news : Led) (v : Value) (c : Col) : Prop := ∃ a t1 t2 t3 n, v = .ref a ∧ (a, tupObj #[.int c.1 t1, .int c.2.1 t2, .int c.2.2 t3] n) ∈ news
theorem IsCol.mono {news news' : Led} {v : Value} {c : Col} (h : IsCol news v c) (hs : ∀ q ∈ news, q ∈ news') : IsCol news' v c := by
  obtain ⟨a, t1, t2, t3, n, rfl, hm⟩ := h
  exact ⟨a, t1, t2, t3, n, rfl, hs _ hm⟩
inductive Minus (q : Addr × Obj) : Led → Led → Prop
  | here {r : Led} : Minus q (q :: r) r
  | there {x : Addr × Obj} {r r' : Led} : Minus q r r' → Minus q (x :: r) (x :: r')
theorem Minus.mem {q : Addr × Obj} {l l' : Led} (h : Minus q l l') : q ∈ l ∧ ∀ x ∈ l', x ∈ l := by
  induction h with
  | here => exact ⟨List.mem_cons_self .., fun x hx => List.mem_cons_of_mem _ hx⟩
  | there _ ih =>
    refine ⟨List.mem_cons_of_mem _ ih.1, fun x hx => ?_⟩
    rcases List.mem_cons.mp hx with rfl | hx
    · exact List.mem_cons_self ..
    · exact List.mem_cons_of_mem _ (ih.2 x hx)
theorem compEnd_my {h₀ : Heap} {L I C D : Addr} {m : Str → Option Value} {s₁ : Shared} {oI oC oD : Obj} {S : Led → Prop} {rest : Value → Led → Prop} {y : Value} {h' : Heap} {tk : Nat} {all l1 l2 l3 : Led}
    (F : Fr h₀ L h' m) (N : News h₀ L h' all) (m1 : Minus (I, oI) all l1) (m2 : Minus (C, oC) l1 l2) (m3 : Minus (D, oD) l2 l3) (off : Off3 I C D l3) (hS : S l3) (r : rest y l3) :
    CompEnd h₀ L m s₁ I oI C oC D oD S rest y { s₁ with heap := h', toks := tk } := by
  refine LCg.CompEnd.intro F N l3 (fun x hx => ?_) off hS r
  rcases List.mem_cons.mp hx with rfl | hx
  · exact m1.mem.1
  rcases List.mem_cons.mp hx with rfl | hx
  · exact m1.mem.2 _ m2.mem.1
  rcases List.mem_cons.mp hx with rfl | hx
  · exact m1.mem.2 _ (m2.mem.2 _ m3.mem.1)
  · exact m1.mem.2 _ (m2.mem.2 _ (m3.mem.2 _ hx))
/-- a ledger with one entry that will turn: that entry, and the rest -/
theorem updF_rest {d : Addr} {o : Obj} {l : Led} {g : Obj → Led} {h₀ h : Heap} {L : Addr} (U : UpdF d o l g) (N : News h₀ L h l) :
    ∃ rest, News h₀ L h ((d, o) :: rest) ∧ (∀ q ∈ rest, q.1 ≠ d) ∧ (∀ q ∈ rest, q ∈ l) ∧ ∀ o' q, q ∈ g o' ↔ q = (d, o') ∨ q ∈ rest := by
  obtain ⟨pre, post, rfl, hg, h1, h2⟩ := U.split
  refine ⟨pre ++ post, fun q hq => N q ?_, fun q hq => (List.mem_append.mp hq).elim (h1 q) (h2 q), fun q hq => ?_, fun o' q => ?_⟩
  · simp at hq ⊢; rcases hq with h | h | h <;> simp [h]
  · simp at hq ⊢; rcases hq with h | h <;> simp [h]
  · rw [hg]; simp; constructor
    · rintro (h | h | h) <;> simp [h]
    · rintro (h | h | h) <;> simp [h]
theorem news_sub {h₀ h : Heap} {L : Addr} {l l' : Led} (N : News h₀ L h l) (hs : ∀ q ∈ l', q ∈ l) : News h₀ L h l' := fun q hq => N q (hs q hq)
theorem news_put {h₀ h : Heap} {L : Addr} {l l' : Led} {x : Addr × Obj} (N : News h₀ L h l) (hx : x ∈ l) (hs : ∀ q ∈ l', q ∈ l) : News h₀ L h (x :: l') := fun q hq => by
  rcases List.mem_cons.mp hq with rfl | hq
  · exact N _ hx
  · exact N _ (hs q hq)
theorem news_swap2 {h₀ h : Heap} {L : Addr} {x y z : Addr × Obj} {r : Led} (N : News h₀ L h (x :: y :: z :: r)) : News h₀ L h (x :: z :: y :: r) := fun q hq => N q (by simp only [List.mem_cons] at hq ⊢; rcases hq with h | h | h | h <;> simp [h])
/-- a word that the walk does not open -/
def Hold (P : Prop) : Prop := P
end
section
open PySem PySem.W PyProof.Rows PySem.Calls PyProof.Rows.LCg
theorem pick_val {B0 B1 B2 Bp : Addr} {v : Value} {j : Nat} (h1 : ([.ref B0, .ref B1, .ref B2] : List Value)[j]? = some v) (h2 : ([B0, B1, B2] : List Addr)[j]? = some Bp) : v = .ref Bp := by
  match j with
  | 0 => cases h1; cases h2; rfl
  | 1 => cases h1; cases h2; rfl
  | 2 => cases h1; cases h2; rfl
  | j + 3 => cases h1
theorem sk_and {p q c : Prop} (k : q → c) : p ∧ q → c := fun h => k h.2
theorem pick_lt {a b x : Nat} {r : Prop} (h : x < b ∧ r) (k : x < b ∧ r → a < b) : a < b := k h
theorem pick_ne {a b x : Nat} {r : Prop} (h : x ≠ b ∧ r) (k : x ≠ b ∧ r → a ≠ b) : a ≠ b := k h
theorem pick_n1 {a b x : Nat} {r z : Prop} (h : (x ≠ b ∧ z) ∧ r) (k : (x ≠ b ∧ z) ∧ r → a ≠ b) : a ≠ b := k h
theorem pick_n2 {a b x i : Nat} {r z : Prop} (h : (x ≠ i ∧ x ≠ b ∧ z) ∧ r) (k : (x ≠ i ∧ x ≠ b ∧ z) ∧ r → a ≠ b) : a ≠ b := k h
theorem pick_n3 {a b x i c : Nat} {r : Prop} (h : (x ≠ i ∧ x ≠ c ∧ x ≠ b) ∧ r) (k : (x ≠ i ∧ x ≠ c ∧ x ≠ b) ∧ r → a ≠ b) : a ≠ b := k h
theorem pick_n4 {a b x i c : Nat} {r z : Prop} (h : (x ≠ i ∧ x ≠ c ∧ x ≠ b ∧ z) ∧ r) (k : (x ≠ i ∧ x ≠ c ∧ x ≠ b ∧ z) ∧ r → a ≠ b) : a ≠ b := k h
theorem pick_n5 {a b x i c y : Nat} {r : Prop} (h : (x ≠ i ∧ x ≠ c ∧ x ≠ y ∧ x ≠ b) ∧ r) (k : (x ≠ i ∧ x ≠ c ∧ x ≠ y ∧ x ≠ b) ∧ r → a ≠ b) : a ≠ b := k h
theorem sk_1221 {p q t u r : Prop} (h : (p ∧ q ∧ t ∧ u) ∧ r) : t := h.1.2.2.1
theorem sk_1222 {p q t u r : Prop} (h : (p ∧ q ∧ t ∧ u) ∧ r) : u := h.1.2.2.2
theorem sk_11 {p q r : Prop} (h : (p ∧ q) ∧ r) : p := h.1.1
theorem sk_121 {p q t r : Prop} (h : (p ∧ q ∧ t) ∧ r) : q := h.1.2.1
theorem sk_122 {p q t r : Prop} (h : (p ∧ q ∧ t) ∧ r) : t := h.1.2.2
end
section
open PySem PySem.W PyProof.Rows PySem.Calls PyProof.Rows.LCg
/-! ## sorting tuples of three ints: some order, whichever -/
def KasAll {α : Type} (P : α → Bool) : KasT α → Bool
  | .ret a => P a
  | .ask _ _ k => KasAll P (k true) && KasAll P (k false)
theorem kasAll_wp {α : Type} {P : α → Bool} {cmp : Nat → Nat → (Bool → Shared → Prop) → Shared → Prop} {Q : α → Shared → Prop} {s : Shared}
    (hc : ∀ i j C, (∀ b, C b s) → cmp i j C s) (hq : ∀ a, P a = true → Q a s) : ∀ t : KasT α, KasAll P t = true → t.kasWp cmp Q s
  | .ret a, h => hq a h
  | .ask i j k, h => by
    have h' := Bool.and_eq_true_iff.mp h
    refine hc i j _ fun b => ?_
    cases b with
    | true => exact kasAll_wp hc hq _ h'.1
    | false => exact kasAll_wp hc hq _ h'.2
theorem kas_perm2 : KasAll (fun p : Array Nat => decide (p.toList.Perm (List.range 2))) (kas_sort 2) = true := by decide +kernel
theorem kas_perm3 : KasAll (fun p : Array Nat => decide (p.toList.Perm (List.range 3))) (kas_sort 3) = true := by decide +kernel
theorem kas_perm4 : KasAll (fun p : Array Nat => decide (p.toList.Perm (List.range 4))) (kas_sort 4) = true := by decide +kernel
theorem kas_perm {n : Nat} (h2 : 2 ≤ n) (h4 : n ≤ 4) : KasAll (fun p : Array Nat => decide (p.toList.Perm (List.range n))) (kas_sort n) = true := by
  have : n = 2 ∨ n = 3 ∨ n = 4 := by omega
  rcases this with rfl | rfl | rfl
  · exact kas_perm2
  · exact kas_perm3
  · exact kas_perm4
theorem picks_perm {α : Type} (d : α) (vs : List α) {p : List Nat} (h : p.Perm (List.range vs.length)) : (p.map fun i => vs.getD i d).Perm vs := by
  have h1 := h.map (fun i => vs.getD i d)
  have h2 : (List.range vs.length).map (fun i => vs.getD i d) = vs := by
    refine List.ext_getElem (by simp) fun i h1 h2 => ?_
    simp at h1
    simp [h1]
  rwa [h2] at h1
/-- as KasAll, the places asked for within -/
def KasIn {α : Type} (n : Nat) : KasT α → Bool
  | .ret _ => true
  | .ask i j k => decide (i < n) && decide (j < n) && KasIn n (k true) && KasIn n (k false)
theorem kasIn_wp {α : Type} {n : Nat} {P : α → Bool} {cmp : Nat → Nat → (Bool → Shared → Prop) → Shared → Prop} {Q : α → Shared → Prop} {s : Shared}
    (hc : ∀ i j C, i < n → j < n → (∀ b, C b s) → cmp i j C s) (hq : ∀ a, P a = true → Q a s) : ∀ t : KasT α, KasAll P t = true → KasIn n t = true → t.kasWp cmp Q s
  | .ret a, h, _ => hq a h
  | .ask i j k, h, hi => by
    have h' := Bool.and_eq_true_iff.mp h
    simp only [KasIn, Bool.and_eq_true, decide_eq_true_eq] at hi
    refine hc i j _ hi.1.1.1 hi.1.1.2 fun b => ?_
    cases b with
    | true => exact kasIn_wp hc hq _ h'.1 hi.1.2
    | false => exact kasIn_wp hc hq _ h'.2 hi.2
theorem kas_in {n : Nat} (h2 : 2 ≤ n) (h4 : n ≤ 4) : KasIn n (kas_sort n) = true := by
  have : n = 2 ∨ n = 3 ∨ n = 4 := by omega
  rcases this with rfl | rfl | rfl <;> decide +kernel
/-- every value is a tuple of three ints, in the ledger -/
def Tups (kn : Led) (vs : List Value) : Prop := ∀ v ∈ vs, ∃ (a : Addr) (c : Col) (t1 t2 t3 : Tok) (n : Nat), v = .ref a ∧ (a, tupObj #[.int c.1 t1, .int c.2.1 t2, .int c.2.2 t3] n) ∈ kn
section
variable {w : World} {A : Around} {E : Value → Shared → Prop} {s : Shared} {h₀ : Heap} {L : Addr} {m : Str → Option Value} {news kn : Led}
theorem oneLt_any {fl : Bool} {x y : Int} {t u : Tok} {C : Bool → Shared → Prop} (hC : ∀ b, C b s) : wpAny (model PR w) A (oneLt' fl (.int x t) (.int y u)) C E s := by
  cases fl with
  | true => exact oneLt_int (hC _)
  | false => exact kat_one _ _ (lt_int (by exact hC _))
theorem keyLt_tups {b : Bool} {x y : Addr} {c e : Col} {t1 t2 t3 u1 u2 u3 : Tok} {n k : Nat} {C : Bool → Shared → Prop}
    (hx : s.heap.get? x = some (tupObj #[.int c.1 t1, .int c.2.1 t2, .int c.2.2 t3] n)) (hy : s.heap.get? y = some (tupObj #[.int e.1 u1, .int e.2.1 u2, .int e.2.2 u3] k))
    (hC : ∀ b, C b s) : wpAny (model PR w) A (keyLt' (tuples' b) (.ref x) (.ref y)) C E s := by
  refine kat_lt hx rfl hy rfl ?_
  have go : ∀ (r : List (Value × Value)) (p q : Int) (t u : Tok) (i : Nat), KatLex PR w A b (decide ((3 : Nat) < 3)) C r (i + 1) s → KatLex PR w A b (decide ((3 : Nat) < 3)) C ((.int p t, .int q u) :: r) i s := by
    intro r p q t u i hr
    refine kat_cons (wpAny_eqBool_int ?_)
    exact kat_go (fun _ => kat_yes hr) (fun _ => kat_no (oneLt_any hC))
  exact go _ _ _ _ _ _ (go _ _ _ _ _ _ (go _ _ _ _ _ _ (kat_nil (hC _))))
end
theorem tups_keys {kn : Led} {h₀ h : Heap} {L : Addr} {news : Led} (N : News h₀ L h news) (hk : ∀ q ∈ kn, q ∈ news) : ∀ {vs : List Value}, Tups kn vs →
    ∃ fs, fs.length = vs.length ∧ KatTups h vs fs ∧ ∀ v ∈ fs, ∃ k t, v = .int k t
  | [], _ => ⟨[], rfl, KatTups.nil, fun _ hv => nomatch hv⟩
  | v :: vs, T => by
    obtain ⟨fs, h1, h2, h3⟩ := tups_keys N hk (vs := vs) fun u hu => T u (List.mem_cons_of_mem _ hu)
    obtain ⟨a, c, t1, t2, t3, n, rfl, hm⟩ := T v (List.mem_cons_self ..)
    refine ⟨.int c.1 t1 :: fs, by simp [h1], KatTups.cons (N _ (hk _ hm)).1 rfl rfl rfl h2, fun u hu => ?_⟩
    rcases List.mem_cons.mp hu with rfl | hu
    · exact ⟨_, _, rfl⟩
    · exact h3 u hu
section
variable {w : World} {A : Around} {E : Value → Shared → Prop} {s : Shared} {h₀ : Heap} {L D : Addr} {m : Str → Option Value} {news kn : Led} {vs : List Value} {n : Nat} {g : Obj → Led} {Q : Value → Shared → Prop}
theorem sort_many (F : Fr h₀ L s.heap m) (N : News h₀ L s.heap news) (U : UpdF D (listOf vs.toArray n) news g) (hk : ∀ o', ∀ q ∈ kn, q ∈ g o') (T : Tups kn vs) (h2 : 2 ≤ vs.length) (h4 : vs.length ≤ 4)
    (hret : ∀ out c h', out.Perm vs → Fr h₀ L h' m → News h₀ L h' (g (listOf (List.toArray out) c)) → Q .none { s with heap := h' }) :
    wpAny (model PR w) A (call (.builtin "list.sort") [.ref D]) Q E s := by
  refine kat_lsort (vs := vs) F N U rfl h2 (by omega) fun e1 h' F' N' => ?_
  obtain ⟨fs, e, t, hf⟩ := tups_keys N' (hk _) T
  refine kat_kind (T := .type "int") t (by omega) (fun v hv => ?_) (by decide) ?_
  · obtain ⟨k, u, rfl⟩ := hf v hv
    exact Looks.of_pure rfl
  refine kasIn_wp (n := vs.length) (P := fun p : Array Nat => decide (p.toList.Perm (List.range vs.length))) (fun i j C hi hj hC => ?_) (fun p hp => ?_) _ (kas_perm h2 h4) (kas_in h2 h4)
  · unfold kas_ask
    have ei : vs.getD i Value.none = vs[i] := by simp [hi]
    have ej : vs.getD j Value.none = vs[j] := by simp [hj]
    rw [ei, ej]
    obtain ⟨x, c, t1, t2, t3, k, ex, hx⟩ := T _ (List.getElem_mem hi)
    obtain ⟨y, d, u1, u2, u3, l, ey, hy⟩ := T _ (List.getElem_mem hj)
    rw [ex, ey]
    exact keyLt_tups (N' _ (hk _ _ hx)).1 (N' _ (hk _ _ hy)).1 hC
  · obtain ⟨pre, post, _, hg, x1, x2⟩ := U.split
    have U' : UpdF D (seqObj "list" #[] e1) (g (seqObj "list" #[] e1)) g := by
      rw [hg]
      have : ∀ (l : Led) (q : ∀ p ∈ l, p.1 ≠ D), UpdF D (seqObj "list" #[] e1) (l ++ (D, seqObj "list" #[] e1) :: post) (fun o' => l ++ (D, o') :: post) := by
        intro l
        induction l with
        | nil => intro _; exact UpdF.head x2
        | cons p l ih => intro q; exact UpdF.tail (q p (List.mem_cons_self ..)) (ih fun p hp => q p (List.mem_cons_of_mem _ hp))
      have e := this pre x1
      have eg : g = fun o' => pre ++ (D, o') :: post := funext hg
      rw [eg]
      exact e
    exact KasFin.intro F' N' U' fun h'' c F'' N'' => hret _ c h'' (picks_perm Value.none vs (of_decide_eq_true hp)) F'' N''
theorem sort_one {v : Value} (F : Fr h₀ L s.heap m) (N : News h₀ L s.heap news) (U : UpdF D (listOf #[v] n) news g)
    (hret : ∀ c h', Fr h₀ L h' m → News h₀ L h' (g (listOf #[v] c)) → Q .none { s with heap := h' }) :
    wpAny (model PR w) A (call (.builtin "list.sort") [.ref D]) Q E s := by
  obtain ⟨pre, post, rfl, hg, x1, x2⟩ := U.split
  have z := N (D, listOf #[v] n) (List.mem_append_right _ (.head _))
  refine wpAny_call_entry slot_list_sort ⟨_, z.1, rfl⟩ entry_list_sort ?_ (args_list_sort _)
  rw [list_sort_plain]
  have hlt : D < s.heap.objs.size := Heap.lt_size z.1
  obtain ⟨e1, ho1⟩ : ∃ e1, (s.heap.update D (Obj.mapSeq fun _ => (#[] : Array Value))).get? D = some (seqObj "list" #[] e1) := ⟨_, get?_update_seq z.1 fun _ => #[]⟩
  refine wpAny_bind (listItems_at z.1 rfl (wpAny_bind (listUpdate_at z.1 rfl ?_ (by rw [sizeLine_eq]; show 1 ≤ _; omega) (Nat.zero_le _))))
  refine wpAny_bind (seqEpoch_at ho1 rfl ?_)
  refine wpAny_bind (wpAny_newTuple ?_ (by rw [sizeLine_eq]; show 1 ≤ _; omega))
  refine wpAny_bind (wpAny_newList ?_ (Nat.zero_le _))
  refine wpAny_holding ?_
  have hn2 : (#[v] : Array Value).size < 2 := by show 1 < 2; omega
  rw [if_pos hn2, if_pos hn2]
  refine wpAny_bind (wpAny_pure ?_)
  dsimp only
  rw [StateT.run_pure]
  refine wpAny_bind (wpAny_pure ?_)
  dsimp only
  have s1 := Heap.SameBut.update s.heap D (Obj.mapSeq fun _ => (#[] : Array Value))
  generalize hH : s.heap.update D (Obj.mapSeq fun _ => (#[] : Array Value)) = H at s1 ho1 ⊢
  have hsz : H.objs.size = s.heap.objs.size := by rw [← hH, Heap.size_update]
  have up : ∀ {b : Addr} {o : Obj}, H.get? b = some o → ((H.push (seqObj "tuple" #[v] 0)).push (seqObj "list" #[] 0)).get? b = some o := fun e => Heap.get?_push_of_some _ (Heap.get?_push_of_some _ e)
  generalize hH2 : (H.push (seqObj "tuple" #[v] 0)).push (seqObj "list" #[] 0) = H2 at up
  have ho2 := up ho1
  have eo : Array.map (fun x : Value × Value => x.snd) (arrOf (SortSt.mk' general' (#[v].zip #[v]) #[] 7 none)) = #[v] := by show Array.map (fun x : Value × Value => x.snd) (#[v].zip #[v]) = #[v]; simp
  rw [eo]
  refine wpAny_bind (seqEpoch_at ho2 rfl ?_)
  refine wpAny_bind (listUpdate_at ho2 rfl ?_ (Nat.zero_le _) (by rw [sizeLine_eq]; show 1 ≤ _; omega))
  simp only [bne_self_eq_false, Bool.false_eq_true, if_false]
  have s2 := Heap.SameBut.update H2 D (Obj.mapSeq fun _ => (#[v] : Array Value))
  obtain ⟨c2, hc2⟩ : ∃ c2, (H2.update D (Obj.mapSeq fun _ => (#[v] : Array Value))).get? D = some (seqObj "list" #[v] c2) := ⟨_, get?_update_seq ho2 fun _ => #[v]⟩
  have keep : ∀ {b : Addr} {o : Obj}, b ≠ D → s.heap.get? b = some o → (H2.update D (Obj.mapSeq fun _ => (#[v] : Array Value))).get? b = some o := fun hb e => s2.extBut _ _ hb (up (s1.extBut _ _ hb e))
  refine wpAny_pure ⟨.none, rfl, hret c2 _ ?_ ?_⟩
  · exact ⟨F.ns.at' fun o e => keep (Ne.symm z.2.1) e, fun b o e => keep (fun q => by rw [q, z.2.2] at e; cases e) (F.keep b o e), F.above⟩
  · rw [hg]
    intro q hq
    rcases List.mem_append.mp hq with hq | hq
    · have y := N q (List.mem_append_left _ hq); exact ⟨keep (x1 q hq) y.1, y.2⟩
    · rcases List.mem_cons.mp hq with rfl | hq
      · exact ⟨hc2, z.2⟩
      · have y := N q (List.mem_append_right _ (.tail _ hq)); exact ⟨keep (x2 q hq) y.1, y.2⟩
end
end
section
open PySem PySem.W PyProof.Rows PySem.Calls PyProof.Rows.LCg
/-! ## a dict whose keys are objects: its iterator -/
def RawDict (h : Heap) (d : Addr) (es : Array DictEntry) (ep : Nat) : Prop := ∃ o, h.get? d = some o ∧ o.ExactDict ∧ o.data = .dict es ep
theorem RawDict.at' {h h' : Heap} {d : Addr} {es : Array DictEntry} {ep : Nat} (x : RawDict h d es ep) (e : ∀ o, h.get? d = some o → h'.get? d = some o) : RawDict h' d es ep :=
  let ⟨o, ho, r⟩ := x; ⟨o, e o ho, r⟩
section
variable {w : World} {A : Around} {E : Value → Shared → Prop} {s : Shared} {d it : Addr} {es : Array DictEntry} {ep i : Nat}
theorem RawDict.typeIs (x : RawDict s.heap d es ep) : s.TypeIs (.ref d) "dict" := let ⟨o, ho, hc, _⟩ := x; ⟨o, ho, hc.1⟩
theorem raw_iter {Q : Value → Shared → Prop} (hd : (d == sysModules) = false) (hm : RawDict s.heap d es ep)
    (hQ : Q (.ref s.heap.objs.size) { s with heap := s.heap.push { cls := .type "dict_keyiterator", data := .fields #[.ref d, .int 0 0, .int es.size 0, .int ep 0] } }) :
    wpAny (model PR w) A (pyIter (.ref d)) Q E s := by
  have hT := hm.typeIs
  obtain ⟨o, ho, hc, hdat⟩ := hm
  refine wpAny_pyIter_slot hT PySem.F.slot_dict_iter (wpAny_call_entry PySem.F.slot_dict_iter hT PySem.F.entry_dict_iter ?_ (PySem.F.args_dict_iter_1 _))
  unfold Builtin.«dict.__iter__» Builtin.Dict.dictSlotNone
  refine wpAny_bind (wpAny_bind (wpAny_notOrdered_dict hT (wpAny_pure (a := Value.ref d) ?_)))
  show wpAny _ _ (Builtin.Dict.showsAll d >>= _) _ _ s
  unfold Builtin.Dict.showsAll
  rw [if_neg (by rw [hd]; exact Bool.false_ne_true)]
  refine wpAny_bind (wpAny_pure (wpAny_bind (wpAny_dictEntries ho hdat (wpAny_bind (wpAny_dictEpoch ho hdat ?_)))))
  refine wpAny_bind (wpAny_newObj_type (wpAny_pure ⟨_, rfl, "dict_keyiterator", _, ⟨_, Heap.get?_push_size _ rfl, rfl⟩, PySem.F.slot_dict_keyiterator_next.lookup, ?_⟩))
  simpa [rawInt] using hQ
theorem raw_next {Q : Option Value → Shared → Prop} (hh : A.handled = none) (hit : s.heap.IsKeyIter it d i es.size ep) (hm : RawDict s.heap d es ep)
    (h1 : ∀ (hi : i < es.size) h', h'.IsKeyIter it d (i + 1) es.size ep → Heap.SameBut it s.heap h' → Q (some es[i].key) { s with heap := h' })
    (h2 : es.size ≤ i → ∀ h', Heap.ExtBut it s.heap h' → Q none { s with heap := h' }) : wpAny (model PR w) A (pyNext (.ref it)) Q E s := by
  have hit0 := hit
  obtain ⟨o, ho, hc, hf⟩ := hit
  obtain ⟨od, hod, _, hdd⟩ := hm
  have hT := hit0.typeIs
  unfold pyNext
  refine wpAny_bind (wpAny_attempt (wpAny_callSpecial?_slot (name := Str.ofString "__next__") hT PySem.F.slot_dict_keyiterator_next
    (wpAny_call_entry PySem.F.slot_dict_keyiterator_next hT PySem.F.entry_dict_keyiterator_next ?_ (PySem.F.args_dict_keyiterator_next_1 _))))
  refine wpAny_bind (wpAny_pure (wpAny_bind (wpAny_bind ?_)))
  first | refine wpAny_bind (wpAny_typeNameOfWhole_keyiter hT (wpAny_pure ?_)) | refine wpAny_bind (wpAny_typeNameOf_keyiter hT (wpAny_pure ?_))
  refine wpAny_bind (wpAny_fieldsOf ho hf ?_)
  have hown : Builtin.Dict_items.ownsTuple "dict_keyiterator" = false := by decide
  simp only [hown, Bool.false_eq_true, if_false]
  show wpAny _ _ (if (Value.ref d == Value.none) = true then _ else _) _ _ s
  rw [if_neg (show ¬ ((Value.ref d == Value.none) = true) from Bool.false_ne_true)]
  refine wpAny_bind (wpAny_pure (wpAny_bind (wpAny_dictEntries hod hdd ?_)))
  rw [if_neg (by simp)]
  refine wpAny_bind (wpAny_pure (wpAny_bind (wpAny_dictEpoch hod hdd ?_)))
  rw [if_neg (by simp)]
  refine wpAny_pure ?_
  by_cases hi : i < es.size
  · simp only [show ¬ ((i : Int) < 0) from by omega, if_false, Int.toNat_natCast, Array.getElem?_eq_getElem hi]
    refine wpAny_bind ?_
    first | refine wpAny_bind (wpAny_typeNameOfWhole_keyiter hT (wpAny_pure ?_)) | refine wpAny_bind (wpAny_typeNameOf_keyiter hT (wpAny_pure ?_))
    refine wpAny_bind (wpAny_isOneOf_keyiter hT ?_)
    show wpAny _ _ (setField (.ref it) 1 (rawInt ((i : Int) + 1)) >>= _) _ _ s
    refine wpAny_bind (wpAny_setField ho hf (by simp) ?_)
    have hit' : (s.heap.update it (Obj.mapFields (·.setIfInBounds 1 (rawInt ((i : Int) + 1))))).IsKeyIter it d (i + 1) es.size ep :=
      ⟨_, Heap.get?_update_self _ ho (Obj.isFreed_of_fields (Obj.data_mapFields hf _)), (Obj.cls_mapFields ..).trans hc, by rw [Obj.data_mapFields hf]; simp [rawInt]⟩
    refine wpAny_bind (wpAny_holding ?_)
    refine wpAny_bind (wpAny_isOneOf_keyiter (s := { s with heap := s.heap.update it (Obj.mapFields (·.setIfInBounds 1 (rawInt ((i : Int) + 1)))) }) hit'.typeIs ?_)
    show wpAny _ _ (pure es[i].key) _ _ _
    exact wpAny_pure (wpAny_pure ⟨_, rfl, wpAny_pure (h1 hi _ hit' (Heap.SameBut.update ..))⟩)
  · have hge : es.size ≤ i := Nat.le_of_not_lt hi
    simp only [show ¬ ((i : Int) < 0) from by omega, if_false, Int.toNat_natCast, Array.getElem?_eq_none hge]
    refine wpAny_bind ?_
    first | refine wpAny_bind (wpAny_typeNameOfWhole_keyiter hT (wpAny_pure ?_)) | refine wpAny_bind (wpAny_typeNameOf_keyiter hT (wpAny_pure ?_))
    show wpAny _ _ (setField (.ref it) 0 .none >>= _) _ _ s
    refine wpAny_bind (wpAny_setField ho hf (by simp) ?_)
    show wpAny _ _ (newExc (.type "StopIteration") [] >>= _) _ _ _
    refine wpAny_bind ?_
    simp only [newExc, newTuple]
    refine wpAny_bind (wpAny_newObj_type ?_ (by size_fits))
    refine wpAny_bind (m := firstArgMember _ _) (wpAny_of_eq (a := Value.none) (by first | rfl | (simp only [firstArgMember]; rfl)) ?_)
    refine wpAny_newObj_type ?_ (by size_fits)
    simp only [raiseNew]
    refine wpAny_bind (wpAny_handled ?_)
    rw [show A.in1.handled = none from hh]
    refine wpAny_bind (wpAny_pure (wpAny_throw ?_))
    refine wpAny_bind (wpAny_isInstance (T := "StopIteration") (b := true) ⟨_, Heap.get?_push_size _ rfl, rfl⟩ isSubtype_stop ?_)
    exact wpAny_pure (h2 hge _ (((Heap.SameBut.update ..).extBut.push _).push _))
theorem raw_walks (hh : A.handled = none) (I d : Addr) (hne : d ≠ I) (es : Array DictEntry) (ep : Nat) :
    Walks PR w A I [I, d] [I] es.size (fun i v => ∃ e, es[i]? = some e ∧ v = e.key) (fun i h => h.IsKeyIter I d i es.size ep ∧ RawDict h d es ep) where
  sub := fun b hb => by simp at hb; simp [hb]
  frame := fun _ _ _ st hk => ⟨st.1.at fun o e => hk I (by simp) o e, st.2.at' fun o e => hk d (by simp) o e⟩
  item := fun i s Q E hi st hQ => by
    refine raw_next hh st.1 st.2 (fun hi' h' hit' hs' => ?_) fun hge => absurd hi (Nat.not_lt.mpr hge)
    exact hQ _ h' s.toks ⟨es[i], by simp [hi], rfl⟩ ⟨hit', st.2.at' fun o e => hs'.extBut d o hne e⟩ fun b o hb e => hs'.extBut b o (fun h => hb (by simp [h])) e
  done := fun s Q E st hQ => raw_next hh st.1 st.2 (fun hi => absurd hi (Nat.lt_irrefl _)) fun _ h' he' => hQ h' s.toks fun b o hb e => he' b o (fun h => hb (by simp [h])) e
  self := fun _ _ _ _ st hQ => wpAny_pyIter_keyiter st.1 hQ
theorem raw_src (lo : (d == sysModules) = false) : KdlSrc PR w "dict" d d es.size (fun i v => ∃ e, es[i]? = some e ∧ v = e.key) (fun h => RawDict h d es ep) where
  type := fun _ hm => hm.typeIs
  there := fun _ hm => let ⟨_, ho, _⟩ := hm; ⟨Heap.lt_size ho, Heap.lt_size ho⟩
  keep := fun _ _ hm hk => hm.at' fun o e => hk d (.inl rfl) o e
  notList := by decide
  notTuple := by decide
  hint := fun _ _ _ _ hm hq => kdl_hint_dict hm.typeIs hq
  iter := fun _ s hh hm => ⟨_, _, (fun _ _ hq => raw_iter lo hm hq), raw_walks hh _ d (let ⟨_, ho, _⟩ := hm; Nat.ne_of_lt (Heap.lt_size ho)) es ep,
    ⟨⟨_, Heap.get?_push_size _ rfl, rfl, rfl⟩, hm.at' fun _ e => Heap.get?_push_of_some _ e⟩⟩
end
end
section
open PySem PySem.W PyProof.Rows PySem.Calls PyProof.Rows.LCg
/-! ## the dict of counts: keyed by colours -/
def keyOf (c : Col) : List Int := [c.1, c.2.1, c.2.2]
abbrev hk (w : World) : HeapKind PR w (List Int) := tupleKind (intKind PR w)
theorem colKey {w : World} {h : Heap} {a : Addr} {c : Col} {t1 t2 t3 : Tok} {n : Nat} (ho : h.get? a = some (tupObj #[.int c.1 t1, .int c.2.1 t2, .int c.2.2 t3] n)) : IsTupleKey (intKind PR w) h (keyOf c) a :=
  ⟨_, _, n, ho, rfl, rfl, .cons (by simp [intKind, Value.isInt]) (.cons (by simp [intKind, Value.isInt]) (.cons (by simp [intKind, Value.isInt]) .nil))⟩
abbrev KeyRow := List Int × Addr × Value
structure Tab (w : World) (kn : Led) (o : Obj) (xs : List KeyRow) : Prop where
  ex : o.ExactDict
  data : ∃ es ep, o.data = .dict es ep ∧ es.toList = xs.map (entryOfKey (hk w))
  keys : ∀ x ∈ xs, ∃ (c : Col) (t1 t2 t3 : Tok) (n : Nat), x.1 = keyOf c ∧ (x.2.1, tupObj #[.int c.1 t1, .int c.2.1 t2, .int c.2.2 t3] n) ∈ kn ∧ c.ok ∧ ∃ k t, x.2.2 = .int k t ∧ 1 ≤ k ∧ k ≤ 5
  nodup : (xs.map (·.1)).Nodup
theorem Tab.empty (w : World) (kn : Led) : Tab w kn { cls := .type "dict", data := .dict #[] } [] :=
  ⟨⟨rfl, rfl, rfl⟩, ⟨#[], 0, rfl, rfl⟩, fun _ hx => (nomatch hx), List.nodup_nil⟩
theorem Tab.mono {w : World} {kn kn' : Led} {o : Obj} {xs : List KeyRow} (T : Tab w kn o xs) (hs : ∀ q ∈ kn, q ∈ kn') : Tab w kn' o xs :=
  ⟨T.ex, T.data, fun x hx => let ⟨c, t1, t2, t3, n, e, hm, r⟩ := T.keys x hx; ⟨c, t1, t2, t3, n, e, hs _ hm, r⟩, T.nodup⟩
section
variable {w : World} {A : Around} {E : Value → Shared → Prop} {s : Shared} {h₀ h : Heap} {L d ka : Addr} {m : Str → Option Value} {news kn : Led} {o : Obj} {xs : List KeyRow} {g : Obj → Led} {c : Col}
theorem Tab.heap (T : Tab w kn o xs) (N : News h₀ L h news) (hd : (d, o) ∈ news) (hs : ∀ q ∈ kn, q ∈ news) : h.DictOfH (hk w) d xs := by
  obtain ⟨es, ep, e1, e2⟩ := T.data
  refine ⟨o, es, ep, (N _ hd).1, T.ex, e1, e2, fun x hx => ?_, T.nodup⟩
  obtain ⟨c, t1, t2, t3, n, e, hm, _⟩ := T.keys x hx
  rw [e]
  exact colKey (N _ (hs _ hm)).1
theorem storedH_len (xs : List KeyRow) (k : List Int) (a : Addr) (v : Value) : (storedH xs k a v).length ≤ xs.length + 1 ∧ storedH xs k a v ≠ [] := by
  unfold storedH
  split
  · rename_i h
    refine ⟨by simp, fun e => ?_⟩
    have : xs = [] := by simpa using e
    subst this
    simp [atKey] at h
  · exact ⟨by simp, by simp⟩
theorem mem_stored {xs : List KeyRow} {k : List Int} {a : Addr} {v : Value} {x : KeyRow} (h : x ∈ storedH xs k a v) : (x ∈ xs) ∨ (∃ y ∈ xs, x = (y.1, y.2.1, v)) ∨ x = (k, a, v) := by
  unfold storedH at h
  split at h
  · obtain ⟨y, hy, rfl⟩ := List.mem_map.mp h
    unfold putAt
    split
    · exact .inr (.inl ⟨y, hy, rfl⟩)
    · exact .inl hy
  · rcases List.mem_append.mp h with h | h
    · exact .inl h
    · exact .inr (.inr (by simpa using h))
theorem tab_set {t1 t2 t3 tv : Tok} {n : Nat} {k : Int} {Q : Unit → Shared → Prop} (hu : A.in1.units < cLine) (F : Fr h₀ L s.heap m) (N : News h₀ L s.heap news) (U : UpdF d o news g) (hs : ∀ q ∈ kn, q ∈ news) (T : Tab w kn o xs)
    (hka : (ka, tupObj #[.int c.1 t1, .int c.2.1 t2, .int c.2.2 t3] n) ∈ kn) (hc : c.ok) (hk1 : 1 ≤ k) (hk5 : k ≤ 5) (hlen : xs.length ≤ 1000)
    (hret : ∀ h' o' xs' tk', Fr h₀ L h' m → News h₀ L h' (g o') → Tab w kn o' xs' → xs' ≠ [] → xs'.length ≤ xs.length + 1 → Q () { s with heap := h', toks := tk' }) :
    wpAny (model PR w) A (setItem (.ref d) (.ref ka) (.int k tv)) Q E s := by
  obtain ⟨pre, post, rfl, hg, x1, x2⟩ := U.split
  have hd : (d, o) ∈ pre ++ (d, o) :: post := List.mem_append_right _ (.head _)
  have z := N _ hd
  refine wpAny_setItem_heap (knd := hk w) (hsz := by rw [sizeLine_eq]; omega) hu (colKey (w := w) (N _ (hs _ hka)).1) (T.heap N hd hs) fun h' hm' hsb => ?_
  obtain ⟨o', es', ep', ho', hc', hd', he', _, hn'⟩ := hm'
  have hx := storedH_len xs (keyOf c) ka (.int k tv)
  refine hret h' o' _ _ (F.change hsb z.2.1 z.2.2) ?_ ⟨hc', ⟨es', ep', hd', he'⟩, fun x hx => ?_, hn'⟩ hx.2 hx.1
  · rw [hg]
    intro q hq
    rcases List.mem_append.mp hq with hq | hq
    · have y := N q (List.mem_append_left _ hq); exact ⟨hsb.extBut _ _ (x1 q hq) y.1, y.2⟩
    · rcases List.mem_cons.mp hq with rfl | hq
      · exact ⟨ho', z.2⟩
      · have y := N q (List.mem_append_right _ (.tail _ hq)); exact ⟨hsb.extBut _ _ (x2 q hq) y.1, y.2⟩
  · rcases mem_stored hx with hx | ⟨y, hy, rfl⟩ | rfl
    · exact T.keys x hx
    · obtain ⟨c', u1, u2, u3, n', e, hm, hok, _⟩ := T.keys y hy
      exact ⟨c', u1, u2, u3, n', e, hm, hok, k, tv, rfl, hk1, hk5⟩
    · exact ⟨c, t1, t2, t3, n, rfl, hka, hc, k, tv, rfl, hk1, hk5⟩
theorem tab_get {t1 t2 t3 : Tok} {n : Nat} {Q : Value → Shared → Prop} {x : KeyRow} (hu : A.in1.units < cLine) (N : News h₀ L s.heap news) (hd : (d, o) ∈ news) (hs : ∀ q ∈ kn, q ∈ news) (T : Tab w kn o xs)
    (hx : x ∈ xs) (e : x.1 = keyOf c) (hka : (ka, tupObj #[.int c.1 t1, .int c.2.1 t2, .int c.2.2 t3] n) ∈ news) (hret : ∀ tk', Q x.2.2 { s with toks := tk' }) :
    wpAny (model PR w) A (getItem (.ref d) (.ref ka)) Q E s := by
  obtain ⟨i, hi, ei⟩ := List.getElem_of_mem hx
  have hp : atKey xs (keyOf c) = some x.2 := atKey_of_get (i := i) (k := keyOf c) (p := x.2) T.nodup (by rw [List.getElem?_eq_getElem hi, ei, ← e])
  exact wpAny_getItem_heap (knd := hk w) (p := x.2) hu (colKey (w := w) (N _ hka).1) (T.heap N hd hs) hp (hret _)
/-- sorted(found): the keys in some order -/
theorem tab_sorted {Q : Value → Shared → Prop} (hh : A.handled = none) (F : Fr h₀ L s.heap m) (N : News h₀ L s.heap news) (lo : (d == sysModules) = false) (hd : (d, o) ∈ news) (hs : ∀ q ∈ kn, q ∈ news) (T : Tab w kn o xs) (h1 : xs ≠ []) (h4 : xs.length ≤ 4)
    (hret : ∀ B (ys : List KeyRow) c h' tk', ys.Perm xs → Fr h₀ L h' m → News h₀ L h' ((B, listOf (ys.map fun x => Value.ref x.2.1).toArray c) :: news) → (∀ q ∈ news, q.1 < B) → Q (.ref B) { s with heap := h', toks := tk' }) :
    wpAny (model PR w) A (call (.builtin "sorted") [.ref d]) Q E s := by
  obtain ⟨es, ep, e1, e2⟩ := T.data
  have hraw : RawDict s.heap d es ep := ⟨o, (N _ hd).1, T.ex, e1⟩
  have hes : es.size = xs.length := by rw [← Array.length_toList, e2, List.length_map]
  refine kdu_sorted (raw_src lo) hh F N hraw (by rw [hes, sizeLine_eq]; omega) fun B h' tk vs F' N' l1 hl hv => ?_
  have evs : vs = xs.map fun x => Value.ref x.2.1 := by
    refine List.ext_getElem? fun j => ?_
    by_cases hj : j < vs.length
    · obtain ⟨en, hen, ev⟩ := hv j vs[j] (by simp [hj])
      have hj' : j < xs.length := by omega
      have : es[j]? = (xs.map (entryOfKey (hk w)))[j]? := by rw [← e2, Array.getElem?_toList]
      rw [this, List.getElem?_map, List.getElem?_eq_getElem hj'] at hen
      simp only [Option.map_some, Option.some.injEq] at hen
      rw [List.getElem?_eq_getElem hj, ev, ← hen, List.getElem?_map, List.getElem?_eq_getElem hj']
      rfl
    · rw [List.getElem?_eq_none (by omega), List.getElem?_eq_none (by simp; omega)]
  subst evs
  have tups : ∀ ys : List KeyRow, (∀ y ∈ ys, y ∈ xs) → Tups news (ys.map fun x => Value.ref x.2.1) := fun ys hys v hv => by
    obtain ⟨y, hy, rfl⟩ := List.mem_map.mp hv
    obtain ⟨c, t1, t2, t3, n, _, hm, _⟩ := T.keys y (hys y hy)
    exact ⟨_, c, t1, t2, t3, n, rfl, hs _ hm⟩
  have ne : ∀ q ∈ news, q.1 ≠ B := fun q hq => Nat.ne_of_lt (l1 q hq)
  by_cases h2 : 2 ≤ xs.length
  · refine sort_many (kn := news) F' N' (UpdF.head ne) (fun o' q hq => List.mem_cons_of_mem _ hq) (tups xs fun _ h => h) (by simpa using h2) (by simpa using h4) fun out c h'' hp F'' N'' => ?_
    obtain ⟨ys, hys, rfl⟩ : ∃ ys : List KeyRow, ys.Perm xs ∧ out = ys.map fun x => Value.ref x.2.1 := by
      have : ∀ (l : List KeyRow) (out : List Value), out.Perm (l.map fun x => Value.ref x.2.1) → ∃ ys : List KeyRow, ys.Perm l ∧ out = ys.map fun x => Value.ref x.2.1 := by
        intro l out hp
        generalize hz : (l.map fun x => Value.ref x.2.1) = z at hp
        induction hp generalizing l with
        | nil => exact ⟨l, List.Perm.refl _, hz.symm⟩
        | cons v _ ih =>
          match l, hz with
          | x :: l, hz =>
            simp only [List.map_cons, List.cons.injEq] at hz
            obtain ⟨ys, p, e⟩ := ih l hz.2
            exact ⟨x :: ys, p.cons x, by simp [hz.1, e]⟩
        | swap u v r =>
          match l, hz with
          | x :: y :: l, hz =>
            simp only [List.map_cons, List.cons.injEq] at hz
            exact ⟨y :: x :: l, List.Perm.swap x y l, by simp [hz.1, hz.2.1, hz.2.2]⟩
        | trans _ _ ih1 ih2 =>
          obtain ⟨ys, p, e⟩ := ih2 l hz
          obtain ⟨zs, p', e'⟩ := ih1 ys e.symm
          exact ⟨zs, p'.trans p, e'⟩
      exact this xs out hp
    exact hret B ys c h'' tk hys F'' N'' l1
  · obtain ⟨x, rfl⟩ : ∃ x, xs = [x] := by
      match xs, h1, h2 with
      | [x], _, _ => exact ⟨x, rfl⟩
      | _ :: _ :: _, _, h2 => simp at h2
    exact sort_one F' N' (UpdF.head ne) fun c h'' F'' N'' => hret B [x] c h'' tk (List.Perm.refl _) F'' N'' l1
end
abbrev Row := Col × Int
def IsRow (news : Led) (v : Value) (r : Row) : Prop := ∃ a cv t n, v = .ref a ∧ (a, tupObj #[cv, .int r.2 t] n) ∈ news ∧ IsCol news cv r.1
theorem IsRow.mono {news news' : Led} {v : Value} {r : Row} (h : IsRow news v r) (hs : ∀ q ∈ news, q ∈ news') : IsRow news' v r := by
  obtain ⟨a, cv, t, n, rfl, hm, hc⟩ := h
  exact ⟨a, cv, t, n, rfl, hs _ hm, hc.mono hs⟩
inductive RowsAre (news : Led) : List Value → List Row → Prop
  | nil : RowsAre news [] []
  | cons {v : Value} {r : Row} {vs : List Value} {rs : List Row} : IsRow news v r → RowsAre news vs rs → RowsAre news (v :: vs) (r :: rs)
theorem RowsAre.mono {news news' : Led} (hs : ∀ q ∈ news, q ∈ news') {vs : List Value} {rs : List Row} (h : RowsAre news vs rs) : RowsAre news' vs rs := by
  induction h with
  | nil => exact .nil
  | cons h _ ih => exact .cons (h.mono hs) ih
theorem RowsAre.length {news : Led} {vs : List Value} {rs : List Row} (h : RowsAre news vs rs) : vs.length = rs.length := by
  induction h with
  | nil => rfl
  | cons _ _ ih => simp [ih]
theorem RowsAre.get {news : Led} {vs : List Value} {rs : List Row} (h : RowsAre news vs rs) : ∀ {i : Nat} (hi : i < rs.length) {v : Value}, vs[i]? = some v → IsRow news v rs[i] := by
  induction h with
  | nil => intro i hi; exact absurd hi (Nat.not_lt_zero _)
  | cons h _ ih =>
    intro i hi v hv
    cases i with
    | zero => simp at hv; subst hv; exact h
    | succ i => simp at hv ⊢; exact ih (by simpa using hi) hv
theorem RowsAre.snoc {news : Led} {vs : List Value} {rs : List Row} {v : Value} {r : Row} (h : RowsAre news vs rs) (h' : IsRow news v r) : RowsAre news (vs ++ [v]) (rs ++ [r]) := by
  induction h with
  | nil => exact .cons h' .nil
  | cons h _ ih => exact .cons h ih
def Row.ok (r : Row) : Prop := Col.ok r.1 ∧ 1 ≤ r.2 ∧ r.2 ≤ 5
structure GoodLot (rows : List Row) : Prop where
  ne : rows ≠ []
  len : rows.length ≤ 4
  ok : ∀ r ∈ rows, Row.ok r
  nodup : (rows.map (·.1)).Nodup
/-! ## comprehensions by what holds between the turns -/
section
variable {prog : Program} {w : World} {A : Around} {h₀ : Heap} {L : Addr} {m : Str → Option Value} {env : Env} {elt ct : PySem.Expr} {x x₂ : Str} {scope : Scope} {cl : List (Str × Addr)} {s : Shared} {S : Led → Prop} {P : Nat → Value → Prop} {Fin : List Value → Led → Prop}
theorem rest_inv (n : Nat) (Inv : Nat → List Value → Led → Prop)
    (turn : ∀ i ys news v I oI C oC D m₂ h tk (E' : Value → Shared → Prop), i < n → Inv i ys news → P i v → NsObj oC m₂ → m₂ x = some v → Fr h₀ L h m → News h₀ L h ((I, oI) :: (C, oC) :: (D, lst ys) :: news) → Off3 I C D news → ((@Ne Nat I C) ∧ (@Ne Nat I D) ∧ (@Ne Nat C D)) →
      wpAny (model prog w) A (eval elt (compEnvC scope cl C env)) (CompEnd h₀ L m { s with heap := h, toks := tk } I oI C oC D (lst ys) S (fun y news' => Inv (i + 1) (ys ++ [y]) news')) E' { s with heap := h, toks := tk })
    (fin : ∀ ys news, Inv n ys news → Fin ys news) : ∀ k i ys news, i + k = n → Inv i ys news → CompRest prog w A h₀ L m env elt x scope cl s S P Fin k i ys news
  | 0, i, ys, news, hi, hI => CompRest.zero (fin ys news (by rw [← hi]; exact hI))
  | k + 1, i, ys, news, hi, hI => CompRest.succ fun v I oI C oC D m₂ h tk E' hP hC hx F N off ne => by
    refine wpAny_mono (turn i ys news v I oI C oC D m₂ h tk E' (by omega) hI hP hC hx F N off ne) (fun y s₂ he => ?_) fun _ _ e => e
    obtain ⟨h', tk', news', e, F', N', off', hS, hr⟩ := he
    exact ⟨h', tk', news', e, F', N', off', hS, rest_inv n Inv turn fin k (i + 1) (ys ++ [y]) news' (by omega) hr⟩
theorem restP_inv (n : Nat) (Inv : Nat → List Value → Led → Prop)
    (turn : ∀ i ys news v, i < n → Inv i ys news → P i v → ∃ (t : Addr) (ot : Obj) (v₁ v₂ : Value) (nt : Nat), v = .ref t ∧ (t, ot) ∈ news ∧ ot.cls = .type "tuple" ∧ ot.data = .seq #[v₁, v₂] nt ∧
      ∀ I oI C oC D m₂ h tk (E' : Value → Shared → Prop), NsObj oC m₂ → m₂ x = some v₁ → m₂ x₂ = some v₂ → Fr h₀ L h m → News h₀ L h ((I, oI) :: (C, oC) :: (D, lst ys) :: news) → Off3 I C D news → ((@Ne Nat I C) ∧ (@Ne Nat I D) ∧ (@Ne Nat C D)) →
      wpAny (model prog w) A (eval elt (compEnvC scope cl C env)) (CompEnd h₀ L m { s with heap := h, toks := tk } I oI C oC D (lst ys) S (fun y news' => Inv (i + 1) (ys ++ [y]) news')) E' { s with heap := h, toks := tk })
    (fin : ∀ ys news, Inv n ys news → Fin ys news) : ∀ k i ys news, i + k = n → Inv i ys news → LCp.CompRestP prog w A h₀ L m env elt x x₂ scope cl s S P Fin k i ys news
  | 0, i, ys, news, hi, hI => LCp.CompRestP.zero (fin ys news (by rw [← hi]; exact hI))
  | k + 1, i, ys, news, hi, hI => LCp.CompRestP.succ fun v hP => by
    obtain ⟨t, ot, v₁, v₂, nt, e, hm, hc, hd, go⟩ := turn i ys news v (by omega) hI hP
    refine ⟨t, ot, v₁, v₂, nt, e, hm, hc, hd, fun I oI C oC D m₂ h tk E' hC hx hx₂ F N off ne => ?_⟩
    refine wpAny_mono (go I oI C oC D m₂ h tk E' hC hx hx₂ F N off ne) (fun y s₂ he => ?_) fun _ _ e => e
    obtain ⟨h', tk', news', e, F', N', off', hS, hr⟩ := he
    exact ⟨h', tk', news', e, F', N', off', hS, restP_inv n Inv turn fin k (i + 1) (ys ++ [y]) news' (by omega) hr⟩
end
section
variable {prog : Program} {w : World} {A : Around} {h₀ : Heap} {L : Addr} {m : Str → Option Value} {env : Env} {elt ct : PySem.Expr} {x : Str} {scope : Scope} {cl : List (Str × Addr)} {s : Shared} {S : Led → Prop} {P : Nat → Value → Prop} {Fin : List Value → Led → Prop}
theorem restT_inv (n : Nat) (Inv : Nat → List Value → Led → Prop)
    (turn : ∀ i ys news v I oI C oC D m₂ h tk (E' : Value → Shared → Prop), i < n → Inv i ys news → P i v → NsObj oC m₂ → m₂ x = some v → Fr h₀ L h m → News h₀ L h ((I, oI) :: (C, oC) :: (D, lst ys) :: news) → Off3 I C D news → ((@Ne Nat I C) ∧ (@Ne Nat I D) ∧ (@Ne Nat C D)) →
      wpAny (model prog w) A (isTrue ct (compEnvC scope cl C env) (eval ct (compEnvC scope cl C env))) (fun ok s' => if ok = true then
        wpAny (model prog w) A (eval elt (compEnvC scope cl C env)) (CompEnd h₀ L m { s with heap := h, toks := tk } I oI C oC D (lst ys) S (fun y news' => Inv (i + 1) (ys ++ [y]) news')) E' s'
        else CompEnd h₀ L m { s with heap := h, toks := tk } I oI C oC D (lst ys) S (fun _ news' => Inv (i + 1) ys news') Value.none s') E' { s with heap := h, toks := tk })
    (fin : ∀ ys news, Inv n ys news → Fin ys news) : ∀ k i ys news, i + k = n → Inv i ys news → LCt.CompRestT prog w A h₀ L m env ct elt x scope cl s S P Fin k i ys news
  | 0, i, ys, news, hi, hI => LCt.CompRestT.zero (fin ys news (by rw [← hi]; exact hI))
  | k + 1, i, ys, news, hi, hI => LCt.CompRestT.succ fun v I oI C oC D m₂ h tk E' hP hC hx F N off ne => by
    refine wpAny_mono (turn i ys news v I oI C oC D m₂ h tk E' (by omega) hI hP hC hx F N off ne) (fun ok s' hok => ?_) fun _ _ e => e
    cases ok with
    | true =>
      rw [if_pos rfl] at hok ⊢
      refine wpAny_mono hok (fun y s₂ he => ?_) fun _ _ e => e
      obtain ⟨h', tk', news', e, F', N', off', hS, hr⟩ := he
      exact ⟨h', tk', news', e, F', N', off', hS, restT_inv n Inv turn fin k (i + 1) (ys ++ [y]) news' (by omega) hr⟩
    | false =>
      rw [if_neg (by decide)] at hok ⊢
      obtain ⟨h', tk', news', e, F', N', off', hS, hr⟩ := hok
      exact ⟨h', tk', news', e, F', N', off', hS, restT_inv n Inv turn fin k (i + 1) ys news' (by omega) hr⟩
end
section
variable {M : Model} {A : Around} {E : Value → Shared → Prop} {s : Shared} {h₀ : Heap} {L : Addr} {m : Str → Option Value} {news : Led}
theorem newDict_my {env : Env} {pos : Pos} {Q : Value → Shared → Prop} (F : Fr h₀ L s.heap m) (N : News h₀ L s.heap news) (hbig : h₀.NoLimit)
    (k : ∀ d h', Fr h₀ L h' m → News h₀ L h' ((d, ({ cls := .type "dict", data := .dict #[] } : Obj)) :: news) → (∀ p ∈ news, p.1 < d) → (d == sysModules) = false → Q (.ref d) { s with heap := h' }) :
    wpAny M A (eval (.Dict [] [] pos) env) Q E s :=
  wpAny_Dict_empty (k _ _ (F.push _) (News.push F N _) (fun p hp => Heap.lt_size (N p hp).1) (F.notModules (modules_low hbig)))
end
end
section
open PySem PySem.W PyProof.Rows PySem.Calls PyProof.Rows.LCg
section
variable {w : World} {A : Around} {E : Value → Shared → Prop} {s : Shared} {h₀ : Heap} {env : Env} {x : Str} {body : List Stmt} {Q : Flow → Shared → Prop} {r d pt : Addr} {b : Int} {t₀ u₀ v₀ : Tok} {m₀ : Str → Option Value} {rest : Led} {o : Obj}
/-- a turn's end: one colour more in the ledger -/
def TabEnd (w : World) (h₀ : Heap) (L d pt : Addr) (x : Str) (m₀ : Str → Option Value) (kn tail : Led) (xs : List KeyRow) (s₁ : Shared) (f : Flow) (s₂ : Shared) : Prop :=
  f = .next ∧ ∃ h' tk' m' a oa od op xs', s₂ = { s₁ with heap := h', toks := tk' } ∧ Fr h₀ L h' m' ∧ (∀ z, z ≠ x → m' z = m₀ z) ∧ News h₀ L h' ((a, oa) :: (d, od) :: (pt, op) :: tail) ∧ (@Ne Nat d a) ∧ (@Ne Nat pt a) ∧ (∀ q ∈ tail, q.1 ≠ a) ∧
    Tab w ((a, oa) :: kn) od xs' ∧ Paint op ∧ xs' ≠ [] ∧ xs'.length ≤ xs.length + 1
theorem tab_loop {L : Addr} (hL : env.locals = L) (hh : A.handled = none) (hr : IsRange s.heap r 0 b 1 t₀ u₀ v₀) (hb0 : 1 ≤ b) (hb4 : b ≤ 4) (F : Fr h₀ L s.heap m₀) (N : News h₀ L s.heap ((d, ({ cls := .type "dict", data := .dict #[] } : Obj)) :: (pt, o) :: rest))
    (hP : Paint o) (hd : ∀ q ∈ rest, q.1 ≠ d) (hp : ∀ q ∈ rest, q.1 ≠ pt) (hdp : (@Ne Nat pt d))
    (turn : ∀ k t od op xs (kn tail : Led) h tk, Tab w kn od xs → (∀ q ∈ kn, q ∈ tail) → xs.length ≤ 4 → Paint op → (∀ q ∈ rest, q ∈ tail) → (∀ q ∈ tail, q.1 ≠ d) → (∀ q ∈ tail, q.1 ≠ pt) →
      Fr h₀ L h (fun y => if y = x then some (.int k t) else m₀ y) → News h₀ L h ((d, od) :: (pt, op) :: tail) →
      wpAny (model PR w) A (execs body env) (TabEnd w h₀ L d pt x m₀ kn tail xs { s with heap := h, toks := tk }) E { s with heap := h, toks := tk })
    (done : ∀ od op xs (tl : Led) h tk (u : Str → Option Value), Tab w tl od xs → xs ≠ [] → xs.length ≤ 4 → Paint op → (∀ q ∈ tl, q.1 ≠ d ∧ q.1 ≠ pt ∧ ∀ p ∈ rest, p.1 ≠ q.1) →
      Fr h₀ L h (fun y => if y = x then u y else m₀ y) → News h₀ L h ((d, od) :: (pt, op) :: (rest ++ tl)) → Q .next { s with heap := h, toks := tk }) :
    wpAny (model PR w) A (pyIter (.ref r)) (fun it s₂ => LoopAtV PR w A h₀ env x body Q E it s₂) E s := by
  subst hL
  have eadr : ∀ c : Obj × Obj × List KeyRow, (([(d, c.1), (pt, c.2.1)] : Led) ++ rest).map (·.1) = d :: pt :: rest.map (·.1) := fun c => rfl
  have esz : Builtin.Range.rangeSize 0 b 1 = ((b.toNat : Nat) : Int) := by rw [rangeSize_nat]; simp
  refine kd_range (σ := Obj × Obj × List KeyRow) (n := b.toNat) (fun c => [(d, c.1), (pt, c.2.1)]) rest (fun _ => []) (fun nx c => (∃ tl, nx = rest ++ tl ∧ Tab w tl c.1 c.2.2) ∧ Paint c.2.1) [] (fun pre c => c.2.2.length ≤ pre.length ∧ (pre ≠ [] → c.2.2 ≠ [])) (d :: pt :: rest.map (·.1)) (_, o, [])
    hh hr (small_one (by omega) (by omega) (by omega) (by omega)) esz F N (fun q hq => by simpa using hq) eadr ⟨⟨[], rfl, Tab.empty w _⟩, hP⟩ (fun _ h => nomatch h) ⟨Nat.le_refl _, fun h => absurd rfl h⟩ ?_ ?_
  · rintro ⟨od, op, xs⟩ tl pre k t u h tk own hk hlen sep off ⟨⟨tl0, e0, hT⟩, hPo⟩ ⟨hx1, hx2⟩ F₁ N₁
    obtain rfl := List.append_cancel_left e0
    have F₂ : Fr h₀ env.locals h (fun y => if y = x then some (.int k t) else m₀ y) := F₁
    have N₂ : News h₀ env.locals h ((d, od) :: (pt, op) :: (rest ++ (tl ++ own))) := N₁
    have aw : ∀ q ∈ rest ++ (tl ++ own), q.1 ≠ d ∧ q.1 ≠ pt := fun q hq => by
      rcases List.mem_append.mp hq with hq | hq
      · exact ⟨hd q hq, hp q hq⟩
      · exact ⟨off q hq d (by simp), off q hq pt (by simp)⟩
    have hxl : xs.length ≤ 4 := by
      have : pre.length < b.toNat := hlen
      have : xs.length ≤ pre.length := hx1
      omega
    refine wpAny_mono (turn k t od op xs tl (rest ++ (tl ++ own)) h tk hT (fun q hq => ?_) hxl hPo (fun q hq => List.mem_append_left _ hq) (fun q hq => (aw q hq).1) (fun q hq => (aw q hq).2) F₂ N₂) (fun f s₂ hf => ?_) fun _ _ e => e
    · exact List.mem_append_right _ (List.mem_append_left _ hq)
    obtain ⟨rfl, h', tk', m', a, oa, od', op', xs', rfl, F', hm, N', hda, hpa, hta, hT', hP', hne, hl'⟩ := hf
    have inT : ∀ q ∈ rest ++ (tl ++ own), q ∈ (a, oa) :: (d, od') :: (pt, op') :: (rest ++ (tl ++ own)) := fun q hq => .tail _ (.tail _ (.tail _ hq))
    refine kd_end (c := (od', op', xs')) [(a, oa)] sep F' N' (fun q hq => ?_) (fun q hq => inT q (List.mem_append_right _ (List.mem_append_right _ hq))) (eadr _) (fun q hq b hb => ?_) (fun q hq p hp => ?_) (fun _ h => nomatch h) (fun z hz _ _ => hm z hz) ⟨⟨(a, oa) :: tl, rfl, hT'⟩, hP'⟩ ⟨?_, fun _ => hne⟩
    · rcases List.mem_append.mp hq with hq | hq
      · rcases List.mem_cons.mp hq with rfl | hq
        · exact .tail _ (.head _)
        · rw [List.mem_singleton.mp hq]; exact .tail _ (.tail _ (.head _))
      · rcases List.mem_append.mp hq with hq | hq
        · exact inT q (List.mem_append_left _ hq)
        · rcases List.mem_cons.mp hq with rfl | hq
          · exact .head _
          · exact inT q (List.mem_append_right _ (List.mem_append_left _ hq))
    · rw [List.mem_singleton.mp hq]
      rcases List.mem_cons.mp hb with rfl | hb
      · exact hda
      · rcases List.mem_cons.mp hb with rfl | hb
        · exact hpa
        · obtain ⟨p, hp, rfl⟩ := List.mem_map.mp hb
          exact hta p (List.mem_append_left _ hp)
    · rw [List.mem_singleton.mp hq]
      exact hta p (List.mem_append_right _ (List.mem_append_right _ hp))
    · simp only [List.length_append, List.length_singleton]
      have : xs.length ≤ pre.length := hx1
      omega
  · rintro ⟨od, op, xs⟩ tl u h tk ht ⟨⟨tl0, e0, hT⟩, hPo⟩ ⟨hx1, hx2⟩ F₁ N₁
    obtain rfl := List.append_cancel_left e0
    have e := rangeKs_length 0 b.toNat
    have hb : 1 ≤ b.toNat := by omega
    refine done od op xs tl h tk u hT (hx2 fun q => ?_) ?_ hPo (fun q hq => ⟨ht q hq d (by simp), ht q hq pt (by simp), fun p hp => ?_⟩) F₁ N₁
    · rw [q] at e; simp at e; omega
    · have : xs.length ≤ (rangeKs 0 b.toNat).length := hx1
      omega
    · exact fun q' => ht q hq p.1 (by simp; exact .inr (.inr ⟨_, hp⟩)) q'.symm
end
section
variable {w : World} {A : Around} {E : Value → Shared → Prop} {s : Shared} {h₀ h : Heap} {L d ka : Addr} {m : Str → Option Value} {news kn : Led} {o : Obj} {xs : List KeyRow} {g : Obj → Led} {c : Col}
theorem tab_add {t1 t2 t3 tv : Tok} {n : Nat} {k : Int} {Q : Unit → Shared → Prop} (hu : A.in1.units < cLine) (F : Fr h₀ L s.heap m) (N : News h₀ L s.heap news) (U : UpdF d o news g) (hka : (ka, tupObj #[.int c.1 t1, .int c.2.1 t2, .int c.2.2 t3] n) ∈ news)
    (hs : ∀ q ∈ kn, q ∈ news) (T : Tab w kn o xs) (hc : c.ok) (hk1 : 1 ≤ k) (hk5 : k ≤ 5) (hlen : xs.length ≤ 1000)
    (hret : ∀ h' o' xs' tk', Fr h₀ L h' m → News h₀ L h' (g o') → Tab w ((ka, tupObj #[.int c.1 t1, .int c.2.1 t2, .int c.2.2 t3] n) :: kn) o' xs' → xs' ≠ [] → xs'.length ≤ xs.length + 1 → Q () { s with heap := h', toks := tk' }) :
    wpAny (model PR w) A (setItem (.ref d) (.ref ka) (.int k tv)) Q E s :=
  tab_set (kn := (ka, tupObj #[.int c.1 t1, .int c.2.1 t2, .int c.2.2 t3] n) :: kn) hu F N U (fun q hq => by
    rcases List.mem_cons.mp hq with rfl | hq
    · exact hka
    · exact hs q hq) (T.mono fun q hq => .tail _ hq) (.head _) hc hk1 hk5 hlen hret
end
def colOf (k : List Int) : Col := (k.getD 0 0, k.getD 1 0, k.getD 2 0)
theorem colOf_key (c : Col) : colOf (keyOf c) = c := by obtain ⟨a, b, d⟩ := c; rfl
def intOf : Value → Int
  | .int i _ => i
  | _ => 0
def toRow (x : KeyRow) : Row := (colOf x.1, intOf x.2.2)
theorem goodLot_of {w : World} {kn : Led} {o : Obj} {xs ys : List KeyRow} (T : Tab w kn o xs) (hp : ys.Perm xs) (hne : xs ≠ []) (h4 : xs.length ≤ 4) : GoodLot (ys.map toRow) := by
  refine ⟨fun e => ?_, by rw [List.length_map, hp.length_eq]; exact h4, fun r hr => ?_, ?_⟩
  · have : ys = [] := by simpa using e
    subst this
    exact hne (List.Perm.eq_nil hp.symm)
  · obtain ⟨x, hx, rfl⟩ := List.mem_map.mp hr
    obtain ⟨c, t1, t2, t3, n, e, _, hok, k, t, ev, h1, h5⟩ := T.keys x (hp.mem_iff.mp hx)
    show Col.ok (colOf x.1) ∧ 1 ≤ intOf x.2.2 ∧ intOf x.2.2 ≤ 5
    rw [e, colOf_key, ev]
    exact ⟨hok, h1, h5⟩
  · have hn : (ys.map (·.1)).Nodup := (hp.map (·.1)).nodup_iff.mpr T.nodup
    have hk : ∀ x ∈ ys, ∃ c : Col, x.1 = keyOf c := fun x hx => let ⟨c, _, _, _, _, e, _⟩ := T.keys x (hp.mem_iff.mp hx); ⟨c, e⟩
    rw [List.map_map]
    clear hp
    induction ys with
    | nil => exact List.nodup_nil
    | cons x ys ih =>
      rw [List.map_cons, List.nodup_cons] at hn ⊢
      refine ⟨fun hm => hn.1 ?_, ih hn.2 fun y hy => hk y (List.mem_cons_of_mem _ hy)⟩
      obtain ⟨y, hy, e⟩ := List.mem_map.mp hm
      obtain ⟨c, hc⟩ := hk x (List.mem_cons_self ..)
      obtain ⟨c', hc'⟩ := hk y (List.mem_cons_of_mem _ hy)
      have e' : colOf y.1 = colOf x.1 := e
      rw [hc, hc', colOf_key, colOf_key] at e'
      refine List.mem_map.mpr ⟨y, hy, ?_⟩
      rw [hc, hc', e']
section
variable {w : World} {A : Around} {E : Value → Shared → Prop} {s : Shared} {h₀ h : Heap} {L d ka : Addr} {m : Str → Option Value} {news kn : Led} {o : Obj} {xs : List KeyRow} {g : Obj → Led} {c : Col}
theorem tab_item {t1 t2 t3 : Tok} {n : Nat} {value slice : PySem.Expr} {Q : Value → Shared → Prop} {x : KeyRow} (hu : A.in1.units < cLine) (N : News h₀ L s.heap news) (hd : (d, o) ∈ news) (hs : ∀ q ∈ kn, q ∈ news) (T : Tab w kn o xs)
    (hx : x ∈ xs) (e : x.1 = keyOf c) (hka : (ka, tupObj #[.int c.1 t1, .int c.2.1 t2, .int c.2.2 t3] n) ∈ news) (hret : ∀ tk', Q x.2.2 { s with toks := tk' })
    (hsub : subscripted slice false (.ref d) (.ref ka) = operate [.ref d, .ref ka] (getItem (.ref d) (.ref ka)) := by with_unfolding_all rfl) :
    wpAny (model PR w) A (subscriptTail value slice (.ref d) (.ref ka)) Q E s :=
  tail_any (T.heap N hd hs).typeIs slot_dict_getitem.lookup (tab_get hu N hd hs T hx e hka hret) hsub
end
theorem take_map_succ {α β : Type} (f : α → β) (l : List α) (i : Nat) (h : i < l.length) : (l.take (i + 1)).map f = (l.take i).map f ++ [f l[i]] := by
  rw [List.take_add_one, List.getElem?_eq_getElem h]
  simp only [List.map_append, List.map_cons, List.map_nil, Option.toList_some]
theorem take_map_all {α β γ : Type} (f : α → β) (g : α → γ) (l : List α) : (l.take ((l.map g).toArray.size)).map f = l.map f := by
  rw [List.size_toArray, List.length_map, List.take_length]
theorem row_at {news : Led} {R ka : Addr} {kk : Int} {tk u1 u2 u3 : Tok} {n k : Nat} {c : Col} {x : KeyRow} (h1 : (R, tupObj #[.ref ka, .int kk tk] n) ∈ news) (h2 : (ka, tupObj #[.int c.1 u1, .int c.2.1 u2, .int c.2.2 u3] k) ∈ news)
    (e1 : x.1 = keyOf c) (e2 : x.2.2 = .int kk tk) : IsRow news (.ref R) (toRow x) := by
  have e : toRow x = (c, kk) := by unfold toRow; rw [e1, colOf_key, e2]; rfl
  rw [e]
  exact ⟨R, .ref ka, tk, n, rfl, h1, ka, u1, u2, u3, k, rfl, h2⟩
end
section
open PySem PySem.W PyProof.Rows PySem.Calls PyProof.Rows.LCg
/-! ## a comprehension over a range whose name is a cell (a comprehension within it reads it) -/
def Off4 (I C X D : Addr) (l : Led) : Prop := Off3 I C D l ∧ Off1 X l
abbrev Ne4 (I C X D : Addr) : Prop := ((@Ne Nat I C) ∧ (@Ne Nat I D) ∧ (@Ne Nat C D)) ∧ ((@Ne Nat X I) ∧ (@Ne Nat X C) ∧ (@Ne Nat X D))
def CellEnd (h₀ : Heap) (L : Addr) (m : Str → Option Value) (s₁ : Shared) (I : Addr) (oI : Obj) (C : Addr) (oC : Obj) (X : Addr) (oX : Obj) (D : Addr) (oD : Obj) (rest : Value → Led → Prop) (y : Value) (s₂ : Shared) : Prop :=
  ∃ h' tk news', s₂ = { s₁ with heap := h', toks := tk } ∧ Fr h₀ L h' m ∧ News h₀ L h' ((I, oI) :: (C, oC) :: (X, oX) :: (D, oD) :: news') ∧ Off4 I C X D news' ∧ rest y news'
def CellRest (prog : Program) (w : World) (A : Around) (h₀ : Heap) (L : Addr) (m : Str → Option Value) (env : Env) (elt : PySem.Expr) (x : Str) (scope : Scope) (cl : List (Str × Addr)) (s : Shared) (P : Nat → Value → Prop)
    (Fin : List Value → Led → Prop) : Nat → Nat → List Value → Led → Prop
  | 0, _, ys, news => Fin ys news
  | k + 1, i, ys, news => ∀ v I oI C oC X oX D m₂ h tk (E' : Value → Shared → Prop), P i v → NsObj oC m₂ → oX.data = .cell (some v) → Fr h₀ L h m → News h₀ L h ((I, oI) :: (C, oC) :: (X, oX) :: (D, lst ys) :: news) → Off4 I C X D news → Ne4 I C X D →
      wpAny (model prog w) A (eval elt (compEnvC scope ((x, X) :: cl) C env)) (CellEnd h₀ L m { s with heap := h, toks := tk } I oI C oC X oX D (lst ys) (fun y news' => CellRest prog w A h₀ L m env elt x scope cl s P Fin k (i + 1) (ys ++ [y]) news')) E' { s with heap := h, toks := tk }
section
variable {prog : Program} {w : World} {A : Around} {E : Value → Shared → Prop} {s : Shared} {h₀ : Heap} {L : Addr} {m : Str → Option Value} {env : Env}
theorem CellRest.zero {elt : PySem.Expr} {x : Str} {scope : Scope} {cl : List (Str × Addr)} {P : Nat → Value → Prop} {Fin : List Value → Led → Prop} {i : Nat} {ys : List Value} {news : Led} (h : Fin ys news) :
    CellRest prog w A h₀ L m env elt x scope cl s P Fin 0 i ys news := h
theorem CellRest.succ {elt : PySem.Expr} {x : Str} {scope : Scope} {cl : List (Str × Addr)} {P : Nat → Value → Prop} {Fin : List Value → Led → Prop} {k i : Nat} {ys : List Value} {news : Led}
    (h : ∀ v I oI C oC X oX D m₂ h tk (E' : Value → Shared → Prop), P i v → NsObj oC m₂ → oX.data = .cell (some v) → Fr h₀ L h m → News h₀ L h ((I, oI) :: (C, oC) :: (X, oX) :: (D, lst ys) :: news) → Off4 I C X D news → Ne4 I C X D →
      wpAny (model prog w) A (eval elt (compEnvC scope ((x, X) :: cl) C env)) (CellEnd h₀ L m { s with heap := h, toks := tk } I oI C oC X oX D (lst ys) (fun y news' => CellRest prog w A h₀ L m env elt x scope cl s P Fin k (i + 1) (ys ++ [y]) news')) E' { s with heap := h, toks := tk }) :
    CellRest prog w A h₀ L m env elt x scope cl s P Fin (k + 1) i ys news := h
theorem block_cell {elt iter : PySem.Expr} {x : Str} {px : Pos} {scope : Scope} {cl : List (Str × Addr)} {pos : Pos} {s₂ : Shared} {I : Addr} {a : Int} {n : Nat} {news : Led}
    {Fin : List Value → Led → Prop} {RR : Value → Addr → Result → Shared → Prop}
    (hh : A.handled = none) (hsz : n ≤ sizeLine) (hcf : ∀ k acc, cellsFrom k scope.names acc = (x, k) :: acc) (hpc : ∀ h, pushCells h scope.names = h.push { cls := .type "cell", data := .cell none })
    (hkind : scope.kind = .function) (hx : (compEnvC scope cl 0 env).kindOf x = some .cell) (hst : IsRangeIter s₂.heap I (a + ((0 : Nat) : Nat) * 1) ((n : Int) - ((0 : Nat) : Nat)) 1)
    (F : Fr h₀ L s₂.heap m) (N : News h₀ L s₂.heap news) (hIL : L ≠ I) (hI₀ : h₀.get? I = none) (off : ∀ p ∈ news, p.1 ≠ I)
    (R : CellRest prog w A h₀ L m env elt x scope cl s₂ (fun i v => ∃ t, v = .int (a + (i : Int)) t) Fin n 0 [] news)
    (hRR : ∀ D C h tk m' ys news', Fr h₀ L h m → News h₀ L h ((D, lst ys) :: news') → Off1 D news' → h.Ns C m' → h₀.get? C = none → h₀.get? D = none → C ≠ L → D ≠ L → C ≠ D → (∀ p ∈ news', p.1 ≠ C) → Fin ys news' → RR (.ref D) C (.ok .next) { s₂ with heap := h, toks := tk }) :
    wpAny (model prog w) A (newList []) (fun acc s₃ => wpAny (model prog w) A (newFunctionEnv scope env.globals cl [] env.qual none .none (some env)) (fun cenv s₄ =>
      codeAny (model prog w) A (.compStart (.ListComp elt [⟨.Name x px, iter, [], 0⟩] scope pos) 0 (.ref I) acc { cenv with scope := relabel scope env }) (RR acc cenv.locals) s₄) E s₃) E s₂ := by
  refine wpAny_newObj_type ?_
  simp only [newFunctionEnv, Option.isSome_some, if_true]
  refine wpAny_bind (wpAny_alloc ?_)
  refine wpAny_bind (wpAny_layCells _ (fun name kind cells => by cases hkc : kind == NameKind.cell <;> simp) _ _ _ _ ?_)
  rw [hcf, hpc]
  dsimp only
  rw [List.forIn_nil]
  refine wpAny_bind (wpAny_pure (wpAny_pure ?_))
  dsimp only
  have hIlt : I < s₂.heap.objs.size := Heap.lt_size (show s₂.heap.get? I = some _ from hst)
  have hLlt : L < s₂.heap.objs.size := F.ns.lt
  generalize hD : s₂.heap.objs.size = D at hIlt hLlt ⊢
  generalize hH1 : s₂.heap.push { cls := .type "list", data := .seq ([] : List Value).toArray } = H1
  have z1 : H1.objs.size = D + 1 := by rw [← hH1, Heap.size_push, hD]
  generalize hH2 : H1.push { cls := .type "dict", data := .dict #[] } = H2
  have z2 : H2.objs.size = D + 1 + 1 := by rw [← hH2, Heap.size_push, z1]
  rw [z1, z2]
  generalize hH3 : H2.push { cls := .type "cell", data := .cell none } = H3
  have z3 : H3.objs.size = D + 1 + 1 + 1 := by rw [← hH3, Heap.size_push, z2]
  have up1 : ∀ {b : Addr} {o : Obj}, s₂.heap.get? b = some o → H3.get? b = some o := fun e => hH3 ▸ Heap.get?_push_of_some _ (hH2 ▸ Heap.get?_push_of_some _ (hH1 ▸ Heap.get?_push_of_some _ e))
  have gD : H3.get? D = some (lst []) := hH3 ▸ Heap.get?_push_of_some _ (hH2 ▸ Heap.get?_push_of_some _ (by rw [← hH1, ← hD]; exact Heap.get?_push_size _ rfl))
  have gC : H3.get? (D + 1) = some { cls := .type "dict", data := .dict #[] } := hH3 ▸ Heap.get?_push_of_some _ (by rw [← hH2, ← z1]; exact Heap.get?_push_size _ rfl)
  have gX : H3.get? (D + 1 + 1) = some { cls := .type "cell", data := .cell none } := by rw [← hH3, ← z2]; exact Heap.get?_push_size _ rfl
  have fresh : ∀ b, D ≤ b → h₀.get? b = none := fun b hb => by
    cases e : h₀.get? b with
    | none => rfl
    | some o => exact absurd (Heap.lt_size (F.keep b o e)) (by rw [hD]; exact Nat.not_lt.mpr hb)
  have below : ∀ q ∈ news, q.1 < D := fun q hq => hD ▸ Heap.lt_size (N q hq).1
  have nC : H3.Ns (D + 1) (fun _ => none) := ⟨_, #[], 0, gC, rfl, (fun e he => by simp at he), fun _ => rfl⟩
  have F3 : Fr h₀ L H3 m := F.keeps fun b o e => up1 e
  have N3 : News h₀ L H3 news := fun q hq => ⟨up1 (N q hq).1, (N q hq).2⟩
  have hst3 : IsRangeIter H3 I (a + ((0 : Nat) : Nat) * 1) ((n : Int) - ((0 : Nat) : Nat)) 1 := by show H3.get? I = some _; exact up1 hst
  clear hH1 hH2 hH3 hst N F
  have W := range_walks (prog := prog) (w := w) (A := A) (I := I) hh a n
  have loop : ∀ s₃ : Shared, s₃ = { s₂ with heap := H3 } →
      codeAny (model prog w) A (.compLoop (.ListComp elt [⟨.Name x px, iter, [], 0⟩] scope pos) 0 (.ref I) (.ref D) (compEnvC scope ((x, D + 1 + 1) :: cl) (D + 1) env)) (RR (.ref D) (D + 1)) s₃ := by
    rintro s₃ rfl
    refine kcp_loop (fun k s' => ∃ h' tk i ys m' oX v₀ news', s' = { s₂ with heap := h', toks := tk } ∧ i ≤ n ∧ k = n + 1 - i ∧ ys.length = i ∧ IsRangeIter h' I (a + (i : Nat) * 1) ((n : Int) - (i : Nat)) 1 ∧ Fr h₀ L h' m ∧ h'.Ns (D + 1) m' ∧
        h'.get? (D + 1 + 1) = some oX ∧ oX.data = .cell v₀ ∧ h'.get? D = some (lst ys) ∧ News h₀ L h' news' ∧ Off4 I (D + 1) (D + 1 + 1) D news' ∧ CellRest prog w A h₀ L m env elt x scope cl s₂ (fun i v => ∃ t, v = .int (a + (i : Int)) t) Fin (n - i) i ys news') ?_ (n + 1)
      ⟨H3, _, 0, [], _, _, _, news, rfl, Nat.zero_le _, rfl, rfl, hst3, F3, nC, gX, rfl, gD, N3, ⟨Off3.of fun q hq => ⟨off q hq, Nat.ne_of_lt (Nat.lt_succ_of_lt (below q hq)), Nat.ne_of_lt (below q hq)⟩, off1_in fun q hq => Nat.ne_of_lt (Nat.lt_succ_of_lt (Nat.lt_succ_of_lt (below q hq)))⟩, R⟩
    rintro k s' ⟨h', tk, i, ys, m', oX, v₀, news', rfl, hi, rfl, hyl, hst', F', nC', gX', dX', gD', N', off', R'⟩
    have hID : I ≠ D := Nat.ne_of_lt hIlt
    have hIC : I ≠ D + 1 := Nat.ne_of_lt (Nat.lt_succ_of_lt hIlt)
    have hIX : I ≠ D + 1 + 1 := Nat.ne_of_lt (Nat.lt_succ_of_lt (Nat.lt_succ_of_lt hIlt))
    have hDC : D ≠ D + 1 := Nat.ne_of_lt (Nat.lt_succ_self _)
    have hDX : D ≠ D + 1 + 1 := Nat.ne_of_lt (Nat.lt_succ_of_lt (Nat.lt_succ_self _))
    have hCX : D + 1 ≠ D + 1 + 1 := Nat.ne_of_lt (Nat.lt_succ_self _)
    have hLD : D ≠ L := Nat.ne_of_gt hLlt
    have hLC : D + 1 ≠ L := Nat.ne_of_gt (Nat.lt_succ_of_lt hLlt)
    have hLX : D + 1 + 1 ≠ L := Nat.ne_of_gt (Nat.lt_succ_of_lt (Nat.lt_succ_of_lt hLlt))
    have off3 := off'.1.mem
    by_cases hlt : i < n
    · obtain ⟨j, hj⟩ : ∃ j, n - i = j + 1 := ⟨n - i - 1, by omega⟩
      rw [hj] at R'
      refine W.item i _ _ _ hlt hst' fun v h₂ tk₂ hPv hst₂ hk₂ => ?_
      have hk₂' : ∀ {b : Addr} {o : Obj}, b ≠ I → h'.get? b = some o → h₂.get? b = some o := fun hb e => hk₂ _ _ (by simpa using hb) e
      refine wpAny_of_eq (a := ()) (by rfl) ?_
      refine wpAny_assign_Name (wpAny_storeName_cell hkind hx (by show List.lookup x ((x, D + 1 + 1) :: cl) = _; simp [List.lookup]) ⟨oX, hk₂' (Ne.symm hIX) gX', dX'⟩ fun h₃ hc₃ hs₃ => ?_)
      obtain ⟨oX₃, gX₃, dX₃⟩ := hc₃
      have up3 : ∀ {b : Addr} {o : Obj}, b ≠ I → b ≠ D + 1 + 1 → h'.get? b = some o → h₃.get? b = some o := fun h1 h2 e => hs₃.extBut _ _ h2 (hk₂' h1 e)
      have st₃ : h₃.get? I = some _ := hs₃.extBut _ _ hIX (show h₂.get? I = some _ from hst₂)
      have F₃ : Fr h₀ L h₃ m := (fr_but F' hk₂ hIL hI₀).change hs₃ hLX (fresh _ (Nat.le_add_right D 2))
      have nC₃ : h₃.Ns (D + 1) m' := nC'.at' fun o e => up3 (Ne.symm hIC) hCX e
      obtain ⟨oC, eC, hoC⟩ := ns_obj nC₃
      have N₃ : News h₀ L h₃ ((I, _) :: (D + 1, oC) :: (D + 1 + 1, oX₃) :: (D, lst ys) :: news') := fun q hq => by
        rcases List.mem_cons.mp hq with rfl | hq
        · exact ⟨st₃, Ne.symm hIL, hI₀⟩
        rcases List.mem_cons.mp hq with rfl | hq
        · exact ⟨eC, hLC, fresh _ (Nat.le_succ D)⟩
        rcases List.mem_cons.mp hq with rfl | hq
        · exact ⟨gX₃, hLX, fresh _ (Nat.le_add_right D 2)⟩
        rcases List.mem_cons.mp hq with rfl | hq
        · exact ⟨up3 (Ne.symm hID) hDX gD', hLD, fresh _ (Nat.le_refl _)⟩
        · exact ⟨up3 (off3 q hq).1 (off1_out off'.2 q hq) (N' q hq).1, (N' q hq).2⟩
      refine wpAny_mono (R' v I _ (D + 1) oC (D + 1 + 1) oX₃ D m' h₃ _ _ hPv hoC dX₃ F₃ N₃ off' ⟨⟨hIC, hID, Ne.symm hDC⟩, ⟨Ne.symm hIX, Ne.symm hCX, Ne.symm hDX⟩⟩) (fun y s₄ h₄ => ?_) fun _ _ e => e
      obtain ⟨h₄, tk₄, news₄, rfl, F₄, N₄, off₄, R₄⟩ := h₄
      have zI := (N₄ _ (.head _)).1
      have zC := (N₄ _ (.tail _ (.head _))).1
      have zX := (N₄ _ (.tail _ (.tail _ (.head _)))).1
      have zD := (N₄ _ (.tail _ (.tail _ (.tail _ (.head _))))).1
      have N₄' : News h₀ L h₄ news₄ := fun q hq => N₄ q (.tail _ (.tail _ (.tail _ (.tail _ hq))))
      refine append_at (hsz := by show ys.toArray.size ≤ sizeLine; rw [List.size_toArray, hyl]; exact Nat.le_trans hi hsz) zD fun h₅ hs₅ hD₅ => ?_
      have off4 := off₄.1.mem
      refine ⟨n + 1 - (i + 1), by omega, h₅, tk₄, i + 1, ys ++ [y], m', oX₃, _, news₄, rfl, hlt, rfl, by rw [List.length_append, List.length_singleton, hyl], ?_, F₄.change hs₅ hLD (fresh _ (Nat.le_refl _)), ?_, hs₅.extBut _ _ (Ne.symm hDX) zX, dX₃, ?_, fun q hq => ⟨hs₅.extBut _ _ (off4 q hq).2.2 (N₄' q hq).1, (N₄' q hq).2⟩, off₄, ?_⟩
      · show h₅.get? I = some _
        exact hs₅.extBut _ _ hID zI
      · exact hoC.ns (hs₅.extBut _ _ (Ne.symm hDC) zC)
      · exact hD₅.trans (congrArg some (lst_snoc ys y))
      · rw [show n - (i + 1) = j by omega]
        exact R₄
    · obtain rfl : i = n := Nat.le_antisymm hi (Nat.not_lt.mp hlt)
      rw [Nat.sub_self] at R'
      refine W.done _ _ _ hst' fun h₂ tk₂ hk₂ => ?_
      have hk₂' : ∀ {b : Addr} {o : Obj}, b ≠ I → h'.get? b = some o → h₂.get? b = some o := fun hb e => hk₂ _ _ (by simpa using hb) e
      exact hRR D (D + 1) h₂ tk₂ m' ys news' (fr_but F' hk₂ hIL hI₀) (fun q hq => by
        rcases List.mem_cons.mp hq with rfl | hq
        · exact ⟨hk₂' (Ne.symm hID) gD', hLD, fresh _ (Nat.le_refl _)⟩
        · exact ⟨hk₂' (off3 q hq).1 (N' q hq).1, (N' q hq).2⟩) off'.1.one (nC'.at' fun o e => hk₂' (Ne.symm hIC) e) (fresh _ (Nat.le_succ D)) (fresh _ (Nat.le_refl _)) hLC hLD (Ne.symm hDC) (fun p hp => (off3 p hp).2.1) R'
  exact codeAny_compStart_list (loop _ rfl) (W.self 0 _ _ _ hst3 (loop _ rfl))
end
section
variable {prog : Program} {w : World} {A : Around} {E : Value → Shared → Prop} {s : Shared} {h₀ : Heap} {L : Addr} {m : Str → Option Value} {env : Env}
def CellSrc (prog : Program) (w : World) (A : Around) (h₀ : Heap) (L : Addr) (m : Str → Option Value) (env : Env) (elt : PySem.Expr) (x : Str) (scope : Scope) (cl : List (Str × Addr)) (Fin : Shared → List Value → Led → Prop) (xv : Value) (s₁ : Shared) : Prop :=
  ∃ (r : Addr) (a b : Int) (t u v : Tok) (n : Nat) (news : Led), xv = .ref r ∧ A.handled = none ∧ Fr h₀ L s₁.heap m ∧ News h₀ L s₁.heap news ∧ IsRange s₁.heap r a b 1 t u v ∧ Builtin.Range.small a b 1 = true ∧ Builtin.Range.rangeSize a b 1 = ((n : Nat) : Int) ∧ n ≤ sizeLine ∧
    ∀ s₂ : Shared, (∃ h, s₂ = { s₁ with heap := h }) → CellRest prog w A h₀ L m env elt x scope cl s₂ (fun i v => ∃ t, v = .int (a + (i : Int)) t) (Fin s₂) n 0 [] news
theorem CellSrc.range {elt : PySem.Expr} {x : Str} {scope : Scope} {cl : List (Str × Addr)} {Fin : Shared → List Value → Led → Prop} {r : Addr} {a b : Int} {t u v : Tok} {n : Nat} {news : Led} {s₁ : Shared}
    (hh : A.handled = none) (F : Fr h₀ L s₁.heap m) (N : News h₀ L s₁.heap news) (hr : IsRange s₁.heap r a b 1 t u v) (hsm : Builtin.Range.small a b 1 = true) (hn : Builtin.Range.rangeSize a b 1 = ((n : Nat) : Int)) (hsz : n ≤ sizeLine)
    (h : ∀ g, CellRest prog w A h₀ L m env elt x scope cl { s₁ with heap := g } (fun i v => ∃ t, v = .int (a + (i : Int)) t) (Fin { s₁ with heap := g }) n 0 [] news) :
    CellSrc prog w A h₀ L m env elt x scope cl Fin (.ref r) s₁ := ⟨r, a, b, t, u, v, n, news, rfl, hh, F, N, hr, hsm, hn, hsz, fun _ ⟨g, e⟩ => e ▸ h g⟩
theorem ListComp_cell {elt iter : PySem.Expr} {x : Str} {px : Pos} {scope : Scope} {cl : List (Str × Addr)} {pos : Pos} {Q : Value → Shared → Prop} (_F₀ : Fr h₀ L s.heap m)
    (hclos : closureFor scope env = pure cl) (hcf : ∀ k acc, cellsFrom k scope.names acc = (x, k) :: acc) (hpc : ∀ h, pushCells h scope.names = h.push { cls := .type "cell", data := .cell none }) (hkind : scope.kind = .function)
    (hnames : ∀ y ∈ scope.names, y.2 = .local → scope.names.lookup y.1 = some .local) (hx : (compEnvC scope cl 0 env).kindOf x = some .cell)
    (h : wpAny (model prog w) A (eval iter env) (CellSrc prog w A h₀ L m env elt x scope cl (fun s₂ => FinE h₀ L m s₂ Q)) E s)
    (hs : ∀ x, foldedSetIterable iter env x = pure x := by intro _; rfl) :
    wpAny (model prog w) A (eval (.ListComp elt [⟨.Name x px, iter, [], 0⟩] scope pos) env) Q E s := by
  rw [eval_ListComp]
  refine wpAny_comprehension_free (use := none) rfl hs hclos hkind hnames (wpAny_mono h (fun xv s₁ h₁ => ?_) fun _ _ e => e)
  obtain ⟨r, a, b, t, u, v, n, news, rfl, hh, F, N, hr, hsm, hn, hsz, R⟩ := h₁
  refine wpAny_pyIter_range hr hsm ?_
  refine block_cell hh hsz hcf hpc hkind hx (by show IsRangeIter _ _ _ _ _; rw [hn]; simpa using Heap.get?_push_size _ rfl)
    (F.keeps fun _ _ e => Heap.get?_push_of_some _ e) (N.grown fun _ _ e => Heap.get?_push_of_some _ e) (Nat.ne_of_lt F.ns.lt) (next_is_new F) (fun p hp => Nat.ne_of_lt (Heap.lt_size (N p hp).1)) (R _ ⟨_, rfl⟩) ?_
  intro D C h tk m' ys news' F' N' o1 hn hC₀ hD₀ hCL hDL hCD offC fin
  refine ⟨m', hn, fun h'' hs'' => fin D h'' tk (F'.change hs'' hCL hC₀) (fun p hp => ?_) o1⟩
  refine ⟨hs''.extBut _ _ ?_ (N' p hp).1, (N' p hp).2⟩
  rcases List.mem_cons.mp hp with rfl | hp
  · exact Ne.symm hCD
  · exact offC p hp
theorem Assign_ListComp_cell {elt iter : PySem.Expr} {x y : Str} {px py : Pos} {scope : Scope} {cl : List (Str × Addr)} {pos spos : Pos} {Q : Flow → Shared → Prop} (_F₀ : Fr h₀ L s.heap m) (hLe : env.locals = L)
    (hsw : swapsWith (.ListComp elt [⟨.Name x px, iter, [], 0⟩] scope pos) (some (.Name y py)) spos.line env = pure true)
    (hclos : closureFor scope env = pure cl) (hcf : ∀ k acc, cellsFrom k scope.names acc = (x, k) :: acc) (hpc : ∀ h, pushCells h scope.names = h.push { cls := .type "cell", data := .cell none }) (hkind : scope.kind = .function)
    (hnames : ∀ y ∈ scope.names, y.2 = .local → scope.names.lookup y.1 = some .local) (hx : (compEnvC scope cl 0 env).kindOf x = some .cell)
    (hy : env.kindOf y = some .local) (hp : (env.scope.kind == .class || (env.scope.kind == .module && env.locals != env.globals)) = false)
    (h : wpAny (model prog w) A (eval iter env) (CellSrc prog w A h₀ L m env elt x scope cl (fun s₂ => FinA h₀ L m s₂ y Q)) E s)
    (hs : ∀ x, foldedSetIterable iter env x = pure x := by intro _; rfl) :
    wpAny (model prog w) A (exec (.Assign [.Name y py] (.ListComp elt [⟨.Name x px, iter, [], 0⟩] scope pos) spos) env) Q E s := by
  subst hLe
  rw [exec_Assign_Name_used _ _ _ _ hsw]
  refine wpAny_bind (wpAny_standAt (wpAny_bind ?_))
  show wpAny _ A (do let _ ← comprehension (.ListComp elt [⟨.Name x px, iter, [], 0⟩] scope pos) scope env _ (newList []) false (eval iter env) (some (assign (.Name y py) env))) _ _ s
  refine wpAny_bind (wpAny_mono (wpAny_comprehension_free (use := some (assign (.Name y py) env)) (Q := fun _ s' => Q .next s') rfl hs hclos hkind hnames
    (wpAny_mono h (fun xv s₁ h₁ => ?_) fun _ _ e => e)) (fun _ s' hq => wpAny_pure (wpAny_pure hq)) fun _ _ e => e)
  obtain ⟨r, a, b, t, u, v, n, news, rfl, hh, F, N, hr, hsm, hn, hsz, R⟩ := h₁
  refine wpAny_pyIter_range hr hsm ?_
  refine block_cell hh hsz hcf hpc hkind hx (by show IsRangeIter _ _ _ _ _; rw [hn]; simpa using Heap.get?_push_size _ rfl)
    (F.keeps fun _ _ e => Heap.get?_push_of_some _ e) (N.grown fun _ _ e => Heap.get?_push_of_some _ e) (Nat.ne_of_lt F.ns.lt) (next_is_new F) (fun p hp => Nat.ne_of_lt (Heap.lt_size (N p hp).1)) (R _ ⟨_, rfl⟩) ?_
  intro D C h tk m' ys news' F' N' o1 hn hC₀ hD₀ hCL hDL hCD offC fin
  show wpAny _ A (assign (.Name y py) env (.ref D)) _ _ _
  refine wpAny_assign_Name (wpAny_storeName_local hy F'.ns (fun h₂ hn₂ hs₂ => ?_) hp)
  have hL₀ : h₀.get? env.locals = none := Heap.get?_none_of_le F'.above
  have F₂ : Fr h₀ env.locals h₂ (fun z => if z = y then some (.ref D) else m z) := ⟨hn₂, fun b o e => hs₂.extBut b o (fun q => by rw [q, hL₀] at e; cases e) (F'.keep b o e), F'.above⟩
  refine ⟨m', hn.sameBut hs₂ hCL, fun h'' hs'' => fin D h'' _ (F₂.change hs'' hCL hC₀) (fun p hp => ?_) o1⟩
  have z : h₂.get? p.1 = some p.2 := hs₂.extBut _ _ (N' p hp).2.1 (N' p hp).1
  refine ⟨hs''.extBut _ _ ?_ z, (N' p hp).2⟩
  rcases List.mem_cons.mp hp with rfl | hp
  · exact Ne.symm hCD
  · exact offC p hp
end
theorem ints_snoc {ys : List Value} {ns : List Int} {k : Int} {t : Tok} (h : IntsAre ys ns) : IntsAre (ys ++ [.int k t]) (ns ++ [k]) := IntsAre.append h (.cons k t .nil)
section
variable {prog : Program} {w : World} {A : Around} {h₀ : Heap} {L : Addr} {m : Str → Option Value} {env : Env} {s₁ : Shared}
end
end
section
open PySem PySem.W PyProof.Rows PySem.Calls PyProof.Rows.LCg
/-! ## least, greatest -/
def mnI (ns : List Int) : Int := (ns.min?).getD 0
def mxI (ns : List Int) : Int := (ns.max?).getD 0
theorem mnI_eq {ns : List Int} {M : Int} (h1 : M ∈ ns) (h2 : ∀ a, a ∈ ns → M ≤ a) : mnI ns = M := by
  unfold mnI
  rw [List.min?_eq_some_iff.mpr ⟨h1, h2⟩]; rfl
theorem mxI_eq {ns : List Int} {M : Int} (h1 : M ∈ ns) (h2 : ∀ a, a ∈ ns → a ≤ M) : mxI ns = M := by
  unfold mxI
  rw [List.max?_eq_some_iff.mpr ⟨h1, h2⟩]; rfl
theorem mnI_mem {ns : List Int} (h : ns ≠ []) : mnI ns ∈ ns ∧ ∀ a ∈ ns, mnI ns ≤ a := by
  unfold mnI
  cases e : ns.min? with
  | none => exact absurd (List.min?_eq_none_iff.mp e) h
  | some M => exact List.min?_eq_some_iff.mp e
theorem mxI_mem {ns : List Int} (h : ns ≠ []) : mxI ns ∈ ns ∧ ∀ a ∈ ns, a ≤ mxI ns := by
  unfold mxI
  cases e : ns.max? with
  | none => exact absurd (List.max?_eq_none_iff.mp e) h
  | some M => exact List.max?_eq_some_iff.mp e
theorem sorted_ends {ns out : List Int} (hp : out.Perm ns) (ho : out.Pairwise (· ≤ ·)) (hne : 0 < ns.length) :
    out.getD 0 0 = mnI ns ∧ out.getD (out.length - 1) 0 = mxI ns := by
  have hl := hp.length_eq
  have h0 : 0 < out.length := by omega
  have g0 : out.getD 0 0 = out[0] := by simp [List.getD_eq_getElem?_getD, h0]
  have g1 : out.getD (out.length - 1) 0 = out[out.length - 1] := by rw [List.getD_eq_getElem?_getD, List.getElem?_eq_getElem]; rfl
  rw [g0, g1]
  constructor
  · refine (mnI_eq (hp.mem_iff.mp (List.getElem_mem _)) fun a ha => ?_).symm
    obtain ⟨i, hi, rfl⟩ := List.getElem_of_mem (hp.mem_iff.mpr ha)
    by_cases h : i = 0
    · subst h; exact Int.le_refl _
    · exact List.pairwise_iff_getElem.mp ho 0 i h0 hi (by omega)
  · refine (mxI_eq (hp.mem_iff.mp (List.getElem_mem _)) fun a ha => ?_).symm
    obtain ⟨i, hi, rfl⟩ := List.getElem_of_mem (hp.mem_iff.mpr ha)
    by_cases h : i = out.length - 1
    · subst h; exact Int.le_refl _
    · exact List.pairwise_iff_getElem.mp ho i _ hi (by omega) (by omega)
section
variable {w : World} {A : Around} {E : Value → Shared → Prop} {s : Shared} {h₀ : Heap} {L l : Addr} {m : Str → Option Value} {news : Led} {vs : List Value} {ns : List Int} {k : Nat} {Q : Value → Shared → Prop}
theorem my_isList (N : News h₀ L s.heap news) (hm : (l, listOf vs.toArray k) ∈ news) : s.heap.IsList l vs.toArray := kso_isList N hm rfl
theorem my_sum (hh : A.handled = none) (F : Fr h₀ L s.heap m) (N : News h₀ L s.heap news) (hm : (l, listOf vs.toArray k) ∈ news) (hi : IntsAre vs ns)
    (h : ∀ h' tk t', Fr h₀ L h' m → News h₀ L h' news → Q (.int ns.sum t') { s with heap := h', toks := tk }) : wpAny (model PR w) A (call (.builtin "sum") [.ref l]) Q E s :=
  LSm.sum_ints F N hh (my_isList N hm) hi h
theorem my_min (hh : A.handled = none) (F : Fr h₀ L s.heap m) (N : News h₀ L s.heap news) (hm : (l, listOf vs.toArray k) ∈ news) (hi : IntsAre vs ns) (hne : 0 < ns.length)
    (h : ∀ h' tk t', Fr h₀ L h' m → News h₀ L h' news → Q (.int (mnI ns) t') { s with heap := h', toks := tk }) : wpAny (model PR w) A (call (.builtin "min") [.ref l]) Q E s :=
  kso_min F N (my_isList N hm) hi hne hh fun h' M t tk F' N' a b => by rw [← mnI_eq a b]; exact h h' tk t F' N'
theorem my_max (hh : A.handled = none) (F : Fr h₀ L s.heap m) (N : News h₀ L s.heap news) (hm : (l, listOf vs.toArray k) ∈ news) (hi : IntsAre vs ns) (hne : 0 < ns.length)
    (h : ∀ h' tk t', Fr h₀ L h' m → News h₀ L h' news → Q (.int (mxI ns) t') { s with heap := h', toks := tk }) : wpAny (model PR w) A (call (.builtin "max") [.ref l]) Q E s :=
  kso_max F N (my_isList N hm) hi hne hh fun h' M t tk F' N' a b => by rw [← mxI_eq a b]; exact h h' tk t F' N'
theorem my_sorted (F : Fr h₀ L s.heap m) (N : News h₀ L s.heap news) (hm : (l, listOf vs.toArray k) ∈ news) (hi : IntsAre vs ns) (h64 : ns.length < 64) (hne : 0 < ns.length)
    (h : ∀ D vs' ns' c h', Fr h₀ L h' m → News h₀ L h' ((D, listOf vs'.toArray c) :: news) → (∀ q ∈ news, q.1 < D) → IntsAre vs' ns' → ns'.length = ns.length → ns'.getD 0 0 = mnI ns → ns'.getD (ns'.length - 1) 0 = mxI ns → Q (.ref D) { s with heap := h' }) :
    wpAny (model PR w) A (call (.builtin "sorted") [.ref l]) Q E s :=
  kso_sorted F N (my_isList N hm) hi h64 fun D vs' ns' c h' F' N' l1 hi' hl hp ho _ => h D vs' ns' c h' F' N' l1 hi' hl (sorted_ends hp ho hne).1 (sorted_ends hp ho hne).2
end
/-! ## parts -/
def prt (i : Nat) (c : Col) : Int := match i with | 0 => c.1 | 1 => c.2.1 | _ => c.2.2
def ends (i : Nat) (rows : List Row) : List Int := rows.map fun r => prt i r.1
def lowOf (i : Nat) (rows : List Row) : Int := mnI (ends i rows)
def highOf (i : Nat) (rows : List Row) : Int := mxI (ends i rows)
def manyOf (rows : List Row) : Int := (rows.map (·.2)).sum
theorem ends_length (i : Nat) (rows : List Row) : (ends i rows).length = rows.length := List.length_map _
theorem prt_ok {c : Col} (h : c.ok) (i : Nat) : 0 ≤ prt i c ∧ prt i c ≤ 250 := by
  unfold prt
  split
  · exact h.1
  · exact h.2.1
  · exact h.2.2
theorem ends_mem {rows : List Row} (G : GoodLot rows) (i : Nat) {x : Int} (h : x ∈ ends i rows) : 0 ≤ x ∧ x ≤ 250 := by
  obtain ⟨r, hr, rfl⟩ := List.mem_map.mp h
  exact prt_ok (G.ok r hr).1 i
theorem ends_ne {rows : List Row} (h : rows ≠ []) (i : Nat) : ends i rows ≠ [] := fun e => h (by simpa [ends] using e)
theorem low_ok {rows : List Row} (G : GoodLot rows) (i : Nat) : 0 ≤ lowOf i rows ∧ lowOf i rows ≤ highOf i rows ∧ highOf i rows ≤ 250 := by
  have a := mnI_mem (ends_ne G.ne i)
  have b := mxI_mem (ends_ne G.ne i)
  exact ⟨(ends_mem G i a.1).1, a.2 _ b.1, (ends_mem G i b.1).2⟩
theorem sum_bounds {l : List Int} {a b : Int} (h : ∀ x ∈ l, a ≤ x ∧ x ≤ b) : a * l.length ≤ l.sum ∧ l.sum ≤ b * l.length := by
  induction l with
  | nil => simp
  | cons x l ih =>
    have h1 := h x (List.mem_cons_self ..)
    have h2 := ih fun y hy => h y (List.mem_cons_of_mem _ hy)
    simp only [List.sum_cons, List.length_cons, Int.natCast_add, Int.mul_add]
    omega
theorem many_ok {rows : List Row} (G : GoodLot rows) : 1 ≤ manyOf rows ∧ manyOf rows ≤ 20 := by
  have h := sum_bounds (l := rows.map (·.2)) (a := 1) (b := 5) (fun x hx => by
    obtain ⟨r, hr, rfl⟩ := List.mem_map.mp hx
    exact (G.ok r hr).2)
  rw [List.length_map] at h
  have h1 : 0 < rows.length := List.length_pos_iff.mpr G.ne
  have h4 := G.len
  unfold manyOf
  omega
end
section
open PySem PySem.W PyProof.Rows PySem.Calls PyProof.Rows.LCg
/-! ## comprehensions whose elements leave the ledger as it was -/
def Same (h₀ : Heap) (L : Addr) (m : Str → Option Value) (all : Led) (s₁ s₂ : Shared) : Prop := ∃ h' tk', s₂ = { s₁ with heap := h', toks := tk' } ∧ Fr h₀ L h' m ∧ News h₀ L h' all
def IntSame (h₀ : Heap) (L : Addr) (m : Str → Option Value) (all : Led) (s₁ : Shared) (k : Int) (y : Value) (s₂ : Shared) : Prop := (∃ t, y = .int k t) ∧ Same h₀ L m all s₁ s₂
theorem Same.mk {h₀ h' : Heap} {L : Addr} {m : Str → Option Value} {all : Led} {s₁ : Shared} {tk' : Nat} (F : Fr h₀ L h' m) (N : News h₀ L h' all) : Same h₀ L m all s₁ { s₁ with heap := h', toks := tk' } := ⟨h', tk', rfl, F, N⟩
theorem IntSame.mk {h₀ h' : Heap} {L : Addr} {m : Str → Option Value} {all : Led} {s₁ : Shared} {tk' : Nat} {k : Int} {t : Tok} (F : Fr h₀ L h' m) (N : News h₀ L h' all) : IntSame h₀ L m all s₁ k (.int k t) { s₁ with heap := h', toks := tk' } := ⟨⟨t, rfl⟩, h', tk', rfl, F, N⟩
theorem news_keep {h₀ h : Heap} {L : Addr} {l l' : Led} (N : News h₀ L h l) (hs : ∀ q ∈ l', q ∈ l) : News h₀ L h l' := fun q hq => N q (hs q hq)
section
variable {prog : Program} {w : World} {A : Around} {h₀ : Heap} {L : Addr} {m : Str → Option Value} {env : Env} {s₁ : Shared}
theorem rows_ints {elt : PySem.Expr} {x x₂ : Str} {scope : Scope} {cl : List (Str × Addr)} {Fin : Shared → List Value → Led → Prop} {ax : Addr} {vs : List Value} {k : Nat} {rows : List Row} {news : Led} (f : Row → Int)
    (hh : A.handled = none) (F : Fr h₀ L s₁.heap m) (N : News h₀ L s₁.heap news) (hm : (ax, listOf vs.toArray k) ∈ news) (hrows : RowsAre news vs rows) (hsz : rows.length ≤ 1000)
    (turn : ∀ (r : Row) ta tm nt (ca : Addr) u1 u2 u3 nc I oI C oC D ys m₂ g h tk (E' : Value → Shared → Prop), r ∈ rows → (ta, tupObj #[.ref ca, .int r.2 tm] nt) ∈ news → (ca, tupObj #[.int r.1.1 u1, .int r.1.2.1 u2, .int r.1.2.2 u3] nc) ∈ news →
      NsObj oC m₂ → m₂ x = some (.ref ca) → m₂ x₂ = some (.int r.2 tm) → Fr h₀ L h m → News h₀ L h ((I, oI) :: (C, oC) :: (D, lst ys) :: news) →
      wpAny (model prog w) A (eval elt (compEnvC scope cl C env)) (IntSame h₀ L m ((I, oI) :: (C, oC) :: (D, lst ys) :: news) { s₁ with heap := h, toks := tk } (f r)) E' { heap := h, gens := ({ s₁ with heap := g } : Shared).gens, drawn := ({ s₁ with heap := g } : Shared).drawn, toks := tk, os := ({ s₁ with heap := g } : Shared).os })
    (fin : ∀ ys g, IntsAre ys (rows.map f) → ys.length = rows.length → Fin { s₁ with heap := g } ys news) :
    LCp.SrcLP prog w A h₀ L m env elt x x₂ scope cl Fin (.ref ax) s₁ := by
  have hl := hrows.length
  refine LCp.SrcLP.ledger hh F N hm (by rw [List.size_toArray, sizeLine_eq]; omega) fun g => ?_
  refine restP_inv _ (fun i ys nw => nw = news ∧ IntsAre ys ((rows.take i).map f)) ?_ ?_ _ 0 [] _ (Nat.zero_add _) ⟨rfl, IntsAre.nil⟩
  · rintro i ys nw v hi ⟨rfl, hI⟩ hv
    have hi' : i < rows.length := by rw [List.size_toArray] at hi; omega
    have hv' : vs[i]? = some v := by simpa using hv
    obtain ⟨ta, cv, tm, nt, rfl, ht, ca, u1, u2, u3, nc, rfl, hc⟩ := hrows.get hi' hv'
    refine ⟨ta, _, _, _, nt, rfl, ht, rfl, rfl, fun I oI C oC D m₂ h tk E' hC hx hx₂ F' N' off ne => ?_⟩
    refine wpAny_mono (turn rows[i] ta tm nt ca u1 u2 u3 nc I oI C oC D ys m₂ g h tk E' (List.getElem_mem hi') ht hc hC hx hx₂ F' N') (fun y s₂ he => ?_) fun _ _ e => e
    obtain ⟨⟨t, rfl⟩, h', tk', rfl, F'', N''⟩ := he
    refine ⟨h', tk', _, rfl, F'', N'', off, .inr ⟨_, hm, rfl, _, rfl⟩, rfl, ?_⟩
    rw [take_map_succ f rows i hi']
    exact ints_snoc hI
  · rintro ys nw ⟨rfl, hI⟩
    have e : (rows.take (vs.toArray.size)).map f = rows.map f := by rw [List.size_toArray, hl, List.take_length]
    rw [e] at hI
    exact fin ys g hI (by rw [hI.length, List.length_map])
theorem cell_ints {elt : PySem.Expr} {x : Str} {scope : Scope} {cl : List (Str × Addr)} {Fin : Shared → List Value → Led → Prop} {r : Addr} {b : Int} {t u v : Tok} {news : Led} (f0 f1 f2 : Int)
    (hh : A.handled = none) (F : Fr h₀ L s₁.heap m) (N : News h₀ L s₁.heap news) (hr : IsRange s₁.heap r 0 b 1 t u v) (hb : b = 3)
    (turn : ∀ (i : Int) (fi : Int), (i = 0 ∧ fi = f0) ∨ (i = 1 ∧ fi = f1) ∨ (i = 2 ∧ fi = f2) → ∀ ti I oI C oC X oX D ys m₂ g h tk (E' : Value → Shared → Prop), NsObj oC m₂ → oX.data = .cell (some (.int i ti)) → Fr h₀ L h m → News h₀ L h ((I, oI) :: (C, oC) :: (X, oX) :: (D, lst ys) :: news) →
      wpAny (model prog w) A (eval elt (compEnvC scope ((x, X) :: cl) C env)) (IntSame h₀ L m ((I, oI) :: (C, oC) :: (X, oX) :: (D, lst ys) :: news) { s₁ with heap := h, toks := tk } fi) E' { heap := h, gens := ({ s₁ with heap := g } : Shared).gens, drawn := ({ s₁ with heap := g } : Shared).drawn, toks := tk, os := ({ s₁ with heap := g } : Shared).os })
    (fin : ∀ ys g, IntsAre ys [f0, f1, f2] → Fin { s₁ with heap := g } ys news) :
    CellSrc prog w A h₀ L m env elt x scope cl Fin (.ref r) s₁ := by
  subst hb
  refine CellSrc.range (n := 3) hh F N hr (by decide) (by decide) (by rw [sizeLine_eq]; omega) fun g => ?_
  refine CellRest.succ fun v I oI C oC X oX D m₂ h tk E' hv hC hX F' N' off ne => ?_
  obtain ⟨t0, rfl⟩ := hv
  refine wpAny_mono (turn 0 f0 (.inl ⟨rfl, rfl⟩) t0 I oI C oC X oX D _ m₂ g h tk E' hC hX F' N') (fun y s₂ he => ?_) fun _ _ e => e
  obtain ⟨⟨t0', rfl⟩, h', tk', rfl, F'', N''⟩ := he
  refine ⟨h', tk', _, rfl, F'', N'', off, ?_⟩
  clear hX F' N' off ne F'' N'' hC
  refine CellRest.succ fun v I oI C oC X oX D m₂ h tk E' hv hC hX F' N' off ne => ?_
  obtain ⟨t1, rfl⟩ := hv
  refine wpAny_mono (turn 1 f1 (.inr (.inl ⟨rfl, rfl⟩)) t1 I oI C oC X oX D _ m₂ g h tk E' hC hX F' N') (fun y s₂ he => ?_) fun _ _ e => e
  obtain ⟨⟨t1', rfl⟩, h', tk', rfl, F'', N''⟩ := he
  refine ⟨h', tk', _, rfl, F'', N'', off, ?_⟩
  clear hX F' N' off ne F'' N'' hC
  refine CellRest.succ fun v I oI C oC X oX D m₂ h tk E' hv hC hX F' N' off ne => ?_
  obtain ⟨t2, rfl⟩ := hv
  refine wpAny_mono (turn 2 f2 (.inr (.inr ⟨rfl, rfl⟩)) t2 I oI C oC X oX D _ m₂ g h tk E' hC hX F' N') (fun y s₂ he => ?_) fun _ _ e => e
  obtain ⟨⟨t2', rfl⟩, h', tk', rfl, F'', N''⟩ := he
  refine ⟨h', tk', _, rfl, F'', N'', off, ?_⟩
  exact CellRest.zero (fin _ g (.cons _ _ (.cons _ _ (.cons _ _ .nil))))
theorem rng_ints {elt : PySem.Expr} {x : Str} {scope : Scope} {cl : List (Str × Addr)} {Fin : Shared → List Value → Led → Prop} {r : Addr} {b : Int} {t u v : Tok} {news : Led} (f0 f1 f2 : Int)
    (hh : A.handled = none) (F : Fr h₀ L s₁.heap m) (N : News h₀ L s₁.heap news) (hr : IsRange s₁.heap r 0 b 1 t u v) (hb : b = 3)
    (turn : ∀ (i : Int) (fi : Int), (i = 0 ∧ fi = f0) ∨ (i = 1 ∧ fi = f1) ∨ (i = 2 ∧ fi = f2) → ∀ ti I oI C oC D ys m₂ g h tk (E' : Value → Shared → Prop), NsObj oC m₂ → m₂ x = some (.int i ti) → Fr h₀ L h m → News h₀ L h ((I, oI) :: (C, oC) :: (D, lst ys) :: news) →
      wpAny (model prog w) A (eval elt (compEnvC scope cl C env)) (IntSame h₀ L m ((I, oI) :: (C, oC) :: (D, lst ys) :: news) { s₁ with heap := h, toks := tk } fi) E' { heap := h, gens := ({ s₁ with heap := g } : Shared).gens, drawn := ({ s₁ with heap := g } : Shared).drawn, toks := tk, os := ({ s₁ with heap := g } : Shared).os })
    (fin : ∀ ys g, IntsAre ys [f0, f1, f2] → Fin { s₁ with heap := g } ys news) :
    CompSrc prog w A h₀ L m env elt x scope cl Fin (.ref r) s₁ := by
  subst hb
  refine CompSrc.range (n := 3) hh F N hr (by decide) (by decide) (by rw [sizeLine_eq]; omega) fun g => ?_
  refine CompRest.succ fun v I oI C oC D m₂ h tk E' hv hC hX F' N' off ne => ?_
  obtain ⟨t0, rfl⟩ := hv
  refine wpAny_mono (turn 0 f0 (.inl ⟨rfl, rfl⟩) t0 I oI C oC D _ m₂ g h tk E' hC hX F' N') (fun y s₂ he => ?_) fun _ _ e => e
  obtain ⟨⟨t0', rfl⟩, h', tk', rfl, F'', N''⟩ := he
  refine ⟨h', tk', _, rfl, F'', N'', off, trivial, ?_⟩
  clear hX F' N' off ne F'' N'' hC
  refine CompRest.succ fun v I oI C oC D m₂ h tk E' hv hC hX F' N' off ne => ?_
  obtain ⟨t1, rfl⟩ := hv
  refine wpAny_mono (turn 1 f1 (.inr (.inl ⟨rfl, rfl⟩)) t1 I oI C oC D _ m₂ g h tk E' hC hX F' N') (fun y s₂ he => ?_) fun _ _ e => e
  obtain ⟨⟨t1', rfl⟩, h', tk', rfl, F'', N''⟩ := he
  refine ⟨h', tk', _, rfl, F'', N'', off, trivial, ?_⟩
  clear hX F' N' off ne F'' N'' hC
  refine CompRest.succ fun v I oI C oC D m₂ h tk E' hv hC hX F' N' off ne => ?_
  obtain ⟨t2, rfl⟩ := hv
  refine wpAny_mono (turn 2 f2 (.inr (.inr ⟨rfl, rfl⟩)) t2 I oI C oC D _ m₂ g h tk E' hC hX F' N') (fun y s₂ he => ?_) fun _ _ e => e
  obtain ⟨⟨t2', rfl⟩, h', tk', rfl, F'', N''⟩ := he
  refine ⟨h', tk', _, rfl, F'', N'', off, trivial, ?_⟩
  exact CompRest.zero (fin _ g (.cons _ _ (.cons _ _ (.cons _ _ .nil))))
theorem filter_take_succ {α : Type} (p : α → Bool) (l : List α) (i : Nat) (h : i < l.length) : (l.take (i + 1)).filter p = (l.take i).filter p ++ (if p l[i] = true then [l[i]] else []) := by
  rw [List.take_add_one, List.getElem?_eq_getElem h, List.filter_append]
  simp only [Option.toList_some, List.filter_cons, List.filter_nil]
theorem rows_filter {elt ct : PySem.Expr} {x : Str} {scope : Scope} {cl : List (Str × Addr)} {Fin : Shared → List Value → Led → Prop} {ax : Addr} {vs : List Value} {k : Nat} {rows : List Row} {news : Led} (p : Row → Bool)
    (hh : A.handled = none) (F : Fr h₀ L s₁.heap m) (N : News h₀ L s₁.heap news) (hm : (ax, listOf vs.toArray k) ∈ news) (hrows : RowsAre news vs rows) (hsz : rows.length ≤ 1000)
    (turn : ∀ (r : Row) ta tm nt (ca : Addr) u1 u2 u3 nc I oI C oC D ys m₂ g h tk (E' : Value → Shared → Prop), r ∈ rows → (ta, tupObj #[.ref ca, .int r.2 tm] nt) ∈ news → (ca, tupObj #[.int r.1.1 u1, .int r.1.2.1 u2, .int r.1.2.2 u3] nc) ∈ news →
      NsObj oC m₂ → m₂ x = some (.ref ta) → Fr h₀ L h m → News h₀ L h ((I, oI) :: (C, oC) :: (D, lst ys) :: news) →
      wpAny (model prog w) A (isTrue ct (compEnvC scope cl C env) (eval ct (compEnvC scope cl C env))) (fun ok s' => Hold (ok = p r ∧ Same h₀ L m ((I, oI) :: (C, oC) :: (D, lst ys) :: news) { s₁ with heap := h, toks := tk } s')) E' { heap := h, gens := ({ s₁ with heap := g } : Shared).gens, drawn := ({ s₁ with heap := g } : Shared).drawn, toks := tk, os := ({ s₁ with heap := g } : Shared).os })
    (value : ∀ v I oI C oC D ys m₂ g h tk (E' : Value → Shared → Prop), NsObj oC m₂ → m₂ x = some v → Fr h₀ L h m → News h₀ L h ((I, oI) :: (C, oC) :: (D, lst ys) :: news) →
      wpAny (model prog w) A (eval elt (compEnvC scope cl C env)) (fun y s' => Hold (y = v ∧ Same h₀ L m ((I, oI) :: (C, oC) :: (D, lst ys) :: news) { s₁ with heap := h, toks := tk } s')) E' { heap := h, gens := ({ s₁ with heap := g } : Shared).gens, drawn := ({ s₁ with heap := g } : Shared).drawn, toks := tk, os := ({ s₁ with heap := g } : Shared).os })
    (fin : ∀ ys g, RowsAre news ys (rows.filter p) → Fin { s₁ with heap := g } ys news) :
    LCt.CompSrcT prog w A h₀ L m env ct elt x scope cl Fin (.ref ax) s₁ := by
  have hl := hrows.length
  refine LCt.CompSrcT.ledger hh F N hm (by rw [List.size_toArray, sizeLine_eq]; omega) fun g => ?_
  refine restT_inv _ (fun i ys nw => nw = news ∧ RowsAre news ys ((rows.take i).filter p)) ?_ ?_ _ 0 [] _ (Nat.zero_add _) ⟨rfl, RowsAre.nil⟩
  · rintro i ys nw v I oI C oC D m₂ h tk E' hi ⟨rfl, hI⟩ hv hC hx F' N' off ne
    have hi' : i < rows.length := by rw [List.size_toArray] at hi; omega
    have hv' : vs[i]? = some v := by simpa using hv
    have hrow := hrows.get hi' hv'
    obtain ⟨ta, cv, tm, nt, rfl, ht, ca, u1, u2, u3, nc, rfl, hc⟩ := hrow
    have hS : SrcAt h₀ ax vs.toArray nw := .inr ⟨_, hm, rfl, _, rfl⟩
    refine wpAny_mono (turn rows[i] ta tm nt ca u1 u2 u3 nc I oI C oC D ys m₂ g h tk E' (List.getElem_mem hi') ht hc hC hx F' N') (fun ok s' he => ?_) fun _ _ e => e
    obtain ⟨rfl, h', tk', rfl, F'', N''⟩ := he
    have et := filter_take_succ p rows i hi'
    split
    · rename_i hp
      rw [if_pos hp] at et
      refine wpAny_mono (value _ I oI C oC D ys m₂ g h' tk' E' hC hx F'' N'') (fun y s₂ he => ?_) fun _ _ e => e
      obtain ⟨rfl, h2, tk2, rfl, F2, N2⟩ := he
      refine ⟨h2, tk2, _, rfl, F2, N2, off, hS, rfl, ?_⟩
      rw [et]
      exact hI.snoc ⟨_, _, tm, nt, rfl, ht, ca, u1, u2, u3, nc, rfl, hc⟩
    · rename_i hp
      rw [if_neg hp, List.append_nil] at et
      refine ⟨h', tk', _, rfl, F'', N'', off, hS, rfl, ?_⟩
      rw [et]
      exact hI
  · rintro ys nw ⟨rfl, hI⟩
    have e : (rows.take (vs.toArray.size)).filter p = rows.filter p := by rw [List.size_toArray, hl, List.take_length]
    rw [e] at hI
    exact fin ys g hI
end
end
section
open PySem PySem.W PyProof.Rows PySem.Calls PyProof.Rows.LCg
theorem ints3 {ys : List Value} {a b c : Int} (h : IntsAre ys [a, b, c]) : ∃ u0 u1 u2, ys = [.int a u0, .int b u1, .int c u2] := by
  cases h with
  | cons _ u0 h => cases h with
    | cons _ u1 h => cases h with
      | cons _ u2 h => cases h with
        | nil => exact ⟨u0, u1, u2, rfl⟩
abbrev boxD (w : World) (al la ha : Addr) (t1 t2 t3 : Tok) (n : Nat) : Obj :=
  dictOf [{ hash := PyData.keyHash w.params (Str.ofString "counted"), key := Value.str (Str.ofString "counted") t1, val := Value.ref al }, { hash := PyData.keyHash w.params (Str.ofString "low"), key := Value.str (Str.ofString "low") t2, val := Value.ref la }, { hash := PyData.keyHash w.params (Str.ofString "high"), key := Value.str (Str.ofString "high") t3, val := Value.ref ha }] n
abbrev int3 (a b c : Int) (u0 u1 u2 : Tok) : Obj := lst [.int a u0, .int b u1, .int c u2]
/-- a box of these rows -/
def BoxAt (w : World) (news : Led) (x al : Addr) (rows : List Row) : Prop :=
  ∃ dx la ha t1 t2 t3 n u0 u1 u2 u3 u4 u5 vs k, (x, instObj 96 dx) ∈ news ∧ (dx, boxD w al la ha t1 t2 t3 n) ∈ news ∧ (la, int3 (lowOf 0 rows) (lowOf 1 rows) (lowOf 2 rows) u0 u1 u2) ∈ news ∧ (ha, int3 (highOf 0 rows) (highOf 1 rows) (highOf 2 rows) u3 u4 u5) ∈ news ∧
    (al, listOf vs.toArray k) ∈ news ∧ RowsAre news vs rows
theorem BoxAt.mono {w : World} {news news' : Led} {x al : Addr} {rows : List Row} (h : BoxAt w news x al rows) (hs : ∀ q ∈ news, q ∈ news') : BoxAt w news' x al rows := by
  obtain ⟨dx, la, ha, t1, t2, t3, n, u0, u1, u2, u3, u4, u5, vs, k, h1, h2, h3, h4, h5, h6⟩ := h
  exact ⟨dx, la, ha, t1, t2, t3, n, u0, u1, u2, u3, u4, u5, vs, k, hs _ h1, hs _ h2, hs _ h3, hs _ h4, hs _ h5, h6.mono hs⟩
theorem news_box {h₀ h : Heap} {L : Addr} {q1 q2 q3 q4 q5 : Addr × Obj} {r : Led} (N : News h₀ L h (q1 :: q2 :: q3 :: q4 :: q5 :: r)) : News h₀ L h (q4 :: q5 :: q2 :: q1 :: r) :=
  fun q hq => N q (by simp only [List.mem_cons] at hq ⊢; rcases hq with h | h | h | h | h <;> simp [h])
section
variable {w : World} {A : Around} {E : Value → Shared → Prop} {s : Shared} {h₀ : Heap} {L l : Addr} {m : Str → Option Value} {news : Led} {vs : List Value} {k : Nat}
theorem my_item {value slice : PySem.Expr} {i : Int} {u : Tok} {v : Value} {Q : Value → Shared → Prop} (N : News h₀ L s.heap news) (hm : (l, listOf vs.toArray k) ∈ news) (h0 : 0 ≤ i) (h1 : i < 1000) (hv : vs[i.toNat]? = some v) (h : Q v s)
    (hs : subscripted slice false (.ref l) (.int i u) = operate [.ref l, .int i u] (getItem (.ref l) (.int i u)) := by with_unfolding_all rfl) (hg : ∀ r, letTemporaryGo value (.ref l) r = pure () := by intro _; with_unfolding_all rfl) :
    wpAny (model PR w) A (subscriptTail value slice (.ref l) (.int i u)) Q E s :=
  item_list (my_isList N hm) h0 (by omega) (by simpa using hv) h hs hg
end
theorem unrEnd_my {h₀ : Heap} {L I : Addr} {oI : Obj} {s₁ : Shared} {rest : (Str → Option Value) → Led → Prop} {h' : Heap} {tk : Nat} {m' : Str → Option Value} {all l : Led} (F : Fr h₀ L h' m') (N : News h₀ L h' all) (m1 : Minus (I, oI) all l) (off : ∀ q ∈ l, q.1 ≠ I) (r : rest m' l) :
    UnrEndW h₀ L s₁ [(I, oI)] rest { s₁ with heap := h', toks := tk } :=
  ⟨h', tk, m', l, rfl, F, fun p hp => by
    rcases List.mem_cons.mp hp with rfl | hp
    · exact N _ m1.mem.1
    · exact N p (m1.mem.2 p hp), fun p hp q hq => by rw [List.mem_singleton.mp hq]; exact off p hp, r⟩
theorem fLt_out {D : Addr} {l : Led} (h : ∀ q ∈ l, q.1 < D) : ∀ q ∈ l, q.1 ≠ D := fun q hq => Nat.ne_of_lt (h q hq)
theorem fLt_out1 {D : Addr} {l : Led} (h : ∀ q ∈ l, q.1 < D) : ∀ q ∈ l, q.1 ≠ D + 1 := fun q hq => Nat.ne_of_lt (Nat.lt_succ_of_lt (h q hq))
theorem fLt_out2 {D : Addr} {l : Led} (h : ∀ q ∈ l, q.1 < D) : ∀ q ∈ l, q.1 ≠ D + 1 + 1 := fun q hq => Nat.ne_of_lt (Nat.lt_succ_of_lt (Nat.lt_succ_of_lt (h q hq)))
theorem fLt_out3 {D : Addr} {l : Led} (h : ∀ q ∈ l, q.1 < D) : ∀ q ∈ l, q.1 ≠ D + 1 + 1 + 1 := fun q hq => Nat.ne_of_lt (Nat.lt_succ_of_lt (Nat.lt_succ_of_lt (Nat.lt_succ_of_lt (h q hq))))
end
section
open PySem PySem.W PyProof.Rows PySem.Calls PyProof.Rows.LCg
section
variable {prog : Program} {w : World} {A : Around} {E : Value → Shared → Prop} {s : Shared} {h₀ : Heap} {env : Env} {x : Str} {px : Pos} {body : List Stmt} {Q : Flow → Shared → Prop}
theorem letGo_name {I : Value} {v : Value} {Q' : Unit → Shared → Prop} {s' : Shared} (h : Q' () s') : wpAny (model prog w) A (letOwnedTupleGo (.Name x px) I v) Q' E s' := by
  unfold letOwnedTupleGo
  exact wpAny_pure h
theorem iter_rng3 {r : Addr} {b : Int} {t u v : Tok} {m₀ : Str → Option Value} {news : Led} (hh : A.handled = none) (F : Fr h₀ env.locals s.heap m₀) (N : News h₀ env.locals s.heap news) (hr : IsRange s.heap r 0 b 1 t u v) (hb : b = 3)
    (rest₀ : ∀ I : Addr, (∀ p ∈ news, p.1 < I) → ItemsRest prog w A E h₀ env (.Name x px) body Q s [(I, "range_iterator")] [] [.tok (fun t => .int 0 t), .tok (fun t => .int 1 t), .tok (fun t => .int 2 t)] m₀ news) :
    wpAny (model prog w) A (pyIter (.ref r)) (fun it s₂ => TurnsAt prog w A h₀ env (.Name x px) body Q E it s₂) E s := by
  subst hb
  have esz : Builtin.Range.rangeSize 0 3 1 = ((3 : Nat) : Int) := by decide
  refine wpAny_pyIter_range hr (by decide) ?_
  refine ktu_core (tk0 := s.toks) (keep := []) (KTurns.ofWalks ((Walks.range hh s.heap.objs.size 0 1 3).bound) fun i v s Q E st q => letGo_name q) (by rfl) (fun i v h hp => ?_) (fun i h st => ?_) (fun b hb => ?_) (fun b hb => by simpa using hb) (fun b hb => ?_) ?_ (fun p hp hI => ?_) ?_ (F.push _) (fun p hp => ⟨Heap.get?_push_of_some _ (N p hp).1, (N p hp).2⟩) trivial (rest₀ _ fun p hp => Heap.lt_size (N p hp).1)
  · obtain ⟨hi, t, rfl⟩ := hp
    match i, hi with
    | 0, _ => exact ⟨_, rfl, t, rfl⟩
    | 1, _ => exact ⟨_, rfl, t, rfl⟩
    | 2, _ => exact ⟨_, rfl, t, rfl⟩
    | i + 3, hi => exact absurd hi (by omega)
  · exact ⟨[(s.heap.objs.size, _)], ⟨⟨rfl, rfl⟩, trivial⟩, fun p hp => by rw [List.mem_singleton.mp hp]; exact st⟩
  · have hb' : b = s.heap.objs.size := by simpa using hb
    rw [hb']
    exact ⟨List.mem_cons_self .., next_is_new F⟩
  · have hb' : b = s.heap.objs.size := by simpa using hb
    exact .inl (by simp [hb'])
  · intro hI
    exact absurd F.ns.lt ((List.mem_singleton.mp hI) ▸ Nat.lt_irrefl _)
  · exact absurd (Heap.lt_size (N p hp).1) ((List.mem_singleton.mp hI) ▸ Nat.lt_irrefl _)
  · show IsRangeIter _ _ _ _ _
    rw [esz]
    simpa using Heap.get?_push_size _ rfl
end
end
section
open PySem PySem.W PyProof.Rows PySem.Calls PyProof.Rows.LCg
/-! ## plain law -/
def sideOf (i : Nat) (rows : List Row) : Int := (match i with | 0 => 2 | 1 => 3 | _ => 1) * (highOf i rows - lowOf i rows)
def spreadOf (rows : List Row) : Int := sideOf 0 rows ^ 2 + (sideOf 1 rows ^ 2 + (sideOf 2 rows ^ 2 + 0))
/-- green ahead of red ahead of blue -/
def longOf (rows : List Row) : Nat :=
  if sideOf 0 rows > sideOf 1 rows then (if sideOf 2 rows > sideOf 0 rows then 2 else 0) else (if sideOf 2 rows > sideOf 1 rows then 2 else 1)
def meanOf (i : Nat) (rows : List Row) : Int := ((rows.map fun r => prt i r.1 * r.2).sum + (manyOf rows).fdiv 2).fdiv (manyOf rows)
end
section
open PySem PySem.W PyProof.Rows PySem.Calls PyProof.Rows.LCg
/-- an element that is a sorted list -/
def SortSame (h₀ : Heap) (L : Addr) (m : Str → Option Value) (all : Led) (s₁ : Shared) (lo hi : Int) (n : Nat) (y : Value) (s₂ : Shared) : Prop :=
  ∃ B vs ns c, y = .ref B ∧ (∀ q ∈ all, q.1 ≠ B) ∧ IntsAre vs ns ∧ ns.length = n ∧ ns.getD 0 0 = lo ∧ ns.getD (n - 1) 0 = hi ∧ Same h₀ L m ((B, listOf vs.toArray c) :: all) s₁ s₂
section
variable {prog : Program} {w : World} {A : Around} {h₀ : Heap} {L : Addr} {m : Str → Option Value} {env : Env} {s₁ : Shared}
theorem news_up5 {h : Heap} {q0 q1 q2 q3 q4 : Addr × Obj} {r : Led} (N : News h₀ L h (q0 :: q1 :: q2 :: q3 :: q4 :: r)) : News h₀ L h (q1 :: q2 :: q3 :: q4 :: q0 :: r) :=
  fun q hq => N q (by simp only [List.mem_cons] at hq ⊢; rcases hq with h | h | h | h | h | h <;> simp [h])
theorem off4_up {I C X D B : Addr} {oI oC oX oD oB : Obj} {r : Led} (off : Off4 I C X D r) (hf : ∀ q ∈ (I, oI) :: (C, oC) :: (X, oX) :: (D, oD) :: r, q.1 ≠ B) : Off4 I C X D ((B, oB) :: r) := by
  have e := off.1.mem
  refine ⟨Off3.of fun q hq => ?_, off1_in fun q hq => ?_⟩
  · rcases List.mem_cons.mp hq with rfl | hq
    · exact ⟨(hf _ (.head _)).symm, (hf _ (.tail _ (.head _))).symm, (hf _ (.tail _ (.tail _ (.tail _ (.head _))))).symm⟩
    · exact e q hq
  · rcases List.mem_cons.mp hq with rfl | hq
    · exact (hf _ (.tail _ (.tail _ (.head _)))).symm
    · exact off1_out off.2 q hq
theorem cell_sorted {elt : PySem.Expr} {x : Str} {scope : Scope} {cl : List (Str × Addr)} {Fin : Shared → List Value → Led → Prop} {r : Addr} {b : Int} {t u v : Tok} {news : Led} (n : Nat) (lo hi : Nat → Int)
    (hh : A.handled = none) (F : Fr h₀ L s₁.heap m) (N : News h₀ L s₁.heap news) (hr : IsRange s₁.heap r 0 b 1 t u v) (hb : b = 3)
    (turn : ∀ (i : Int) (j : Nat), (i = 0 ∧ j = 0) ∨ (i = 1 ∧ j = 1) ∨ (i = 2 ∧ j = 2) → ∀ nw, (∀ q ∈ news, q ∈ nw) → ∀ ti I oI C oC X oX D ys m₂ g h tk (E' : Value → Shared → Prop), NsObj oC m₂ → oX.data = .cell (some (.int i ti)) → Fr h₀ L h m → News h₀ L h ((I, oI) :: (C, oC) :: (X, oX) :: (D, lst ys) :: nw) →
      wpAny (model prog w) A (eval elt (compEnvC scope ((x, X) :: cl) C env)) (SortSame h₀ L m ((I, oI) :: (C, oC) :: (X, oX) :: (D, lst ys) :: nw) { s₁ with heap := h, toks := tk } (lo j) (hi j) n) E' { heap := h, gens := ({ s₁ with heap := g } : Shared).gens, drawn := ({ s₁ with heap := g } : Shared).drawn, toks := tk, os := ({ s₁ with heap := g } : Shared).os })
    (fin : ∀ B0 vs0 ns0 c0 B1 vs1 ns1 c1 B2 vs2 ns2 c2 g, IntsAre vs0 ns0 → ns0.length = n → ns0.getD 0 0 = lo 0 → ns0.getD (n - 1) 0 = hi 0 → IntsAre vs1 ns1 → ns1.length = n → ns1.getD 0 0 = lo 1 → ns1.getD (n - 1) 0 = hi 1 → IntsAre vs2 ns2 → ns2.length = n → ns2.getD 0 0 = lo 2 → ns2.getD (n - 1) 0 = hi 2 →
      Fin { s₁ with heap := g } [.ref B0, .ref B1, .ref B2] ((B2, listOf vs2.toArray c2) :: (B1, listOf vs1.toArray c1) :: (B0, listOf vs0.toArray c0) :: news)) :
    CellSrc prog w A h₀ L m env elt x scope cl Fin (.ref r) s₁ := by
  subst hb
  refine CellSrc.range (n := 3) hh F N hr (by decide) (by decide) (by rw [sizeLine_eq]; omega) fun g => ?_
  refine CellRest.succ fun v I oI C oC X oX D m₂ h tk E' hv hC hX F' N' off ne => ?_
  obtain ⟨t0, rfl⟩ := hv
  refine wpAny_mono (turn 0 0 (.inl ⟨rfl, rfl⟩) _ (fun q hq => hq) t0 I oI C oC X oX D _ m₂ g h tk E' hC hX F' N') (fun y s₂ he => ?_) fun _ _ e => e
  obtain ⟨B0, vs0, ns0, c0, rfl, f0, hi0, hl0, ha0, hb0, h', tk', rfl, F'', N''⟩ := he
  refine ⟨h', tk', _, rfl, F'', news_up5 N'', off4_up off f0, ?_⟩
  clear hX F' N' off ne F'' N'' hC f0
  refine CellRest.succ fun v I oI C oC X oX D m₂ h tk E' hv hC hX F' N' off ne => ?_
  obtain ⟨t1, rfl⟩ := hv
  refine wpAny_mono (turn 1 1 (.inr (.inl ⟨rfl, rfl⟩)) _ (fun q hq => .tail _ hq) t1 I oI C oC X oX D _ m₂ g h tk E' hC hX F' N') (fun y s₂ he => ?_) fun _ _ e => e
  obtain ⟨B1, vs1, ns1, c1, rfl, f1, hi1, hl1, ha1, hb1, h', tk', rfl, F'', N''⟩ := he
  refine ⟨h', tk', _, rfl, F'', news_up5 N'', off4_up off f1, ?_⟩
  clear hX F' N' off ne F'' N'' hC f1
  refine CellRest.succ fun v I oI C oC X oX D m₂ h tk E' hv hC hX F' N' off ne => ?_
  obtain ⟨t2, rfl⟩ := hv
  refine wpAny_mono (turn 2 2 (.inr (.inr ⟨rfl, rfl⟩)) _ (fun q hq => .tail _ (.tail _ hq)) t2 I oI C oC X oX D _ m₂ g h tk E' hC hX F' N') (fun y s₂ he => ?_) fun _ _ e => e
  obtain ⟨B2, vs2, ns2, c2, rfl, f2, hi2, hl2, ha2, hb2, h', tk', rfl, F'', N''⟩ := he
  refine ⟨h', tk', _, rfl, F'', news_up5 N'', off4_up off f2, ?_⟩
  exact CellRest.zero (fin B0 vs0 ns0 c0 B1 vs1 ns1 c1 B2 vs2 ns2 c2 g hi0 hl0 ha0 hb0 hi1 hl1 ha1 hb1 hi2 hl2 ha2 hb2)
end
end
section
open PySem PySem.W PyProof.Rows PySem.Calls PyProof.Rows.LCg
/-! ## zip of a tuple and a list -/
section
variable {prog : Program} {w : World} {A : Around} {E : Value → Shared → Prop} {s : Shared}
open Builtin in
theorem tup_next {it t : Addr} {i : Nat} {items : Array Value} {x : Value} {Q : Value → Shared → Prop} (hit : s.heap.IsTupleIter it t i) (ht : s.heap.IsTuple t items) (hx : items[i]? = some x)
    (hQ : ∀ h', h'.IsTupleIter it t (i + 1) → Heap.SameBut it s.heap h' → Q x { s with heap := h' }) : wpAny (model prog w) A (SmallTypes.nextOf (.ref it)) Q E s := by
  obtain ⟨o, ho, hc, hd⟩ := id hit
  obtain ⟨ot, hot, _, n, hdt⟩ := ht
  unfold SmallTypes.nextOf
  refine wpAny_bind (wpAny_callSpecial?_slot (name := Str.ofString "__next__") hit.typeIs F.slot_tuple_iterator_next (wpAny_call_entry F.slot_tuple_iterator_next hit.typeIs F.entry_tuple_iterator_next ?_ (F.args_tuple_iterator_next_1 _)))
  show wpAny _ _ (field (.ref it) 0 >>= _) _ _ s
  refine wpAny_bind (wpAny_field ho hd (x := .ref t) rfl ?_)
  show wpAny _ _ (if (Value.ref t == Value.none) = true then _ else _) _ _ s
  rw [if_neg (show ¬ ((Value.ref t == Value.none) = true) from Bool.false_ne_true)]
  show wpAny _ _ (field (.ref it) 1 >>= _) _ _ s
  refine wpAny_bind (wpAny_field ho hd (x := .int i 0) rfl ?_)
  show wpAny _ _ (seqItems? (.ref t) >>= _) _ _ s
  refine wpAny_bind (wpAny_seqItems hot hdt ?_)
  simp only [Int.toNat_natCast, hx]
  refine wpAny_bind (wpAny_setField ho hd (by simp) (wpAny_pure ⟨x, rfl, wpAny_pure (hQ _ ?_ (Heap.SameBut.update ..))⟩))
  exact ⟨_, Heap.get?_update_self _ ho (Obj.isFreed_of_fields (Obj.data_mapFields hd _)), (Obj.cls_mapFields ..).trans hc, by rw [Obj.data_mapFields hd]; simp [rawInt]⟩
open Builtin in
theorem tup_stop {it t : Addr} {i : Nat} {items : Array Value} {Q : Value → Shared → Prop} (hh : A.handled = none) (hit : s.heap.IsTupleIter it t i) (ht : s.heap.IsTuple t items) (hx : items[i]? = none)
    (hE : ∀ h' e, Heap.ExtBut it s.heap h' → (∃ o, h'.get? e = some o ∧ o.cls = .type "StopIteration") → E (.ref e) { s with heap := h' }) : wpAny (model prog w) A (SmallTypes.nextOf (.ref it)) Q E s := by
  obtain ⟨o, ho, hc, hd⟩ := id hit
  obtain ⟨ot, hot, _, n, hdt⟩ := ht
  unfold SmallTypes.nextOf
  refine wpAny_bind (wpAny_callSpecial?_slot (name := Str.ofString "__next__") hit.typeIs F.slot_tuple_iterator_next (wpAny_call_entry F.slot_tuple_iterator_next hit.typeIs F.entry_tuple_iterator_next ?_ (F.args_tuple_iterator_next_1 _)))
  show wpAny _ _ (field (.ref it) 0 >>= _) _ _ s
  refine wpAny_bind (wpAny_field ho hd (x := .ref t) rfl ?_)
  show wpAny _ _ (if (Value.ref t == Value.none) = true then _ else _) _ _ s
  rw [if_neg (show ¬ ((Value.ref t == Value.none) = true) from Bool.false_ne_true)]
  show wpAny _ _ (field (.ref it) 1 >>= _) _ _ s
  refine wpAny_bind (wpAny_field ho hd (x := .int i 0) rfl ?_)
  show wpAny _ _ (seqItems? (.ref t) >>= _) _ _ s
  refine wpAny_bind (wpAny_seqItems hot hdt ?_)
  simp only [Int.toNat_natCast, hx]
  refine wpAny_bind (wpAny_rule (wpAny_bind (wpAny_setField ho hd (by simp) ?_)))
  show wpAny _ _ (newExc (.type "StopIteration") [] >>= _) _ _ _
  refine wpAny_bind ?_
  simp only [newExc, newTuple]
  refine wpAny_bind (wpAny_newObj_type ?_ (by size_fits))
  refine wpAny_bind (m := firstArgMember _ _) (wpAny_of_eq (a := Value.none) (by first | rfl | (simp only [firstArgMember]; rfl)) ?_)
  refine wpAny_newObj_type ?_ (by size_fits)
  simp only [raiseNew]
  refine wpAny_bind (wpAny_handled ?_)
  first | rw [show A.in1.handled = none from hh] | rw [hh]
  refine wpAny_bind (wpAny_pure (wpAny_throw ?_))
  exact hE _ _ (((Heap.SameBut.update ..).extBut.push _).push _) ⟨_, Heap.get?_push_size _ rfl, rfl⟩
end
theorem draws_tuple {prog : Program} {w : World} {A : Around} (hh : A.handled = none) (it t : Addr) (hne : t ≠ it) (items : Array Value) :
    Draws prog w A it [it, t] items.size (fun i v => items[i]? = some v) (fun i h => h.IsTupleIter it t i ∧ h.IsTuple t items) where
  live := fun _ _ st => let ⟨o, ho, _⟩ := st.1; ⟨o, ho⟩
  frame := fun _ _ _ st hk => ⟨let ⟨o, ho, r⟩ := st.1; ⟨o, hk it (by simp) o ho, r⟩, let ⟨o, ho, r⟩ := st.2; ⟨o, hk t (by simp) o ho, r⟩⟩
  item := fun i s Q E hi st hQ => by
    refine tup_next st.1 st.2 (x := items[i]) (by simp [hi]) fun h' hit' hs' => ?_
    exact hQ _ h' s.toks (by simp [hi]) ⟨hit', st.2.extBut hs'.extBut hne⟩ hs'
  done := fun s Q E st hE => tup_stop hh st.1 st.2 (by simp) hE
/-- the addresses of a zip of two drawn sources are apart -/
structure ZAp (z TI TO i1 i2 : Addr) (f1 f2 : List Addr) : Prop where
  TIz : TI ≠ z
  TOz : TO ≠ z
  i1z : i1 ≠ z
  i2z : i2 ≠ z
  TITO : TI ≠ TO
  TIi1 : TI ≠ i1
  TIi2 : TI ≠ i2
  TOi1 : TO ≠ i1
  TOi2 : TO ≠ i2
  z1 : z ∉ f1
  TO1 : TO ∉ f1
  i21 : i2 ∉ f1
  z2 : z ∉ f2
  TO2 : TO ∉ f2
  i12 : i1 ∉ f2
theorem draws_but {prog : Program} {w : World} {A : Around} {it : Addr} {fp : List Addr} {n : Nat} {P : Nat → Value → Prop} {St : Nat → Heap → Prop} (D : Draws prog w A it fp n P St) {i : Nat} {b : Addr} {h h' : Heap} (st : St i h) (hb : b ∉ fp) (hs : Heap.ExtBut b h h') : St i h' :=
  D.frame i h h' st fun c hc o e => hs c o (fun q => hb (q ▸ hc)) e
section
variable {prog : Program} {w : World} {A : Around} {E : Value → Shared → Prop} {s : Shared} {z TI TO i1 i2 : Addr} {f1 f2 : List Addr} {n : Nat} {P1 P2 : Nat → Value → Prop} {S1 S2 : Nat → Heap → Prop}
theorem zd_item (D1 : Draws prog w A i1 f1 n P1 S1) (D2 : Draws prog w A i2 f2 n P2 S2) (D : ZAp z TI TO i1 i2 f1 f2) {k : Nat} (hk : k < n) {a b : Value} {Q : Value → Shared → Prop}
    (hz : IsZip s.heap z TI TO .none) (hTI : IsPair s.heap TI (.ref i1) (.ref i2)) (hTO : IsPair s.heap TO a b) (st1 : S1 k s.heap) (st2 : S2 k s.heap)
    (hQ : ∀ x y (T : Addr) h' tk, P1 k x → P2 k y → IsZip h' z TI TO (rawInt T) → IsPair h' TO x y → S1 (k + 1) h' → S2 (k + 1) h' → IsPair h' T x y → s.heap.objs.size ≤ T →
      (∀ c o, c ≠ z → c ≠ TO → c ≠ i1 → c ≠ i2 → s.heap.get? c = some o → h'.get? c = some o) → Q (.ref T) { s with heap := h', toks := tk }) :
    wpAny (model prog w) A (Builtin.«zip.__next__» ⟨[.ref z], []⟩) (fun fin s' => ∃ v, fin = .done (.ret v) ∧ Q v s') E s := by
  show wpAny _ _ (field (.ref z) 2 >>= _) _ _ _
  refine wpAny_bind (wpAny_field hz rfl (x := .bool false) rfl ?_)
  show wpAny _ _ (field (.ref z) 3 >>= _) _ _ _
  refine wpAny_bind (wpAny_field hz rfl (x := .ref TI) rfl ?_)
  refine wpAny_bind (wpAny_seqItems hTI rfl ?_)
  show wpAny _ _ (Builtin.SmallTypes.ownedTupleIsFree (.ref z) >>= _) _ _ _
  refine wpAny_bind ?_
  unfold Builtin.SmallTypes.ownedTupleIsFree
  refine wpAny_bind (wpAny_field hz rfl (x := .none) rfl (wpAny_pure ?_))
  simp only [if_true]
  refine wpAny_bind (wpAny_rule ?_)
  refine wpAny_bind (wpAny_field hz rfl (x := .ref TO) rfl ?_)
  refine wpAny_bind (wpAny_setField_rec hz (by simp) fun g₁ hz₁ u₁ => ?_)
  replace hz₁ : IsZip g₁ z TI TO .ellipsis := hz₁
  refine wpAny_bind ?_
  simp only [List.zipIdx_cons, List.zipIdx_nil, List.forIn_cons, List.forIn_nil]
  refine wpAny_bind (wpAny_bind (wpAny_onRaise ?_))
  show wpAny _ _ (Builtin.SmallTypes.nextOf (.ref i1) >>= _) _ _ _
  refine wpAny_bind (D1.item k { s with heap := g₁ } _ _ hk (draws_but D1 st1 D.z1 u₁.extBut) fun x g₂ tk₂ hx st1₂ u₂ => wpAny_pure ?_)
  have hTO₂ : IsPair g₂ TO a b := u₂.extBut _ _ D.TOi1 (u₁.extBut _ _ D.TOz hTO)
  refine wpAny_bind (wpAny_seqItems hTO₂ rfl ?_)
  refine wpAny_bind (wpAny_updateSeq_pair hTO₂ fun g₃ hTO₃ u₃ => ?_)
  replace hTO₃ : IsPair g₃ TO x b := hTO₃
  refine wpAny_bind (wpAny_letGo (wpAny_pure ?_))
  refine wpAny_bind (wpAny_bind (wpAny_onRaise ?_))
  show wpAny _ _ (Builtin.SmallTypes.nextOf (.ref i2) >>= _) _ _ _
  refine wpAny_bind (D2.item k { s with heap := g₃, toks := tk₂ } _ _ hk (draws_but D2 (draws_but D2 (draws_but D2 st2 D.z2 u₁.extBut) D.i12 u₂.extBut) D.TO2 u₃.extBut) fun y g₄ tk₄ hy st2₄ u₄ => wpAny_pure ?_)
  have hTO₄ : IsPair g₄ TO x b := u₄.extBut _ _ D.TOi2 hTO₃
  refine wpAny_bind (wpAny_seqItems hTO₄ rfl ?_)
  refine wpAny_bind (wpAny_updateSeq_pair hTO₄ fun g₅ hTO₅ u₅ => ?_)
  replace hTO₅ : IsPair g₅ TO x y := hTO₅
  refine wpAny_bind (wpAny_letGo (wpAny_pure (wpAny_pure ?_)))
  refine wpAny_bind (wpAny_seqItems hTO₅ rfl ?_)
  refine wpAny_bind (wpAny_newTuple ?_)
  have hsz : g₅.objs.size = s.heap.objs.size := by rw [u₅.1, u₄.1, u₃.1, u₂.1, u₁.1]
  have hz₅ : IsZip g₅ z TI TO .ellipsis := u₅.extBut _ _ D.TOz.symm (u₄.extBut _ _ D.i2z.symm (u₃.extBut _ _ D.TOz.symm (u₂.extBut _ _ D.i1z.symm hz₁)))
  have keep₅ : ∀ c o, c ≠ z → c ≠ TO → c ≠ i1 → c ≠ i2 → s.heap.get? c = some o → g₅.get? c = some o := fun c o c1 c2 c3 c4 e =>
    u₅.extBut _ _ c2 (u₄.extBut _ _ c4 (u₃.extBut _ _ c2 (u₂.extBut _ _ c3 (u₁.extBut _ _ c1 e))))
  have s1₅ : S1 (k + 1) g₅ := draws_but D1 (draws_but D1 (draws_but D1 st1₂ D.TO1 u₃.extBut) D.i21 u₄.extBut) D.TO1 u₅.extBut
  have s2₅ : S2 (k + 1) g₅ := draws_but D2 st2₄ D.TO2 u₅.extBut
  have hzlt : z < g₅.objs.size := Heap.lt_size hz₅
  show wpAny _ _ (Builtin.SmallTypes.ownedTupleHandOut (.ref z) (.ref g₅.objs.size) >>= _) _ _ _
  refine wpAny_bind ?_
  unfold Builtin.SmallTypes.ownedTupleHandOut
  have hz₆ : IsZip (g₅.push { cls := .type "tuple", data := .seq #[x, y] }) z TI TO .ellipsis := Heap.get?_push_of_some _ hz₅
  refine wpAny_bind (wpAny_setField_rec hz₆ (by simp) fun g₇ hz₇ u₇ => ?_)
  replace hz₇ : IsZip g₇ z TI TO (rawInt g₅.objs.size) := hz₇
  refine wpAny_setField_rec hz₇ (by simp) fun g₈ hz₈ u₈ => ?_
  replace hz₈ : IsZip g₈ z TI TO (rawInt g₅.objs.size) := hz₈
  have up : ∀ c o, c ≠ z → g₅.get? c = some o → g₈.get? c = some o := fun c o c1 e => u₈.extBut _ _ c1 (u₇.extBut _ _ c1 (Heap.get?_push_of_some _ e))
  have hT₈ : IsPair g₈ g₅.objs.size x y := u₈.extBut _ _ (Nat.ne_of_gt hzlt) (u₇.extBut _ _ (Nat.ne_of_gt hzlt) (Heap.get?_push_size _ rfl))
  refine wpAny_pure ⟨_, rfl, ?_⟩
  exact hQ x y g₅.objs.size g₈ tk₄ hx hy hz₈ (up _ _ D.TOz hTO₅) (D1.frame _ _ _ s1₅ fun c hc o e => up c o (fun q => D.z1 (q ▸ hc)) e) (D2.frame _ _ _ s2₅ fun c hc o e => up c o (fun q => D.z2 (q ▸ hc)) e) hT₈ (Nat.le_of_eq hsz.symm)
    fun c o c1 c2 c3 c4 e => up c o c1 (keep₅ c o c1 c2 c3 c4 e)
theorem zd_stop (D1 : Draws prog w A i1 f1 n P1 S1) (D : ZAp z TI TO i1 i2 f1 f2) {a b : Value} {Q : Fin → Shared → Prop}
    (hz : IsZip s.heap z TI TO .none) (hTI : IsPair s.heap TI (.ref i1) (.ref i2)) (hTO : IsPair s.heap TO a b) (st1 : S1 n s.heap)
    (hE : ∀ h' e, (∀ c o, c ≠ z → c ≠ i1 → s.heap.get? c = some o → h'.get? c = some o) → (∃ o, h'.get? e = some o ∧ o.cls = .type "StopIteration") → E (.ref e) { s with heap := h' }) :
    wpAny (model prog w) A (Builtin.«zip.__next__» ⟨[.ref z], []⟩) Q E s := by
  show wpAny _ _ (field (.ref z) 2 >>= _) _ _ _
  refine wpAny_bind (wpAny_field hz rfl (x := .bool false) rfl ?_)
  show wpAny _ _ (field (.ref z) 3 >>= _) _ _ _
  refine wpAny_bind (wpAny_field hz rfl (x := .ref TI) rfl ?_)
  refine wpAny_bind (wpAny_seqItems hTI rfl ?_)
  show wpAny _ _ (Builtin.SmallTypes.ownedTupleIsFree (.ref z) >>= _) _ _ _
  refine wpAny_bind ?_
  unfold Builtin.SmallTypes.ownedTupleIsFree
  refine wpAny_bind (wpAny_field hz rfl (x := .none) rfl (wpAny_pure ?_))
  simp only [if_true]
  refine wpAny_bind (wpAny_rule ?_)
  refine wpAny_bind (wpAny_field hz rfl (x := .ref TO) rfl ?_)
  refine wpAny_bind (wpAny_setField_rec hz (by simp) fun g₁ hz₁ u₁ => ?_)
  replace hz₁ : IsZip g₁ z TI TO .ellipsis := hz₁
  refine wpAny_bind ?_
  simp only [List.zipIdx_cons, List.zipIdx_nil, List.forIn_cons, List.forIn_nil]
  refine wpAny_bind (wpAny_bind (wpAny_onRaise ?_))
  show wpAny _ _ (Builtin.SmallTypes.nextOf (.ref i1) >>= _) _ _ _
  refine wpAny_bind (D1.done { s with heap := g₁ } _ _ (draws_but D1 st1 D.z1 u₁.extBut) fun g₂ e u₂ he => ?_)
  obtain ⟨oe, hoe, hce⟩ := he
  have hz₂ : IsZip g₂ z TI TO .ellipsis := u₂ _ _ D.i1z.symm hz₁
  have hez : e ≠ z := fun q => by subst q; rw [hz₂] at hoe; cases hoe; simp at hce
  refine wpAny_setField_rec hz₂ (by simp) fun g₃ _ u₃ => hE g₃ e (fun c o c1 c3 q => u₃.extBut _ _ c1 (u₂ _ _ c3 (u₁.extBut _ _ c1 q))) ⟨oe, u₃.extBut _ _ hez hoe, hce⟩
end
theorem isPair_tup {h : Heap} {T : Addr} {a b : Value} (x : IsPair h T a b) : h.IsTuple T #[a, b] := ⟨_, x, rfl, _, rfl⟩
theorem walks_zip {prog : Program} {w : World} {A : Around} {z TI TO i1 i2 : Addr} {f1 f2 : List Addr} {n : Nat} {P1 P2 : Nat → Value → Prop} {S1 S2 : Nat → Heap → Prop} (D1 : Draws prog w A.in1 i1 f1 n P1 S1) (D2 : Draws prog w A.in1 i2 f2 n P2 S2)
    (D : ZAp z TI TO i1 i2 f1 f2) (m1 : i1 ∈ f1) (m2 : i2 ∈ f2) (t1 : TI ∉ f1) (t2 : TI ∉ f2) :
    WalksT prog w A z (z :: TI :: TO :: (f1 ++ f2)) [z, TO, i1, i2] n (fun i vals => ∃ x y, P1 i x ∧ P2 i y ∧ vals = #[x, y])
      (fun i h => IsZip h z TI TO .none ∧ IsPair h TI (.ref i1) (.ref i2) ∧ (∃ a b, IsPair h TO a b) ∧ S1 i h ∧ S2 i h)
      (fun i T h => IsZip h z TI TO (rawInt T) ∧ IsPair h TI (.ref i1) (.ref i2) ∧ (∃ a b, IsPair h TO a b) ∧ S1 (i + 1) h ∧ S2 (i + 1) h ∧ T ≠ z ∧ T ≠ TO ∧ T ≠ i1 ∧ T ≠ i2) where
  sub := fun c hc => by
    simp only [List.mem_cons, List.not_mem_nil, or_false] at hc
    rcases hc with rfl | rfl | rfl | rfl <;> simp [*]
  frame := fun i h h' hst hk => by
    obtain ⟨hz, hTI, ⟨a, b, hTO⟩, s1, s2⟩ := hst
    exact ⟨hk z (by simp) _ hz, hk TI (by simp) _ hTI, ⟨a, b, hk TO (by simp) _ hTO⟩, D1.frame _ _ _ s1 fun c hc o e => hk c (by simp [hc]) o e, D2.frame _ _ _ s2 fun c hc o e => hk c (by simp [hc]) o e⟩
  item := fun i s Q E hi hst hQ => by
    obtain ⟨hz, hTI, ⟨a, b, hTO⟩, s1, s2⟩ := hst
    have hT : s.TypeIs (.ref z) "zip" := ⟨_, hz, rfl⟩
    obtain ⟨o1, e1⟩ := D1.live _ _ s1
    obtain ⟨o2, e2⟩ := D2.live _ _ s2
    unfold pyNext
    refine wpAny_bind (wpAny_attempt (wpAny_callSpecial?_slot (name := Str.ofString "__next__") hT F.slot_zip_next (wpAny_call_entry F.slot_zip_next hT F.entry_zip_next
      (zd_item D1 D2 D hi hz hTI hTO s1 s2 fun x y T h' tk hx hy a1 a2 a3 a4 a5 hle hk => wpAny_pure ?_) (F.args_zip_next_1 _))))
    have lt : ∀ {c o}, s.heap.get? c = some o → T ≠ c := fun e => Nat.ne_of_gt (Nat.lt_of_lt_of_le (Heap.lt_size e) hle)
    exact hQ T #[x, y] h' tk ⟨x, y, hx, hy, rfl⟩ hle (isPair_tup a5) ⟨a1, hk _ _ D.TIz D.TITO D.TIi1 D.TIi2 hTI, ⟨_, _, a2⟩, a3, a4, lt hz, lt hTO, lt e1, lt e2⟩
      fun c o hc e => hk c o (fun q => hc (by simp [q])) (fun q => hc (by simp [q])) (fun q => hc (by simp [q])) (fun q => hc (by simp [q])) e
  go := fun elts k pos i T s Q E hm hQ => by
    obtain ⟨hz, hTI, ⟨a, b, hTO⟩, s1, s2, _⟩ := hm
    refine wpAny_letOwnedTupleGo_zip hz fun h' hz' hs' => hQ h' ⟨hz', hs'.extBut _ _ D.TIz hTI, ⟨a, b, hs'.extBut _ _ D.TOz hTO⟩, draws_but D1 s1 D.z1 hs'.extBut, draws_but D2 s2 D.z2 hs'.extBut⟩ fun c o hc e => hs'.extBut _ _ (fun q => hc (by simp [q])) e
  apart := fun i T h hm hT => by
    obtain ⟨_, _, _, _, _, n1, n2, n3, n4⟩ := hm
    simp only [List.mem_cons, List.not_mem_nil, or_false] at hT
    rcases hT with h | h | h | h
    · exact n1 h
    · exact n2 h
    · exact n3 h
    · exact n4 h
  done := fun s Q E hst hQ => by
    obtain ⟨hz, hTI, ⟨a, b, hTO⟩, s1, s2⟩ := hst
    have hT : s.TypeIs (.ref z) "zip" := ⟨_, hz, rfl⟩
    unfold pyNext
    refine wpAny_bind (wpAny_attempt (wpAny_callSpecial?_slot (name := Str.ofString "__next__") hT F.slot_zip_next (wpAny_call_entry F.slot_zip_next hT F.entry_zip_next
      (zd_stop D1 D hz hTI hTO s1 fun h' e hk he => ?_) (F.args_zip_next_1 _))))
    obtain ⟨o, ho, hc⟩ := he
    refine wpAny_bind (wpAny_isInstance (T := "StopIteration") (b := true) ⟨o, ho, hc⟩ isSubtype_stop ?_)
    exact wpAny_pure (hQ _ _ fun c o hc e => hk c o (fun q => hc (by simp [q])) (fun q => hc (by simp [q])) e)
  self := fun i s Q E hst hQ => wpAny_pyIter_zip hst.1 hQ
/-- making one -/
theorem meets_zip_tl (l1 l2 : Addr) (xs ys : Array Value) :
    Meets (Builtin.«zip.__new__» ⟨[.type "zip", .ref l1, .ref l2], []⟩) (fun _ R s => s.heap.IsTuple l1 xs ∧ s.heap.IsList l2 ys ∧
      ∀ H1 H2 H3 H4 H5 : Heap, H1 = s.heap.push { cls := .type "tuple_iterator", data := .fields #[.ref l1, .int 0 0] } → H2 = H1.push { cls := .type "list_iterator", data := .fields #[.ref l2, .int 0 0] } →
        H3 = H2.push { cls := .type "tuple", data := .seq #[.ref s.heap.objs.size, .ref H1.objs.size] } → H4 = H3.push { cls := .type "tuple", data := .seq #[.none, .none] } →
        H5 = H4.push { cls := .type "zip", data := .fields #[.none, .bool false, .bool false, .ref H2.objs.size, .ref H3.objs.size] } → R (.ok (.ret (.ref H4.objs.size))) { s with heap := H5 }) :=
  .of_wp fun prog w A R s h => by
    obtain ⟨hp, g, d, tk, os⟩ := s; obtain ⟨hl1, hl2, h⟩ := h
    have hsub := sub_zip
    have hL1 : Heap.IsTuple (Shared.heap ⟨hp, g, d, tk, os⟩) l1 xs := hl1
    have hL2 : Heap.IsList (Shared.heap ⟨hp.push { cls := .type "tuple_iterator", data := .fields #[.ref l1, .int 0 0] }, g, d, tk, os⟩) l2 ys := Heap.IsList.push hl2 _
    wp_walk using wpAny_pyIter_tuple hL1, wpAny_pyIter_list hL2
    exact ⟨_, rfl, h _ _ _ _ _ rfl rfl rfl rfl rfl⟩
end
section
open PySem PySem.W PyProof.Rows PySem.Calls PyProof.Rows.LCg
/-! ## comprehensions over pairs that a source hands out; the elements leave the heap alone -/
theorem range_map_succ {f : Nat → Int} (i : Nat) : (List.range (i + 1)).map f = (List.range i).map f ++ [f i] := by rw [List.range_succ, List.map_append]; rfl
theorem range_filter_succ {f : Nat → Int} {p : Nat → Bool} (i : Nat) : ((List.range (i + 1)).filter p).map f = ((List.range i).filter p).map f ++ (if p i = true then [f i] else []) := by
  rw [List.range_succ, List.filter_append, List.map_append]
  by_cases h : p i = true
  · rw [if_pos h, List.filter_cons_of_pos h]; rfl
  · rw [if_neg h, List.filter_cons_of_neg h]; rfl
section
variable {prog : Program} {w : World} {A : Around} {E : Value → Shared → Prop} {h₀ : Heap} {L : Addr} {m : Str → Option Value} {env : Env}
/-- what a turn knows -/
def QuietInt (s₁ : Shared) (k : Int) (y : Value) (s₂ : Shared) : Prop := ∃ t tk', y = .int k t ∧ s₂ = { s₁ with toks := tk' }
def QuietBool (s₁ : Shared) (b : Bool) (y : Bool) (s₂ : Shared) : Prop := ∃ tk', y = b ∧ s₂ = { s₁ with toks := tk' }
theorem pair_block {elt iter : PySem.Expr} {a b : Str} {pa pb tp : Pos} {kk : Nat} {scope : Scope} {cl : List (Str × Addr)} {pos : Pos} {s₂ : Shared} {I : Addr} {fp wr : List Addr} {n : Nat} {Pt : Nat → Array Value → Prop} {St : Nat → Heap → Prop} {Mid : Nat → Addr → Heap → Prop}
    {R : Nat → Value → Value → Prop} {news : Led} {RR : Value → Addr → Result → Shared → Prop} (f : Nat → Int)
    (W : WalksT prog w A I fp wr n Pt St Mid) (hh : A.handled = none) (hsz : n ≤ sizeLine) (hP : ∀ i vals, Pt i vals → ∃ x y, vals = #[x, y] ∧ R i x y)
    (hcell : ∀ y ∈ scope.names, y.2 ≠ .cell) (hkind : scope.kind = .function) (hxa : scope.names.lookup a = some .local) (hxb : scope.names.lookup b = some .local) (hab : ¬ a = b)
    (hst : St 0 s₂.heap) (hfp : ∀ b ∈ fp, b < s₂.heap.objs.size) (F : Fr h₀ L s₂.heap m) (N : News h₀ L s₂.heap news) (hwr : ∀ b ∈ wr, h₀.get? b = none ∧ b ≠ L) (off : ∀ p ∈ news, p.1 ∉ wr)
    (turn : ∀ i x y C oC D ys m₂ h tk (E' : Value → Shared → Prop), i < n → R i x y → NsObj oC m₂ → m₂ a = some x → m₂ b = some y → Fr h₀ L h m → News h₀ L h ((C, oC) :: (D, lst ys) :: news) →
      wpAny (model prog w) A (eval elt (compEnvC scope cl C env)) (QuietInt { s₂ with heap := h, toks := tk } (f i)) E' { s₂ with heap := h, toks := tk })
    (hRR : ∀ D C h tk m' ys, Fr h₀ L h m → News h₀ L h ((D, lst ys) :: news) → Off1 D news → h.Ns C m' → h₀.get? C = none → h₀.get? D = none → C ≠ L → D ≠ L → C ≠ D → (∀ p ∈ news, p.1 ≠ C) → IntsAre ys ((List.range n).map f) → RR (.ref D) C (.ok .next) { s₂ with heap := h, toks := tk }) :
    wpAny (model prog w) A (newList []) (fun acc s₃ => wpAny (model prog w) A (newFunctionEnv scope env.globals cl [] env.qual none .none (some env)) (fun cenv s₄ =>
      codeAny (model prog w) A (.compStart (.ListComp elt [⟨.Tuple [.Name a pa, .Name b pb] kk tp, iter, [], 0⟩] scope pos) 0 (.ref I) acc { cenv with scope := relabel scope env }) (RR acc cenv.locals) s₄) E s₃) E s₂ := by
  refine wpAny_newObj_type (wpAny_newFunctionEnv hcell (by intro y hy; simp at hy) (fun h₁ hns₁ hsb₁ => ?_) hkind)
  dsimp only at hns₁ hsb₁ ⊢
  generalize hH2 : s₂.heap.push { cls := .type "list", dict := none, data := .seq ([] : List Value).toArray } = H2 at hns₁ hsb₁ ⊢
  have hC : H2.objs.size = s₂.heap.objs.size + 1 := by rw [← hH2, Heap.size_push]
  have hDC : s₂.heap.objs.size ≠ H2.objs.size := by rw [hC]; exact Nat.ne_of_lt (Nat.lt_succ_self _)
  have below : ∀ b, b < s₂.heap.objs.size → b ≠ H2.objs.size ∧ b ≠ s₂.heap.objs.size := fun b hb => ⟨by rw [hC]; exact Nat.ne_of_lt (Nat.lt_succ_of_lt hb), Nat.ne_of_lt hb⟩
  have old : ∀ b o, s₂.heap.get? b = some o → h₁.get? b = some o := fun b o e => hsb₁.extBut b o (below b (Heap.lt_size e)).1 (Heap.get?_push_of_some _ (hH2 ▸ Heap.get?_push_of_some _ e))
  have hacc : h₁.get? s₂.heap.objs.size = some (lst []) := hsb₁.extBut _ _ hDC (Heap.get?_push_of_some _ (hH2 ▸ Heap.get?_push_size _ rfl))
  have hst₁ : St 0 h₁ := W.frame _ _ _ hst fun b _ o e => old b o e
  have fresh₀ : ∀ a, s₂.heap.objs.size ≤ a → h₀.get? a = none := fun a ha => by
    cases e : h₀.get? a with
    | none => rfl
    | some o' => exact absurd (Heap.lt_size (F.keep a o' e)) (Nat.not_lt.mpr ha)
  have hD₀ : h₀.get? s₂.heap.objs.size = none := fresh₀ _ (Nat.le_refl _)
  have hC₀ : h₀.get? H2.objs.size = none := fresh₀ _ (by rw [hC]; exact Nat.le_succ _)
  have hLlt : L < s₂.heap.objs.size := F.ns.lt
  have hDL : s₂.heap.objs.size ≠ L := Ne.symm (below L hLlt).2
  have hCL : H2.objs.size ≠ L := Ne.symm (below L hLlt).1
  have fpC : ∀ b ∈ fp, b ≠ H2.objs.size := fun b hb => (below b (hfp b hb)).1
  have fpD : ∀ b ∈ fp, b ≠ s₂.heap.objs.size := fun b hb => (below b (hfp b hb)).2
  have hCwr : H2.objs.size ∉ wr := fun hm => fpC _ (W.sub _ hm) rfl
  have hDwr : s₂.heap.objs.size ∉ wr := fun hm => fpD _ (W.sub _ hm) rfl
  have hLwr : L ∉ wr := fun hm => (hwr _ hm).2 rfl
  have offC : ∀ p ∈ news, p.1 ≠ H2.objs.size := fun p hp => (below _ (Heap.lt_size (N p hp).1)).1
  have offD : ∀ p ∈ news, p.1 ≠ s₂.heap.objs.size := fun p hp => (below _ (Heap.lt_size (N p hp).1)).2
  have wr₀ : ∀ b o, h₀.get? b = some o → b ∉ wr := fun b o e hm => by rw [(hwr b hm).1] at e; cases e
  have loop : ∀ s₃ : Shared, s₃ = { s₂ with heap := h₁, toks := s₂.toks + ([] : List (Str × Value)).length } →
      codeAny (model prog w) A (.compLoop (.ListComp elt [⟨.Tuple [.Name a pa, .Name b pb] kk tp, iter, [], 0⟩] scope pos) 0 (.ref I) (.ref s₂.heap.objs.size) (compEnvC scope cl H2.objs.size env)) (RR (.ref s₂.heap.objs.size) H2.objs.size) s₃ := by
    rintro s₃ rfl
    refine kcp_loop
      (fun k s' => ∃ h' tk i ys m', s' = { s₂ with heap := h', toks := tk } ∧ i ≤ n ∧ k = n + 1 - i ∧ ys.length ≤ i ∧ St i h' ∧ Fr h₀ L h' m ∧ h'.Ns H2.objs.size m' ∧ News h₀ L h' ((s₂.heap.objs.size, lst ys) :: news) ∧ IntsAre ys ((List.range i).map f)) ?_ (n + 1)
      ⟨h₁, _, 0, [], _, rfl, Nat.zero_le _, rfl, Nat.le_refl _, hst₁, F.keeps old, hns₁, fun p hp => ?_, IntsAre.nil⟩
    · rintro k s' ⟨h', tk, i, ys, m', rfl, hi, rfl, hyl, hst', F', hn', N', hI⟩
      by_cases hlt : i < n
      · refine W.item i _ _ _ hlt hst' fun T vals h₂ tk₂ hPt _ hT hM hk₂ => ?_
        obtain ⟨x, y, rfl, hR⟩ := hP i _ hPt
        have hTwr : T ∉ wr := W.apart _ _ _ hM
        refine W.go _ _ _ i T _ _ _ hM fun h₃ hst₃ hk₃ => ?_
        have hT₃ : h₃.IsTuple T #[x, y] := by obtain ⟨o, ho, r⟩ := hT; exact ⟨o, hk₃ T o hTwr ho, r⟩
        have up₃ : ∀ c o, c ∉ wr → h'.get? c = some o → h₃.get? c = some o := fun c o hc e => hk₃ c o hc (hk₂ c o hc e)
        refine kcp_assign (env := compEnvC scope cl H2.objs.size env) hh hT₃ (lookup_relabel_local hxa) (lookup_relabel_local hxb) (by simp [compEnvC, relabel, hkind]) (hn'.at' fun o e => up₃ _ o hCwr e) fun h₄ tk₄ hn₄ hs₄ => ?_
        have up : ∀ c o, c ∉ wr → c ≠ H2.objs.size → h'.get? c = some o → h₄.get? c = some o := fun c o h1 h2 e => hs₄ c o h2 (up₃ c o h1 e)
        have st₄ : St (i + 1) h₄ := W.frame _ _ _ hst₃ fun b hb o e => hs₄ b o (fpC b hb) e
        obtain ⟨oC, heC, hoC⟩ := ns_obj hn₄
        have F₄ : Fr h₀ L h₄ m := ⟨F'.ns.at' fun o e => up _ o hLwr (Ne.symm hCL) e, fun c o e => up c o (wr₀ c o e) (fun q => by rw [q, hC₀] at e; cases e) (F'.keep c o e), F'.above⟩
        have N₄ : News h₀ L h₄ ((H2.objs.size, oC) :: (s₂.heap.objs.size, lst ys) :: news) := fun q hq => by
          rcases List.mem_cons.mp hq with rfl | hq
          · exact ⟨heC, hCL, hC₀⟩
          · have z := N' q hq
            refine ⟨up _ _ ?_ ?_ z.1, z.2⟩
            · rcases List.mem_cons.mp hq with rfl | hq
              · exact hDwr
              · exact off q hq
            · rcases List.mem_cons.mp hq with rfl | hq
              · exact hDC
              · exact offC q hq
        refine wpAny_mono (turn i x y H2.objs.size oC s₂.heap.objs.size ys _ h₄ _ _ hlt hR hoC (by simp [hab]) (by simp) F₄ N₄) (fun v s₅ h₅ => ?_) fun _ _ e => e
        obtain ⟨t, tk₅, rfl, rfl⟩ := h₅
        have zC := (N₄ _ (.head _)).1
        have zD := (N₄ _ (.tail _ (.head _))).1
        refine append_at (hsz := by show ys.toArray.size ≤ sizeLine; rw [List.size_toArray]; omega) zD fun h₆ hs₆ hD₆ => ?_
        refine ⟨n + 1 - (i + 1), by omega, h₆, tk₅, i + 1, ys ++ [.int (f i) t], _, rfl, hlt, rfl, by rw [List.length_append, List.length_singleton]; omega, W.frame _ _ _ st₄ fun b hb o e => hs₆.extBut b o (fpD b hb) e, F₄.change hs₆ hDL hD₀,
          (hoC.ns zC).sameBut hs₆ (Ne.symm hDC), fun q hq => ?_, by rw [range_map_succ]; exact ints_snoc hI⟩
        rcases List.mem_cons.mp hq with rfl | hq
        · exact ⟨hD₆.trans (congrArg some (lst_snoc ys _)), hDL, hD₀⟩
        · have z := N₄ q (.tail _ (.tail _ hq)); exact ⟨hs₆.extBut _ _ (offD q hq) z.1, z.2⟩
      · obtain rfl : i = n := Nat.le_antisymm hi (Nat.not_lt.mp hlt)
        refine W.done _ _ _ hst' fun h₂ tk₂ hk₂ => ?_
        exact hRR _ _ h₂ tk₂ _ ys ⟨F'.ns.at' fun o e => hk₂ _ o hLwr e, fun c o e => hk₂ c o (wr₀ c o e) (F'.keep c o e), F'.above⟩ (fun p hp => ⟨hk₂ _ _ (by
          rcases List.mem_cons.mp hp with rfl | hp
          · exact hDwr
          · exact off p hp) (N' p hp).1, (N' p hp).2⟩) (off1_in offD) (hn'.at' fun o e => hk₂ _ o hCwr e) hC₀ hD₀ hCL hDL (Ne.symm hDC) offC hI
    · rcases List.mem_cons.mp hp with rfl | hp
      · exact ⟨hacc, hDL, hD₀⟩
      · exact ⟨old _ _ (N p hp).1, (N p hp).2⟩
  exact codeAny_compStart_list (loop _ rfl) (W.self 0 _ _ _ hst₁ (loop _ rfl))
theorem pair_block_if {elt iter ct : PySem.Expr} {a b : Str} {pa pb tp : Pos} {kk : Nat} {scope : Scope} {cl : List (Str × Addr)} {pos : Pos} {s₂ : Shared} {I : Addr} {fp wr : List Addr} {n : Nat} {Pt : Nat → Array Value → Prop} {St : Nat → Heap → Prop} {Mid : Nat → Addr → Heap → Prop}
    {R : Nat → Value → Value → Prop} {news : Led} {RR : Value → Addr → Result → Shared → Prop} (f : Nat → Int) (p : Nat → Bool)
    (W : WalksT prog w A I fp wr n Pt St Mid) (hh : A.handled = none) (hsz : n ≤ sizeLine) (hP : ∀ i vals, Pt i vals → ∃ x y, vals = #[x, y] ∧ R i x y)
    (hcell : ∀ y ∈ scope.names, y.2 ≠ .cell) (hkind : scope.kind = .function) (hxa : scope.names.lookup a = some .local) (hxb : scope.names.lookup b = some .local) (hab : ¬ a = b)
    (hst : St 0 s₂.heap) (hfp : ∀ b ∈ fp, b < s₂.heap.objs.size) (F : Fr h₀ L s₂.heap m) (N : News h₀ L s₂.heap news) (hwr : ∀ b ∈ wr, h₀.get? b = none ∧ b ≠ L) (off : ∀ p ∈ news, p.1 ∉ wr)
    (test : ∀ i x y C oC D ys m₂ h tk (E' : Value → Shared → Prop), i < n → R i x y → NsObj oC m₂ → m₂ a = some x → m₂ b = some y → Fr h₀ L h m → News h₀ L h ((C, oC) :: (D, lst ys) :: news) →
      wpAny (model prog w) A (isTrue ct (compEnvC scope cl C env) (eval ct (compEnvC scope cl C env))) (QuietBool { s₂ with heap := h, toks := tk } (p i)) E' { s₂ with heap := h, toks := tk })
    (turn : ∀ i x y C oC D ys m₂ h tk (E' : Value → Shared → Prop), i < n → R i x y → NsObj oC m₂ → m₂ a = some x → m₂ b = some y → Fr h₀ L h m → News h₀ L h ((C, oC) :: (D, lst ys) :: news) →
      wpAny (model prog w) A (eval elt (compEnvC scope cl C env)) (QuietInt { s₂ with heap := h, toks := tk } (f i)) E' { s₂ with heap := h, toks := tk })
    (hRR : ∀ D C h tk m' ys, Fr h₀ L h m → News h₀ L h ((D, lst ys) :: news) → Off1 D news → h.Ns C m' → h₀.get? C = none → h₀.get? D = none → C ≠ L → D ≠ L → C ≠ D → (∀ p ∈ news, p.1 ≠ C) → IntsAre ys (((List.range n).filter p).map f) → RR (.ref D) C (.ok .next) { s₂ with heap := h, toks := tk }) :
    wpAny (model prog w) A (newList []) (fun acc s₃ => wpAny (model prog w) A (newFunctionEnv scope env.globals cl [] env.qual none .none (some env)) (fun cenv s₄ =>
      codeAny (model prog w) A (.compStart (.ListComp elt [⟨.Tuple [.Name a pa, .Name b pb] kk tp, iter, [ct], 0⟩] scope pos) 0 (.ref I) acc { cenv with scope := relabel scope env }) (RR acc cenv.locals) s₄) E s₃) E s₂ := by
  refine wpAny_newObj_type (wpAny_newFunctionEnv hcell (by intro y hy; simp at hy) (fun h₁ hns₁ hsb₁ => ?_) hkind)
  dsimp only at hns₁ hsb₁ ⊢
  generalize hH2 : s₂.heap.push { cls := .type "list", dict := none, data := .seq ([] : List Value).toArray } = H2 at hns₁ hsb₁ ⊢
  have hC : H2.objs.size = s₂.heap.objs.size + 1 := by rw [← hH2, Heap.size_push]
  have hDC : s₂.heap.objs.size ≠ H2.objs.size := by rw [hC]; exact Nat.ne_of_lt (Nat.lt_succ_self _)
  have below : ∀ b, b < s₂.heap.objs.size → b ≠ H2.objs.size ∧ b ≠ s₂.heap.objs.size := fun b hb => ⟨by rw [hC]; exact Nat.ne_of_lt (Nat.lt_succ_of_lt hb), Nat.ne_of_lt hb⟩
  have old : ∀ b o, s₂.heap.get? b = some o → h₁.get? b = some o := fun b o e => hsb₁.extBut b o (below b (Heap.lt_size e)).1 (Heap.get?_push_of_some _ (hH2 ▸ Heap.get?_push_of_some _ e))
  have hacc : h₁.get? s₂.heap.objs.size = some (lst []) := hsb₁.extBut _ _ hDC (Heap.get?_push_of_some _ (hH2 ▸ Heap.get?_push_size _ rfl))
  have hst₁ : St 0 h₁ := W.frame _ _ _ hst fun b _ o e => old b o e
  have fresh₀ : ∀ a, s₂.heap.objs.size ≤ a → h₀.get? a = none := fun a ha => by
    cases e : h₀.get? a with
    | none => rfl
    | some o' => exact absurd (Heap.lt_size (F.keep a o' e)) (Nat.not_lt.mpr ha)
  have hD₀ : h₀.get? s₂.heap.objs.size = none := fresh₀ _ (Nat.le_refl _)
  have hC₀ : h₀.get? H2.objs.size = none := fresh₀ _ (by rw [hC]; exact Nat.le_succ _)
  have hLlt : L < s₂.heap.objs.size := F.ns.lt
  have hDL : s₂.heap.objs.size ≠ L := Ne.symm (below L hLlt).2
  have hCL : H2.objs.size ≠ L := Ne.symm (below L hLlt).1
  have fpC : ∀ b ∈ fp, b ≠ H2.objs.size := fun b hb => (below b (hfp b hb)).1
  have fpD : ∀ b ∈ fp, b ≠ s₂.heap.objs.size := fun b hb => (below b (hfp b hb)).2
  have hCwr : H2.objs.size ∉ wr := fun hm => fpC _ (W.sub _ hm) rfl
  have hDwr : s₂.heap.objs.size ∉ wr := fun hm => fpD _ (W.sub _ hm) rfl
  have hLwr : L ∉ wr := fun hm => (hwr _ hm).2 rfl
  have offC : ∀ p ∈ news, p.1 ≠ H2.objs.size := fun p hp => (below _ (Heap.lt_size (N p hp).1)).1
  have offD : ∀ p ∈ news, p.1 ≠ s₂.heap.objs.size := fun p hp => (below _ (Heap.lt_size (N p hp).1)).2
  have wr₀ : ∀ b o, h₀.get? b = some o → b ∉ wr := fun b o e hm => by rw [(hwr b hm).1] at e; cases e
  have loop : ∀ s₃ : Shared, s₃ = { s₂ with heap := h₁, toks := s₂.toks + ([] : List (Str × Value)).length } →
      codeAny (model prog w) A (.compLoop (.ListComp elt [⟨.Tuple [.Name a pa, .Name b pb] kk tp, iter, [ct], 0⟩] scope pos) 0 (.ref I) (.ref s₂.heap.objs.size) (compEnvC scope cl H2.objs.size env)) (RR (.ref s₂.heap.objs.size) H2.objs.size) s₃ := by
    rintro s₃ rfl
    refine kct_loop
      (fun k s' => ∃ h' tk i ys m', s' = { s₂ with heap := h', toks := tk } ∧ i ≤ n ∧ k = n + 1 - i ∧ ys.length ≤ i ∧ St i h' ∧ Fr h₀ L h' m ∧ h'.Ns H2.objs.size m' ∧ News h₀ L h' ((s₂.heap.objs.size, lst ys) :: news) ∧ IntsAre ys (((List.range i).filter p).map f)) ?_ (n + 1)
      ⟨h₁, _, 0, [], _, rfl, Nat.zero_le _, rfl, Nat.le_refl _, hst₁, F.keeps old, hns₁, fun p hp => ?_, IntsAre.nil⟩
    · rintro k s' ⟨h', tk, i, ys, m', rfl, hi, rfl, hyl, hst', F', hn', N', hI⟩
      by_cases hlt : i < n
      · refine W.item i _ _ _ hlt hst' fun T vals h₂ tk₂ hPt _ hT hM hk₂ => ?_
        obtain ⟨x, y, rfl, hR⟩ := hP i _ hPt
        have hTwr : T ∉ wr := W.apart _ _ _ hM
        refine W.go _ _ _ i T _ _ _ hM fun h₃ hst₃ hk₃ => ?_
        have hT₃ : h₃.IsTuple T #[x, y] := by obtain ⟨o, ho, r⟩ := hT; exact ⟨o, hk₃ T o hTwr ho, r⟩
        have up₃ : ∀ c o, c ∉ wr → h'.get? c = some o → h₃.get? c = some o := fun c o hc e => hk₃ c o hc (hk₂ c o hc e)
        refine kcp_assign (env := compEnvC scope cl H2.objs.size env) hh hT₃ (lookup_relabel_local hxa) (lookup_relabel_local hxb) (by simp [compEnvC, relabel, hkind]) (hn'.at' fun o e => up₃ _ o hCwr e) fun h₄ tk₄ hn₄ hs₄ => ?_
        have up : ∀ c o, c ∉ wr → c ≠ H2.objs.size → h'.get? c = some o → h₄.get? c = some o := fun c o h1 h2 e => hs₄ c o h2 (up₃ c o h1 e)
        have st₄ : St (i + 1) h₄ := W.frame _ _ _ hst₃ fun b hb o e => hs₄ b o (fpC b hb) e
        obtain ⟨oC, heC, hoC⟩ := ns_obj hn₄
        have F₄ : Fr h₀ L h₄ m := ⟨F'.ns.at' fun o e => up _ o hLwr (Ne.symm hCL) e, fun c o e => up c o (wr₀ c o e) (fun q => by rw [q, hC₀] at e; cases e) (F'.keep c o e), F'.above⟩
        have N₄ : News h₀ L h₄ ((H2.objs.size, oC) :: (s₂.heap.objs.size, lst ys) :: news) := fun q hq => by
          rcases List.mem_cons.mp hq with rfl | hq
          · exact ⟨heC, hCL, hC₀⟩
          · have z := N' q hq
            refine ⟨up _ _ ?_ ?_ z.1, z.2⟩
            · rcases List.mem_cons.mp hq with rfl | hq
              · exact hDwr
              · exact off q hq
            · rcases List.mem_cons.mp hq with rfl | hq
              · exact hDC
              · exact offC q hq
        refine wpAny_mono (test i x y H2.objs.size oC s₂.heap.objs.size ys _ h₄ _ _ hlt hR hoC (by simp [hab]) (by simp) F₄ N₄) (fun okb s₅ h₅ => ?_) fun _ _ e => e
        obtain ⟨tk₅, rfl, rfl⟩ := h₅
        have zC := (N₄ _ (.head _)).1
        have zD := (N₄ _ (.tail _ (.head _))).1
        have et := range_filter_succ (f := f) (p := p) i
        split
        · rename_i hp
          rw [if_pos hp] at et
          refine wpAny_mono (turn i x y H2.objs.size oC s₂.heap.objs.size ys _ h₄ _ _ hlt hR hoC (by simp [hab]) (by simp) F₄ N₄) (fun v s₅ h₅ => ?_) fun _ _ e => e
          obtain ⟨t, tk₆, rfl, rfl⟩ := h₅
          refine append_at (hsz := by show ys.toArray.size ≤ sizeLine; rw [List.size_toArray]; omega) zD fun h₆ hs₆ hD₆ => ?_
          refine ⟨n + 1 - (i + 1), by omega, h₆, tk₆, i + 1, ys ++ [.int (f i) t], _, rfl, hlt, rfl, by rw [List.length_append, List.length_singleton]; omega, W.frame _ _ _ st₄ fun b hb o e => hs₆.extBut b o (fpD b hb) e, F₄.change hs₆ hDL hD₀,
            (hoC.ns zC).sameBut hs₆ (Ne.symm hDC), fun q hq => ?_, by rw [et]; exact ints_snoc hI⟩
          rcases List.mem_cons.mp hq with rfl | hq
          · exact ⟨hD₆.trans (congrArg some (lst_snoc ys _)), hDL, hD₀⟩
          · have z := N₄ q (.tail _ (.tail _ hq)); exact ⟨hs₆.extBut _ _ (offD q hq) z.1, z.2⟩
        · rename_i hp
          rw [if_neg hp, List.append_nil] at et
          exact ⟨n + 1 - (i + 1), by omega, h₄, tk₅, i + 1, ys, _, rfl, hlt, rfl, by omega, st₄, F₄, hn₄, fun q hq => N₄ q (.tail _ hq), by rw [et]; exact hI⟩
      · obtain rfl : i = n := Nat.le_antisymm hi (Nat.not_lt.mp hlt)
        refine W.done _ _ _ hst' fun h₂ tk₂ hk₂ => ?_
        exact hRR _ _ h₂ tk₂ _ ys ⟨F'.ns.at' fun o e => hk₂ _ o hLwr e, fun c o e => hk₂ c o (wr₀ c o e) (F'.keep c o e), F'.above⟩ (fun p hp => ⟨hk₂ _ _ (by
          rcases List.mem_cons.mp hp with rfl | hp
          · exact hDwr
          · exact off p hp) (N' p hp).1, (N' p hp).2⟩) (off1_in offD) (hn'.at' fun o e => hk₂ _ o hCwr e) hC₀ hD₀ hCL hDL (Ne.symm hDC) offC hI
    · rcases List.mem_cons.mp hp with rfl | hp
      · exact ⟨hacc, hDL, hD₀⟩
      · exact ⟨old _ _ (N p hp).1, (N p hp).2⟩
  exact codeAny_compStart_list (loop _ rfl) (W.self 0 _ _ _ hst₁ (loop _ rfl))
end
end
section
open PySem PySem.W PyProof.Rows PySem.Calls PyProof.Rows.LCg
section
variable {prog : Program} {w : World} {A : Around} {E : Value → Shared → Prop} {s : Shared} {h₀ : Heap} {L : Addr} {m : Str → Option Value} {env : Env}
theorem call_zip_tl {l1 l2 : Addr} {xs ys : Array Value} {Q : Value → Shared → Prop} (hl1 : s.heap.IsTuple l1 xs) (hl2 : s.heap.IsList l2 ys)
    (h : ∀ h', IsZip h' (s.heap.objs.size + 4) (s.heap.objs.size + 2) (s.heap.objs.size + 3) .none → IsPair h' (s.heap.objs.size + 2) (.ref s.heap.objs.size) (.ref (s.heap.objs.size + 1)) → IsPair h' (s.heap.objs.size + 3) .none .none →
      h'.IsTupleIter s.heap.objs.size l1 0 → h'.IsListIter (s.heap.objs.size + 1) l2 0 → h'.objs.size = s.heap.objs.size + 5 → (∀ c o, s.heap.get? c = some o → h'.get? c = some o) → Q (.ref (s.heap.objs.size + 4)) { s with heap := h' }) :
    wpAny (model prog w) A (call (.type "zip") [.ref l1, .ref l2]) Q E s := by
  refine callType_new F.called_zip (by decide) (F.typeCall_zip_2 _ _) (F.newCall_zip_2 _ _) (fun obj => F.args_object_init_3 obj _ _) F.entry_zip_new (meets_zip_tl l1 l2 xs ys) ⟨hl1, hl2, ?_⟩
  intro H1 H2 H3 H4 H5 e1 e2 e3 e4 e5
  have z1 : H1.objs.size = s.heap.objs.size + 1 := by rw [e1, Heap.size_push]
  have z2 : H2.objs.size = s.heap.objs.size + 2 := by rw [e2, Heap.size_push, z1]
  have z3 : H3.objs.size = s.heap.objs.size + 3 := by rw [e3, Heap.size_push, z2]
  have z4 : H4.objs.size = s.heap.objs.size + 4 := by rw [e4, Heap.size_push, z3]
  have z5 : H5.objs.size = s.heap.objs.size + 5 := by rw [e5, Heap.size_push, z4]
  rw [z2, z3] at e5
  rw [z1] at e3
  have k2 : ∀ {c o}, H1.get? c = some o → H5.get? c = some o := fun e => by rw [e5]; exact Heap.get?_push_of_some _ (by rw [e4]; exact Heap.get?_push_of_some _ (by rw [e3]; exact Heap.get?_push_of_some _ (by rw [e2]; exact Heap.get?_push_of_some _ e)))
  have g1 : H5.get? s.heap.objs.size = some { cls := .type "tuple_iterator", data := .fields #[.ref l1, .int 0 0] } := k2 (by rw [e1]; exact Heap.get?_push_size _ rfl)
  have g2 : H5.get? (s.heap.objs.size + 1) = some { cls := .type "list_iterator", data := .fields #[.ref l2, .int 0 0] } := by
    rw [e5]; exact Heap.get?_push_of_some _ (by rw [e4]; exact Heap.get?_push_of_some _ (by rw [e3]; exact Heap.get?_push_of_some _ (by rw [e2, ← z1]; exact Heap.get?_push_size _ rfl)))
  have g3 : IsPair H5 (s.heap.objs.size + 2) (.ref s.heap.objs.size) (.ref (s.heap.objs.size + 1)) := by
    show H5.get? _ = _
    rw [e5]; exact Heap.get?_push_of_some _ (by rw [e4]; exact Heap.get?_push_of_some _ (by rw [e3, ← z2]; exact Heap.get?_push_size _ rfl))
  have g4 : IsPair H5 (s.heap.objs.size + 3) .none .none := by
    show H5.get? _ = _
    rw [e5]; exact Heap.get?_push_of_some _ (by rw [e4, ← z3]; exact Heap.get?_push_size _ rfl)
  have g5 : IsZip H5 (s.heap.objs.size + 4) (s.heap.objs.size + 2) (s.heap.objs.size + 3) .none := by
    show H5.get? _ = _
    rw [e5, ← z4]; exact Heap.get?_push_size _ rfl
  show _ ∧ _
  rw [z4]
  exact ⟨⟨_, g5, rfl⟩, h _ g5 g3 g4 ⟨_, g1, rfl, rfl⟩ ⟨_, g2, rfl, rfl⟩ z5 fun c o x => k2 (by rw [e1]; exact Heap.get?_push_of_some _ x)⟩
def PairSrc (prog : Program) (w : World) (A : Around) (h₀ : Heap) (L : Addr) (m : Str → Option Value) (env : Env) (elt : PySem.Expr) (a b : Str) (scope : Scope) (cl : List (Str × Addr)) (Fin : Shared → List Value → Led → Prop) (xv : Value) (s₂ : Shared) : Prop :=
  ∃ (I : Addr) (fp wr : List Addr) (n : Nat) (Pt : Nat → Array Value → Prop) (St : Nat → Heap → Prop) (Mid : Nat → Addr → Heap → Prop) (R : Nat → Value → Value → Prop) (f : Nat → Int) (news : Led),
    xv = .ref I ∧ WalksT prog w A I fp wr n Pt St Mid ∧ A.handled = none ∧ n ≤ sizeLine ∧ (∀ i vals, Pt i vals → ∃ x y, vals = #[x, y] ∧ R i x y) ∧ St 0 s₂.heap ∧ (∀ b ∈ fp, b < s₂.heap.objs.size) ∧ Fr h₀ L s₂.heap m ∧ News h₀ L s₂.heap news ∧
    (∀ b ∈ wr, h₀.get? b = none ∧ b ≠ L) ∧ (∀ p ∈ news, p.1 ∉ wr) ∧
    (∀ i x y C oC D ys m₂ h tk (E' : Value → Shared → Prop), i < n → R i x y → NsObj oC m₂ → m₂ a = some x → m₂ b = some y → Fr h₀ L h m → News h₀ L h ((C, oC) :: (D, lst ys) :: news) →
      wpAny (model prog w) A (eval elt (compEnvC scope cl C env)) (QuietInt { s₂ with heap := h, toks := tk } (f i)) E' { s₂ with heap := h, toks := tk }) ∧
    ∀ ys, IntsAre ys ((List.range n).map f) → Fin s₂ ys news
theorem ListComp_pairs {elt iter : PySem.Expr} {a b : Str} {pa pb tp : Pos} {kk : Nat} {scope : Scope} {cl : List (Str × Addr)} {pos : Pos} {Q : Value → Shared → Prop} (_F₀ : Fr h₀ L s.heap m)
    (hclos : closureFor scope env = pure cl) (hcell : ∀ y ∈ scope.names, y.2 ≠ .cell) (hkind : scope.kind = .function)
    (hnames : ∀ y ∈ scope.names, y.2 = .local → scope.names.lookup y.1 = some .local) (hxa : scope.names.lookup a = some .local) (hxb : scope.names.lookup b = some .local) (hab : ¬ a = b)
    (h : wpAny (model prog w) A (eval iter env) (PairSrc prog w A h₀ L m env elt a b scope cl (fun s₂ => FinE h₀ L m s₂ Q)) E s)
    (hs : ∀ x, foldedSetIterable iter env x = pure x := by intro _; rfl) :
    wpAny (model prog w) A (eval (.ListComp elt [⟨.Tuple [.Name a pa, .Name b pb] kk tp, iter, [], 0⟩] scope pos) env) Q E s := by
  rw [eval_ListComp]
  refine wpAny_comprehension_free (use := none) rfl hs hclos hkind hnames (wpAny_mono h (fun xv s₁ h₁ => ?_) fun _ _ e => e)
  obtain ⟨I, fp, wr, n, Pt, St, Mid, R, f, news, rfl, W, hh, hsz, hP, hst, hfp, F, N, hwr, off, turn, fin⟩ := h₁
  refine W.self 0 _ _ _ hst ?_
  refine pair_block f W hh hsz hP hcell hkind hxa hxb hab hst hfp F N hwr off turn ?_
  intro D C h tk m' ys F' N' o1 hn hC₀ hD₀ hCL hDL hCD offC hI
  refine ⟨m', hn, fun h'' hs'' => fin ys hI D h'' tk (F'.change hs'' hCL hC₀) (fun p hp => ?_) o1⟩
  refine ⟨hs''.extBut _ _ ?_ (N' p hp).1, (N' p hp).2⟩
  rcases List.mem_cons.mp hp with rfl | hp
  · exact Ne.symm hCD
  · exact offC p hp
/-- zip of a tuple and a list, both in the ledger, of one length -/
theorem src_zip {elt : PySem.Expr} {a b : Str} {scope : Scope} {cl : List (Str × Addr)} {Fin : Shared → List Value → Led → Prop} {l1 l2 : Addr} {xs ys : List Value} {k1 k2 : Nat} {news : Led} (f : Nat → Int)
    (hh : A.handled = none) (F : Fr h₀ L s.heap m) (N : News h₀ L s.heap news) (hm1 : (l1, tupObj xs.toArray k1) ∈ news) (hm2 : (l2, listOf ys.toArray k2) ∈ news) (hl : ys.length = xs.length) (hsz : xs.length ≤ 1000)
    (turn : ∀ i x y C oC D zs m₂ g h tk (E' : Value → Shared → Prop), i < xs.length → xs[i]? = some x → ys[i]? = some y → NsObj oC m₂ → m₂ a = some x → m₂ b = some y → Fr h₀ L h m → News h₀ L h ((C, oC) :: (D, lst zs) :: news) →
      wpAny (model prog w) A (eval elt (compEnvC scope cl C env)) (QuietInt { ({ s with heap := g } : Shared) with heap := h, toks := tk } (f i)) E' { heap := h, gens := ({ s with heap := g } : Shared).gens, drawn := ({ s with heap := g } : Shared).drawn, toks := tk, os := ({ s with heap := g } : Shared).os })
    (fin : ∀ zs g, IntsAre zs ((List.range xs.length).map f) → Fin { s with heap := g } zs news) :
    wpAny (model prog w) A (call (.type "zip") [.ref l1, .ref l2]) (PairSrc prog w A h₀ L m env elt a b scope cl Fin) E s := by
  have hT : s.heap.IsTuple l1 xs.toArray := ⟨_, (N _ hm1).1, rfl, k1, rfl⟩
  have hL : s.heap.IsList l2 ys.toArray := ⟨_, (N _ hm2).1, rfl, k2, rfl⟩
  have hlt1 : l1 < s.heap.objs.size := Heap.lt_size (N _ hm1).1
  have hlt2 : l2 < s.heap.objs.size := Heap.lt_size (N _ hm2).1
  refine call_zip_tl hT hL fun h' hz hTI hTO hi1 hi2 hsize hk => ?_
  have hLlt : L < s.heap.objs.size := F.ns.lt
  have new₀ : ∀ b, s.heap.objs.size ≤ b → h₀.get? b = none := fun b hb => ktu_new F hb
  have D1 := draws_tuple (prog := prog) (w := w) (A := A.in1) (show A.in1.handled = none from hh) s.heap.objs.size l1 (Nat.ne_of_lt hlt1) xs.toArray
  have D2 := Draws.list (prog := prog) (w := w) (A := A.in1) (show A.in1.handled = none from hh) (s.heap.objs.size + 1) l2 (Nat.ne_of_lt (Nat.lt_succ_of_lt hlt2)) ys.toArray
  have e2 : ys.toArray.size = xs.toArray.size := by rw [List.size_toArray, List.size_toArray, hl]
  rw [e2] at D2
  have hap : ZAp (s.heap.objs.size + 4) (s.heap.objs.size + 2) (s.heap.objs.size + 3) s.heap.objs.size (s.heap.objs.size + 1) [s.heap.objs.size, l1] [s.heap.objs.size + 1, l2] := by
    have b1 : @LT.lt Nat _ l1 s.heap.objs.size := hlt1
    have b2 : @LT.lt Nat _ l2 s.heap.objs.size := hlt2
    generalize s.heap.objs.size = n at b1 b2
    constructor <;> first | (refine neN ?_; omega) | (intro hm; simp only [List.mem_cons, List.not_mem_nil, or_false] at hm; rcases hm with hm | hm <;> (revert hm; refine neN ?_; omega))
  have W := walks_zip D1 D2 hap (by simp) (by simp) (by
    intro hm
    simp only [List.mem_cons, List.not_mem_nil, or_false] at hm
    rcases hm with hm | hm
    · revert hm; generalize s.heap.objs.size = n; refine neN ?_; omega
    · exact absurd hm.symm (ktu_ne 2 hlt1)) (by
    intro hm
    simp only [List.mem_cons, List.not_mem_nil, or_false] at hm
    rcases hm with hm | hm
    · revert hm; generalize s.heap.objs.size = n; refine neN ?_; omega
    · exact absurd hm.symm (ktu_ne 2 hlt2))
  refine ⟨_, _, _, _, _, _, _, fun i x y => xs[i]? = some x ∧ ys[i]? = some y, f, news, rfl, W, hh, by rw [List.size_toArray, sizeLine_eq]; omega, ?_, ?_, ?_, F.keeps hk, N.grown hk, ?_, ?_, ?_, ?_⟩
  · rintro i vals ⟨x, y, hx, hy, rfl⟩
    exact ⟨x, y, rfl, by simpa using hx, by simpa using hy⟩
  · exact ⟨hz, hTI, ⟨_, _, hTO⟩, ⟨hi1, let ⟨o, ho, r⟩ := hT; ⟨o, hk _ _ ho, r⟩⟩, ⟨hi2, let ⟨o, ho, r⟩ := hL; ⟨o, hk _ _ ho, r⟩⟩⟩
  · intro b hb
    simp only [List.mem_cons, List.mem_append, List.not_mem_nil, or_false] at hb
    show @LT.lt Nat _ b h'.objs.size
    have b1 : @LT.lt Nat _ l1 s.heap.objs.size := hlt1
    have b2 : @LT.lt Nat _ l2 s.heap.objs.size := hlt2
    rw [hsize]
    rcases hb with rfl | rfl | rfl | (rfl | rfl) | rfl | rfl <;> omega
  · intro b hb
    simp only [List.mem_cons, List.not_mem_nil, or_false] at hb
    have b1 : @LT.lt Nat _ L s.heap.objs.size := hLlt
    rcases hb with rfl | rfl | rfl | rfl
    · exact ⟨new₀ _ (Nat.le_add_right _ _), Ne.symm (ktu_ne 4 hLlt)⟩
    · exact ⟨new₀ _ (Nat.le_add_right _ _), Ne.symm (ktu_ne 3 hLlt)⟩
    · exact ⟨new₀ _ (Nat.le_refl _), Ne.symm (Nat.ne_of_lt hLlt)⟩
    · exact ⟨new₀ _ (Nat.le_add_right _ _), Ne.symm (ktu_ne 1 hLlt)⟩
  · intro p hp hb
    simp only [List.mem_cons, List.not_mem_nil, or_false] at hb
    have hlp := Heap.lt_size (N p hp).1
    rcases hb with e | e | e | e
    · exact ktu_ne 4 hlp e
    · exact ktu_ne 3 hlp e
    · exact Nat.ne_of_lt hlp e
    · exact ktu_ne 1 hlp e
  · rintro i x y C oC D zs m₂ h tk E' hi ⟨hx, hy⟩ hC ha hb F' N'
    exact turn i x y C oC D zs m₂ h' h tk E' (by simpa using hi) hx hy hC ha hb F' N'
  · intro zs hI
    exact fin zs h' (by simpa using hI)
end
end
section
open PySem PySem.W PyProof.Rows PySem.Calls PyProof.Rows.LCg
section
variable {w : World} {A : Around} {E : Value → Shared → Prop} {s : Shared} {h₀ : Heap} {L l : Addr} {m : Str → Option Value} {news : Led} {vs : List Value} {ns : List Int} {k : Nat}
end
end
section
open PySem PySem.W PyProof.Rows PySem.Calls PyProof.Rows.LCg
section
variable {prog : Program} {w : World} {A : Around} {E : Value → Shared → Prop} {s s₁ : Shared} {h₀ : Heap} {L : Addr} {m : Str → Option Value} {env : Env}
theorem take_succ_get {α : Type} (l : List α) (i : Nat) (h : i < l.length) : l.take (i + 1) = l.take i ++ [l[i]] := by
  rw [List.take_add_one, List.getElem?_eq_getElem h]; rfl
/-- a comprehension over a list of ints, an int an element -/
theorem ints_ints {elt : PySem.Expr} {x : Str} {scope : Scope} {cl : List (Str × Addr)} {Fin : Shared → List Value → Led → Prop} {ax : Addr} {vs : List Value} {ns : List Int} {k : Nat} {news : Led} (f : Int → Int)
    (hh : A.handled = none) (F : Fr h₀ L s₁.heap m) (N : News h₀ L s₁.heap news) (hm : (ax, listOf vs.toArray k) ∈ news) (hi : IntsAre vs ns) (hsz : ns.length ≤ 1000)
    (turn : ∀ (n : Int) t I oI C oC D ys m₂ g h tk (E' : Value → Shared → Prop), n ∈ ns → NsObj oC m₂ → m₂ x = some (.int n t) → Fr h₀ L h m → News h₀ L h ((I, oI) :: (C, oC) :: (D, lst ys) :: news) →
      wpAny (model prog w) A (eval elt (compEnvC scope cl C env)) (IntSame h₀ L m ((I, oI) :: (C, oC) :: (D, lst ys) :: news) { s₁ with heap := h, toks := tk } (f n)) E' { heap := h, gens := ({ s₁ with heap := g } : Shared).gens, drawn := ({ s₁ with heap := g } : Shared).drawn, toks := tk, os := ({ s₁ with heap := g } : Shared).os })
    (fin : ∀ ys g, IntsAre ys (ns.map f) → Fin { s₁ with heap := g } ys news) :
    CompSrc prog w A h₀ L m env elt x scope cl Fin (.ref ax) s₁ := by
  have hl := hi.length
  refine CompSrc.ledger hh F N hm (by rw [List.size_toArray, sizeLine_eq]; omega) fun g => ?_
  refine rest_inv _ (fun i ys nw => nw = news ∧ IntsAre ys ((ns.take i).map f)) ?_ ?_ _ 0 [] _ (Nat.zero_add _) ⟨rfl, IntsAre.nil⟩
  · rintro i ys nw v I oI C oC D m₂ h tk E' hlt ⟨rfl, hI⟩ hv hC hx F' N' off ne
    have hi' : i < ns.length := by rw [List.size_toArray] at hlt; omega
    obtain ⟨t, ht⟩ := hi.get i _ (List.getElem?_eq_getElem hi')
    have hv' : vs[i]? = some v := by simpa using hv
    obtain rfl : v = .int ns[i] t := Option.some.inj (hv'.symm.trans ht)
    refine wpAny_mono (turn ns[i] t I oI C oC D ys m₂ g h tk E' (List.getElem_mem hi') hC hx F' N') (fun y s₂ he => ?_) fun _ _ e => e
    obtain ⟨⟨t, rfl⟩, h', tk', rfl, F'', N''⟩ := he
    refine ⟨h', tk', _, rfl, F'', N'', off, .inr ⟨_, hm, rfl, _, rfl⟩, rfl, ?_⟩
    rw [take_map_succ f ns i hi']
    exact ints_snoc hI
  · rintro ys nw ⟨rfl, hI⟩
    have e : (ns.take (vs.toArray.size)).map f = ns.map f := by rw [List.size_toArray, hl, List.take_length]
    rw [e] at hI
    exact fin ys g hI
theorem tup_st {h₀ : Heap} {L I ax : Addr} {its : Array Value} {k : Nat} : ∀ i (h h' : Heap) (o : Obj) (nw : Led), (h.IsTupleIter I ax i ∧ h.IsTuple ax its) → h.get? I = some o → h'.get? I = some o → (∀ b o, h₀.get? b = some o → h'.get? b = some o) → News h₀ L h' nw → (ax, tupObj its k) ∈ nw → (h'.IsTupleIter I ax i ∧ h'.IsTuple ax its) := by
  rintro i h h' o nw ⟨⟨o', ho', r⟩, _⟩ e e' _ N hm
  rw [e] at ho'
  cases ho'
  exact ⟨⟨o, e', r⟩, ⟨_, (N _ hm).1, rfl, k, rfl⟩⟩
def TupSrcT (prog : Program) (w : World) (A : Around) (h₀ : Heap) (L : Addr) (m : Str → Option Value) (env : Env) (ct elt : PySem.Expr) (x : Str) (scope : Scope) (cl : List (Str × Addr)) (Fin : Shared → List Value → Led → Prop) (xv : Value) (s₁ : Shared) : Prop :=
  ∃ (ax : Addr) (vs : List Value) (ns : List Int) (k : Nat) (news : Led) (p : Int → Bool), xv = .ref ax ∧ A.handled = none ∧ Fr h₀ L s₁.heap m ∧ News h₀ L s₁.heap news ∧ (ax, tupObj vs.toArray k) ∈ news ∧ IntsAre vs ns ∧ ns.length ≤ 1000 ∧
    (∀ (n : Int) t I oI C oC D ys m₂ g h tk (E' : Value → Shared → Prop), n ∈ ns → NsObj oC m₂ → m₂ x = some (.int n t) → Fr h₀ L h m → News h₀ L h ((I, oI) :: (C, oC) :: (D, lst ys) :: news) →
      wpAny (model prog w) A (isTrue ct (compEnvC scope cl C env) (eval ct (compEnvC scope cl C env))) (fun ok s' => Hold (ok = p n ∧ Same h₀ L m ((I, oI) :: (C, oC) :: (D, lst ys) :: news) { s₁ with heap := h, toks := tk } s')) E' { heap := h, gens := ({ s₁ with heap := g } : Shared).gens, drawn := ({ s₁ with heap := g } : Shared).drawn, toks := tk, os := ({ s₁ with heap := g } : Shared).os }) ∧
    (∀ (n : Int) t I oI C oC D ys m₂ g h tk (E' : Value → Shared → Prop), n ∈ ns → NsObj oC m₂ → m₂ x = some (.int n t) → Fr h₀ L h m → News h₀ L h ((I, oI) :: (C, oC) :: (D, lst ys) :: news) →
      wpAny (model prog w) A (eval elt (compEnvC scope cl C env)) (IntSame h₀ L m ((I, oI) :: (C, oC) :: (D, lst ys) :: news) { s₁ with heap := h, toks := tk } n) E' { heap := h, gens := ({ s₁ with heap := g } : Shared).gens, drawn := ({ s₁ with heap := g } : Shared).drawn, toks := tk, os := ({ s₁ with heap := g } : Shared).os }) ∧
    ∀ ys g, IntsAre ys (ns.filter p) → Fin { s₁ with heap := g } ys news
theorem ListComp_tupT {ct elt iter : PySem.Expr} {x : Str} {px : Pos} {scope : Scope} {cl : List (Str × Addr)} {pos : Pos} {Q : Value → Shared → Prop} (_F₀ : Fr h₀ L s.heap m)
    (hclos : closureFor scope env = pure cl) (hcell : ∀ y ∈ scope.names, y.2 ≠ .cell) (hkind : scope.kind = .function)
    (hnames : ∀ y ∈ scope.names, y.2 = .local → scope.names.lookup y.1 = some .local) (hx : scope.names.lookup x = some .local)
    (h : wpAny (model prog w) A (eval iter env) (TupSrcT prog w A h₀ L m env ct elt x scope cl (fun s₂ => FinE h₀ L m s₂ Q)) E s)
    (hs : ∀ x, foldedSetIterable iter env x = pure x := by intro _; rfl) :
    wpAny (model prog w) A (eval (.ListComp elt [⟨.Name x px, iter, [ct], 0⟩] scope pos) env) Q E s := by
  rw [eval_ListComp]
  refine wpAny_comprehension_free (use := none) rfl hs hclos hkind hnames (wpAny_mono h (fun xv s₁ h₁ => ?_) fun _ _ e => e)
  obtain ⟨ax, vs, ns, k, news, p, rfl, hh, F, N, hm, hi, hsz, test, value, fin⟩ := h₁
  have hl := hi.length
  have ht : s₁.heap.IsTuple ax vs.toArray := ⟨_, (N _ hm).1, rfl, k, rfl⟩
  have hlt : ax < s₁.heap.objs.size := Heap.lt_size (N _ hm).1
  refine wpAny_pyIter_tuple ht ?_
  have up : ∀ b o, s₁.heap.get? b = some o → (s₁.heap.push { cls := .type "tuple_iterator", data := .fields #[.ref ax, .int 0 0] }).get? b = some o := fun b o e => Heap.get?_push_of_some _ e
  refine LCt.block_T (Fin := FinE h₀ L m { s₁ with heap := s₁.heap.push { cls := .type "tuple_iterator", data := .fields #[.ref ax, .int 0 0] } } Q) (S := fun nw => (ax, tupObj vs.toArray k) ∈ nw) (Walks.tuple hh s₁.heap.objs.size ax (Nat.ne_of_lt hlt) vs.toArray) (by rw [List.size_toArray, sizeLine_eq]; omega) (fun i h st => by obtain ⟨o, e, _⟩ := st.1; exact ⟨o, e⟩) tup_st hcell hkind hx ⟨⟨_, Heap.get?_push_size _ rfl, rfl, rfl⟩, ht.push _⟩ (fun b hb => ?_)
    (F.keeps up) (N.grown up) (Nat.ne_of_lt F.ns.lt) (next_is_new F) (fun p hp => Nat.ne_of_lt (Heap.lt_size (N p hp).1)) hm ?_ ?_
  · show b < (s₁.heap.push _).objs.size
    rw [Heap.size_push]
    rcases List.mem_cons.mp hb with rfl | hb
    · exact Nat.lt_succ_self _
    · rw [List.mem_singleton.mp hb]; exact Nat.lt_succ_of_lt hlt
  · refine restT_inv _ (fun i ys nw => nw = news ∧ IntsAre ys ((ns.take i).filter p)) ?_ ?_ _ 0 [] _ (Nat.zero_add _) ⟨rfl, IntsAre.nil⟩
    · rintro i ys nw v I oI C oC D m₂ h tk E' hlt ⟨rfl, hI⟩ hv hC hx F' N' off ne
      have hi' : i < ns.length := by rw [List.size_toArray] at hlt; omega
      obtain ⟨t, ht⟩ := hi.get i _ (List.getElem?_eq_getElem hi')
      have hv' : vs[i]? = some v := by simpa using hv
      obtain rfl : v = .int ns[i] t := Option.some.inj (hv'.symm.trans ht)
      refine wpAny_mono (test ns[i] t I oI C oC D ys m₂ s₁.heap h tk E' (List.getElem_mem hi') hC hx F' N') (fun ok s' he => ?_) fun _ _ e => e
      obtain ⟨rfl, h', tk', rfl, F'', N''⟩ := he
      have et := filter_take_succ p ns i hi'
      split
      · rename_i hp
        rw [if_pos hp] at et
        refine wpAny_mono (value ns[i] t I oI C oC D ys m₂ s₁.heap h' tk' E' (List.getElem_mem hi') hC hx F'' N'') (fun y s₂ he => ?_) fun _ _ e => e
        obtain ⟨⟨t, rfl⟩, h2, tk2, rfl, F2, N2⟩ := he
        refine ⟨h2, tk2, _, rfl, F2, N2, off, hm, rfl, ?_⟩
        rw [et]
        exact ints_snoc hI
      · rename_i hp
        rw [if_neg hp, List.append_nil] at et
        refine ⟨h', tk', _, rfl, F'', N'', off, hm, rfl, ?_⟩
        rw [et]
        exact hI
    · rintro ys nw ⟨rfl, hI⟩
      have e : (ns.take (vs.toArray.size)).filter p = ns.filter p := by rw [List.size_toArray, hl, List.take_length]
      rw [e] at hI
      exact fin ys _ hI
  · intro D C h tk m' ys news' F' N' o1 hn hC₀ hD₀ hCL hDL hCD offC fin
    refine ⟨m', hn, fun h'' hs'' => fin D h'' tk (F'.change hs'' hCL hC₀) (fun p hp => ?_) o1⟩
    refine ⟨hs''.extBut _ _ ?_ (N' p hp).1, (N' p hp).2⟩
    rcases List.mem_cons.mp hp with rfl | hp
    · exact Ne.symm hCD
    · exact offC p hp
end
end
section
open PySem PySem.W PyProof.Rows PySem.Calls PyProof.Rows.LCg
def ListSame (h₀ : Heap) (L : Addr) (m : Str → Option Value) (all : Led) (s₁ : Shared) (ns : List Int) (y : Value) (s₂ : Shared) : Prop :=
  ∃ B vs c, y = .ref B ∧ (∀ q ∈ all, q.1 ≠ B) ∧ IntsAre vs ns ∧ Same h₀ L m ((B, listOf vs.toArray c) :: all) s₁ s₂
section
variable {prog : Program} {w : World} {A : Around} {E : Value → Shared → Prop} {s s₁ : Shared} {h₀ : Heap} {L : Addr} {m : Str → Option Value} {env : Env}
theorem cell_lists {elt : PySem.Expr} {x : Str} {scope : Scope} {cl : List (Str × Addr)} {Fin : Shared → List Value → Led → Prop} {r : Addr} {b : Int} {t u v : Tok} {news : Led} (f : Nat → List Int)
    (hh : A.handled = none) (F : Fr h₀ L s₁.heap m) (N : News h₀ L s₁.heap news) (hr : IsRange s₁.heap r 0 b 1 t u v) (hb : b = 3)
    (turn : ∀ (i : Int) (j : Nat), (i = 0 ∧ j = 0) ∨ (i = 1 ∧ j = 1) ∨ (i = 2 ∧ j = 2) → ∀ nw, (∀ q ∈ news, q ∈ nw) → ∀ ti I oI C oC X oX D ys m₂ g h tk (E' : Value → Shared → Prop), NsObj oC m₂ → oX.data = .cell (some (.int i ti)) → Fr h₀ L h m → News h₀ L h ((I, oI) :: (C, oC) :: (X, oX) :: (D, lst ys) :: nw) →
      wpAny (model prog w) A (eval elt (compEnvC scope ((x, X) :: cl) C env)) (ListSame h₀ L m ((I, oI) :: (C, oC) :: (X, oX) :: (D, lst ys) :: nw) { s₁ with heap := h, toks := tk } (f j)) E' { heap := h, gens := ({ s₁ with heap := g } : Shared).gens, drawn := ({ s₁ with heap := g } : Shared).drawn, toks := tk, os := ({ s₁ with heap := g } : Shared).os })
    (fin : ∀ B0 vs0 c0 B1 vs1 c1 B2 vs2 c2 g, IntsAre vs0 (f 0) → IntsAre vs1 (f 1) → IntsAre vs2 (f 2) → Off1 B0 news → Off1 B1 ((B0, listOf vs0.toArray c0) :: news) → Off1 B2 ((B1, listOf vs1.toArray c1) :: (B0, listOf vs0.toArray c0) :: news) →
      Fin { s₁ with heap := g } [.ref B0, .ref B1, .ref B2] ((B2, listOf vs2.toArray c2) :: (B1, listOf vs1.toArray c1) :: (B0, listOf vs0.toArray c0) :: news)) :
    CellSrc prog w A h₀ L m env elt x scope cl Fin (.ref r) s₁ := by
  subst hb
  refine CellSrc.range (n := 3) hh F N hr (by decide) (by decide) (by rw [sizeLine_eq]; omega) fun g => ?_
  refine CellRest.succ fun v I oI C oC X oX D m₂ h tk E' hv hC hX F' N' off ne => ?_
  obtain ⟨t0, rfl⟩ := hv
  refine wpAny_mono (turn 0 0 (.inl ⟨rfl, rfl⟩) _ (fun q hq => hq) t0 I oI C oC X oX D _ m₂ g h tk E' hC hX F' N') (fun y s₂ he => ?_) fun _ _ e => e
  obtain ⟨B0, vs0, c0, rfl, f0, hi0, h', tk', rfl, F'', N''⟩ := he
  have k0 := off1_in fun q hq => f0 q (.tail _ (.tail _ (.tail _ (.tail _ hq))))
  refine ⟨h', tk', _, rfl, F'', news_up5 N'', off4_up off f0, ?_⟩
  clear hX F' N' off ne F'' N'' hC f0
  refine CellRest.succ fun v I oI C oC X oX D m₂ h tk E' hv hC hX F' N' off ne => ?_
  obtain ⟨t1, rfl⟩ := hv
  refine wpAny_mono (turn 1 1 (.inr (.inl ⟨rfl, rfl⟩)) _ (fun q hq => .tail _ hq) t1 I oI C oC X oX D _ m₂ g h tk E' hC hX F' N') (fun y s₂ he => ?_) fun _ _ e => e
  obtain ⟨B1, vs1, c1, rfl, f1, hi1, h', tk', rfl, F'', N''⟩ := he
  have k1 := off1_in fun q hq => f1 q (.tail _ (.tail _ (.tail _ (.tail _ hq))))
  refine ⟨h', tk', _, rfl, F'', news_up5 N'', off4_up off f1, ?_⟩
  clear hX F' N' off ne F'' N'' hC f1
  refine CellRest.succ fun v I oI C oC X oX D m₂ h tk E' hv hC hX F' N' off ne => ?_
  obtain ⟨t2, rfl⟩ := hv
  refine wpAny_mono (turn 2 2 (.inr (.inr ⟨rfl, rfl⟩)) _ (fun q hq => .tail _ (.tail _ hq)) t2 I oI C oC X oX D _ m₂ g h tk E' hC hX F' N') (fun y s₂ he => ?_) fun _ _ e => e
  obtain ⟨B2, vs2, c2, rfl, f2, hi2, h', tk', rfl, F'', N''⟩ := he
  have k2 := off1_in fun q hq => f2 q (.tail _ (.tail _ (.tail _ (.tail _ hq))))
  refine ⟨h', tk', _, rfl, F'', news_up5 N'', off4_up off f2, ?_⟩
  exact CellRest.zero (fin B0 vs0 c0 B1 vs1 c1 B2 vs2 c2 g hi0 hi1 hi2 k0 k1 k2)
/-- a comprehension over a list, an int an element, told by the place -/
theorem vals_ints {elt : PySem.Expr} {x : Str} {scope : Scope} {cl : List (Str × Addr)} {Fin : Shared → List Value → Led → Prop} {ax : Addr} {vs : List Value} {k : Nat} {news : Led} (f : Nat → Int)
    (hh : A.handled = none) (F : Fr h₀ L s₁.heap m) (N : News h₀ L s₁.heap news) (hm : (ax, listOf vs.toArray k) ∈ news) (hsz : vs.length ≤ 1000)
    (turn : ∀ i v I oI C oC D ys m₂ g h tk (E' : Value → Shared → Prop), i < vs.length → vs[i]? = some v → NsObj oC m₂ → m₂ x = some v → Fr h₀ L h m → News h₀ L h ((I, oI) :: (C, oC) :: (D, lst ys) :: news) →
      wpAny (model prog w) A (eval elt (compEnvC scope cl C env)) (IntSame h₀ L m ((I, oI) :: (C, oC) :: (D, lst ys) :: news) { s₁ with heap := h, toks := tk } (f i)) E' { heap := h, gens := ({ s₁ with heap := g } : Shared).gens, drawn := ({ s₁ with heap := g } : Shared).drawn, toks := tk, os := ({ s₁ with heap := g } : Shared).os })
    (fin : ∀ ys g, IntsAre ys ((List.range vs.length).map f) → Fin { s₁ with heap := g } ys news) :
    CompSrc prog w A h₀ L m env elt x scope cl Fin (.ref ax) s₁ := by
  refine CompSrc.ledger hh F N hm (by rw [List.size_toArray, sizeLine_eq]; omega) fun g => ?_
  refine rest_inv _ (fun i ys nw => nw = news ∧ IntsAre ys ((List.range i).map f)) ?_ ?_ _ 0 [] _ (Nat.zero_add _) ⟨rfl, IntsAre.nil⟩
  · rintro i ys nw v I oI C oC D m₂ h tk E' hlt ⟨rfl, hI⟩ hv hC hx F' N' off ne
    have hi' : i < vs.length := by rw [List.size_toArray] at hlt; exact hlt
    have hv' : vs[i]? = some v := by simpa using hv
    refine wpAny_mono (turn i v I oI C oC D ys m₂ g h tk E' hi' hv' hC hx F' N') (fun y s₂ he => ?_) fun _ _ e => e
    obtain ⟨⟨t, rfl⟩, h', tk', rfl, F'', N''⟩ := he
    refine ⟨h', tk', _, rfl, F'', N'', off, .inr ⟨_, hm, rfl, _, rfl⟩, rfl, ?_⟩
    rw [range_map_succ]
    exact ints_snoc hI
  · rintro ys nw ⟨rfl, hI⟩
    rw [List.size_toArray] at hI
    exact fin ys g hI
end
/-! ## equality of lots -/
def rowDat (r : Row) : Dat := .tuple [.tuple [.int r.1.1, .int r.1.2.1, .int r.1.2.2], .int r.2]
theorem rowDat_inj {r q : Row} (h : rowDat r = rowDat q) : r = q := by
  obtain ⟨⟨a, b, c⟩, d⟩ := r
  obtain ⟨⟨a', b', c'⟩, d'⟩ := q
  simp only [rowDat, Dat.tuple.injEq, List.cons.injEq, Dat.int.injEq, and_true] at h
  obtain ⟨⟨rfl, rfl, rfl⟩, rfl⟩ := h
  rfl
theorem rows_dat_inj : ∀ {rs qs : List Row}, rs.map rowDat = qs.map rowDat → rs = qs
  | [], [], _ => rfl
  | [], _ :: _, h => by simp at h
  | _ :: _, [], h => by simp at h
  | r :: rs, q :: qs, h => by
    simp only [List.map_cons, List.cons.injEq] at h
    rw [rowDat_inj h.1, rows_dat_inj h.2]
theorem rows_dat {news : Led} : ∀ {vs : List Value} {rs : List Row}, RowsAre news vs rs → DatAll news vs (rs.map rowDat)
  | _, _, .nil => .nil
  | _, _, .cons h r => by
    obtain ⟨a, cv, t, n, rfl, hm, c, t1, t2, t3, k, rfl, hc⟩ := h
    exact .cons (.tuple (vs := [_, _]) hm (.cons (.tuple (vs := [_, _, _]) hc (.cons (.int _ _) (.cons (.int _ _) (.cons (.int _ _) .nil)))) (.cons (.int _ _) .nil))) (rows_dat r)
theorem rowDat_ok (r : Row) : kqdOk 8 (rowDat r) = true := by simp [rowDat, kqdOk]
theorem rows_ok {rs : List Row} : ∀ d ∈ rs.map rowDat, kqdOk 8 d = true := fun d hd => by
  obtain ⟨r, _, rfl⟩ := List.mem_map.mp hd
  exact rowDat_ok r
section
variable {w : World} {A : Around} {E : Value → Shared → Prop} {s : Shared} {h₀ : Heap} {L a b : Addr} {news : Led} {xs ys : List Value} {ka kb : Nat} {rs qs : List Row} {Q : Value → Shared → Prop}
open Classical in
theorem rows_eq (N : News h₀ L s.heap news) (ma : (a, listOf xs.toArray ka) ∈ news) (mb : (b, listOf ys.toArray kb) ∈ news) (ha : RowsAre news xs rs) (hb : RowsAre news ys qs) (hu : A.units + 64 < cLine) (h : ∀ k, (k = true ↔ rs = qs) → Q (.bool k) s) :
    wpAny (model PR w) A (compareOp .Eq (.ref a) (.ref b)) Q E s := by
  refine kqd_eq N ma rfl rfl (rows_dat ha) (fun _ h => h) mb rfl rfl (rows_dat hb) (fun _ h => h) rows_ok rows_ok hu (h _ ?_)
  rw [decide_eq_true_iff]
  exact ⟨rows_dat_inj, fun e => by rw [e]⟩
open Classical in
theorem rows_ne (N : News h₀ L s.heap news) (ma : (a, listOf xs.toArray ka) ∈ news) (mb : (b, listOf ys.toArray kb) ∈ news) (ha : RowsAre news xs rs) (hb : RowsAre news ys qs) (hu : A.units + 64 < cLine) (h : ∀ k, (k = true ↔ rs ≠ qs) → Q (.bool k) s) :
    wpAny (model PR w) A (compareOp .NotEq (.ref a) (.ref b)) Q E s := by
  refine kqd_ne N ma rfl rfl (rows_dat ha) (fun _ h => h) mb rfl rfl (rows_dat hb) (fun _ h => h) rows_ok rows_ok hu (h _ ?_)
  rw [Bool.not_eq_true', decide_eq_false_iff_not]
  exact ⟨fun e q => e (by rw [q]), fun e q => e (rows_dat_inj q)⟩
end
end
section
theorem side_ok {rows : List Row} (G : GoodLot rows) (i : Nat) : 0 ≤ sideOf i rows ∧ sideOf i rows ≤ 750 := by
  have h := low_ok G i
  unfold sideOf
  split <;> omega
theorem spread_mul (rows : List Row) : ([sideOf 0 rows, sideOf 1 rows, sideOf 2 rows].map fun n => n * n).sum = spreadOf rows := by
  simp [spreadOf, Int.pow_succ]
end
section
def longP (rows : List Row) (n : Int) : Bool := sideOf n.toNat rows == mxI [sideOf 0 rows, sideOf 1 rows, sideOf 2 rows]
theorem longest_first (rows : List Row) : (([1, 0, 2] : List Int).filter (longP rows)).getD 0 0 = ((longOf rows : Nat) : Int) ∧ 0 < (([1, 0, 2] : List Int).filter (longP rows)).length := by
  have h := mxI_mem (ns := [sideOf 0 rows, sideOf 1 rows, sideOf 2 rows]) (by simp)
  have e1 : longP rows 1 = decide (sideOf 1 rows = mxI [sideOf 0 rows, sideOf 1 rows, sideOf 2 rows]) := by unfold longP; rfl
  have e0 : longP rows 0 = decide (sideOf 0 rows = mxI [sideOf 0 rows, sideOf 1 rows, sideOf 2 rows]) := by unfold longP; rfl
  have e2 : longP rows 2 = decide (sideOf 2 rows = mxI [sideOf 0 rows, sideOf 1 rows, sideOf 2 rows]) := by unfold longP; rfl
  generalize mxI [sideOf 0 rows, sideOf 1 rows, sideOf 2 rows] = M at h e0 e1 e2
  obtain ⟨hm, hle⟩ := h
  simp only [List.mem_cons, List.not_mem_nil, or_false] at hm
  have l0 := hle _ (.head _)
  have l1 := hle _ (.tail _ (.head _))
  have l2 := hle _ (.tail _ (.tail _ (.head _)))
  unfold longOf
  by_cases hb : sideOf 1 rows = M
  · rw [decide_eq_true hb] at e1
    rw [List.filter_cons_of_pos e1]
    refine ⟨?_, by simp⟩
    rw [if_neg (by omega), if_neg (by omega)]; rfl
  · rw [decide_eq_false hb] at e1
    rw [List.filter_cons_of_neg (by simp [e1])]
    by_cases ha : sideOf 0 rows = M
    · rw [decide_eq_true ha] at e0
      rw [List.filter_cons_of_pos e0]
      refine ⟨?_, by simp⟩
      rw [if_pos (by omega), if_neg (by omega)]; rfl
    · rw [decide_eq_false ha] at e0
      rw [List.filter_cons_of_neg (by simp [e0])]
      have hc : sideOf 2 rows = M := by rcases hm with h | h | h <;> first | exact absurd h.symm ha | exact absurd h.symm hb | exact h.symm
      rw [decide_eq_true hc] at e2
      rw [List.filter_cons_of_pos e2]
      refine ⟨?_, by simp⟩
      by_cases h : sideOf 0 rows > sideOf 1 rows
      · rw [if_pos h, if_pos (by omega)]; rfl
      · rw [if_neg h, if_pos (by omega)]; rfl
end
section
def midOf (j : Nat) (rows : List Row) : Int := (lowOf j rows + highOf j rows).fdiv 2
def lowRows (j : Nat) (rows : List Row) : List Row := rows.filter fun r => decide (prt j r.1 ≤ midOf j rows)
def uppRows (j : Nat) (rows : List Row) : List Row := rows.filter fun r => decide (midOf j rows < prt j r.1)
theorem long_lt (rows : List Row) : longOf rows < 3 := by unfold longOf; split <;> split <;> decide
end
section
theorem half_up (t m : Int) (hm : 1 ≤ m) : (t + m.fdiv 2).fdiv m = (2 * t + m).fdiv (2 * m) := by
  rw [Int.fdiv_eq_ediv_of_nonneg _ (by omega : (0 : Int) ≤ 2), Int.fdiv_eq_ediv_of_nonneg _ (by omega : 0 ≤ m), Int.fdiv_eq_ediv_of_nonneg _ (by omega : 0 ≤ 2 * m)]
  generalize hq : (2 * t + m) / (2 * m) = q
  have h1 : q * (2 * m) ≤ 2 * t + m := by rw [← hq]; exact Int.ediv_mul_le _ (by omega)
  have h2 : 2 * t + m < (q + 1) * (2 * m) := by rw [← hq]; exact Int.lt_ediv_add_one_mul_self _ (by omega)
  have e1 : q * (2 * m) = 2 * (q * m) := by rw [← Int.mul_assoc, Int.mul_comm q 2, Int.mul_assoc]
  have e2 : (q + 1) * (2 * m) = 2 * (q * m) + 2 * m := by rw [Int.add_mul, e1, Int.one_mul]
  rw [e1] at h1
  rw [e2] at h2
  have a1 : q ≤ (t + m / 2) / m := (Int.le_ediv_iff_mul_le (by omega)).mpr (by omega)
  have a2 : (t + m / 2) / m < q + 1 := (Int.ediv_lt_iff_lt_mul (by omega)).mpr (by rw [Int.add_mul, Int.one_mul]; omega)
  omega
theorem mean_eq {rows : List Row} (G : GoodLot rows) (i : Nat) : meanOf i rows = (2 * (rows.map fun r => prt i r.1 * r.2).sum + manyOf rows).fdiv (2 * manyOf rows) :=
  half_up _ _ (many_ok G).1
/-! ## two colours at least: the longest side is not nothing -/
theorem ends_low {rows : List Row} (i : Nat) {r : Row} (hr : r ∈ rows) : lowOf i rows ≤ prt i r.1 ∧ prt i r.1 ≤ highOf i rows := by
  have hm : prt i r.1 ∈ ends i rows := List.mem_map.mpr ⟨r, hr, rfl⟩
  have hne : ends i rows ≠ [] := fun e => by rw [e] at hm; exact nomatch hm
  exact ⟨(mnI_mem hne).2 _ hm, (mxI_mem hne).2 _ hm⟩
theorem col_ext {c d : Col} (h0 : prt 0 c = prt 0 d) (h1 : prt 1 c = prt 1 d) (h2 : prt 2 c = prt 2 d) : c = d := by
  obtain ⟨a, b, e⟩ := c
  obtain ⟨a', b', e'⟩ := d
  have h0 : a = a' := h0
  have h1 : b = b' := h1
  have h2 : e = e' := h2
  rw [h0, h1, h2]
theorem side_long (rows : List Row) (i : Nat) (hi : i < 3) : sideOf i rows ≤ sideOf (longOf rows) rows := by
  unfold longOf
  have : i = 0 ∨ i = 1 ∨ i = 2 := by omega
  split <;> split <;> rcases this with rfl | rfl | rfl <;> omega
theorem flat_col {rows : List Row} (G : GoodLot rows) (h : sideOf (longOf rows) rows ≤ 0) : ∀ r ∈ rows, ∀ q ∈ rows, r.1 = q.1 := by
  intro r hr q hq
  have flat : ∀ i, i < 3 → prt i r.1 = prt i q.1 := fun i hi => by
    have a := side_long rows i hi
    have b := ends_low i hr
    have c := ends_low i hq
    have d := low_ok G i
    have e : highOf i rows ≤ lowOf i rows := by
      have : i = 0 ∨ i = 1 ∨ i = 2 := by omega
      rcases this with rfl | rfl | rfl <;> (simp only [sideOf] at a h; omega)
    omega
  exact col_ext (flat 0 (by omega)) (flat 1 (by omega)) (flat 2 (by omega))
theorem long_pos {rows : List Row} (G : GoodLot rows) (h : 2 ≤ rows.length) : lowOf (longOf rows) rows < highOf (longOf rows) rows := by
  refine Int.lt_of_not_ge fun hge => ?_
  have hs : sideOf (longOf rows) rows ≤ 0 := by
    have := low_ok G (longOf rows)
    have : highOf (longOf rows) rows - lowOf (longOf rows) rows ≤ 0 := by omega
    unfold sideOf
    split <;> omega
  have hf := flat_col G hs
  match rows, h, G.nodup, hf with
  | a :: b :: r, _, hn, hf =>
    rw [List.map_cons, List.nodup_cons] at hn
    exact hn.1 (List.mem_map.mpr ⟨b, .head _, hf b (.tail _ (.head _)) a (.head _)⟩)
theorem good_sub {rows : List Row} (G : GoodLot rows) (p : Row → Bool) (h : ∃ r ∈ rows, p r = true) : GoodLot (rows.filter p) := by
  obtain ⟨r, hr, hp⟩ := h
  refine ⟨fun e => ?_, Nat.le_trans (List.length_filter_le _ _) G.len, fun q hq => G.ok q (List.mem_filter.mp hq).1, ?_⟩
  · have : r ∈ rows.filter p := List.mem_filter.mpr ⟨hr, hp⟩
    rw [e] at this
    exact nomatch this
  · exact (List.filter_sublist.map _).nodup G.nodup
theorem mid_between {a b : Int} (h : a < b) : a ≤ (a + b).fdiv 2 ∧ (a + b).fdiv 2 < b := by
  rw [Int.fdiv_eq_ediv_of_nonneg _ (by omega : (0 : Int) ≤ 2)]
  omega
theorem good_halves {rows : List Row} (G : GoodLot rows) (h : 2 ≤ rows.length) : GoodLot (lowRows (longOf rows) rows) ∧ GoodLot (uppRows (longOf rows) rows) := by
  have hp := mid_between (long_pos G h)
  have a := (mnI_mem (ends_ne G.ne (longOf rows))).1
  have b := (mxI_mem (ends_ne G.ne (longOf rows))).1
  obtain ⟨r, hr, er⟩ := List.mem_map.mp a
  obtain ⟨q, hq, eq⟩ := List.mem_map.mp b
  refine ⟨good_sub G _ ⟨r, hr, ?_⟩, good_sub G _ ⟨q, hq, ?_⟩⟩
  · rw [decide_eq_true_iff, er]; exact hp.1
  · rw [decide_eq_true_iff, eq]; exact hp.2
theorem spread_one {rows : List Row} (h : rows.length = 1) : spreadOf rows = 0 := by
  obtain ⟨r, rfl⟩ : ∃ r, rows = [r] := by
    match rows, h with
    | [r], _ => exact ⟨r, rfl⟩
  have hs : ∀ i, highOf i [r] = lowOf i [r] := fun i => by
    have a := (mnI_mem (ns := ends i [r]) (by simp [ends])).1
    have b := (mxI_mem (ns := ends i [r]) (by simp [ends])).1
    simp only [ends, List.map_cons, List.map_nil, List.mem_cons, List.not_mem_nil, or_false] at a b
    exact b.trans a.symm
  rw [← spread_mul]
  simp [sideOf, hs]
theorem spread_pos {rows : List Row} (G : GoodLot rows) (h : 2 ≤ rows.length) : 0 < spreadOf rows := by
  have hp := long_pos G h
  have hl := long_lt rows
  rw [← spread_mul]
  simp only [List.map_cons, List.map_nil, List.sum_cons, List.sum_nil]
  have sq : ∀ x : Int, 0 ≤ x * x := fun x => by
    rcases Int.le_total 0 x with h | h
    · exact Int.mul_nonneg h h
    · exact Int.mul_nonneg_of_nonpos_of_nonpos h h
  have s0 := sq (sideOf 0 rows)
  have s1 := sq (sideOf 1 rows)
  have s2 := sq (sideOf 2 rows)
  have pos : 0 < sideOf (longOf rows) rows := by unfold sideOf; split <;> omega
  have hp2 := Int.mul_pos pos pos
  have : longOf rows = 0 ∨ longOf rows = 1 ∨ longOf rows = 2 := by omega
  rcases this with e | e | e <;> rw [e] at hp2 <;> omega
end
section
open PySem PySem.W PyProof.Rows PySem.Calls PyProof.Rows.LCg
section
variable {w : World} {A : Around} {E : Value → Shared → Prop} {s : Shared} {h₀ : Heap} {L a b : Addr} {news : Led} {xs ys : List Value} {ns ms : List Int} {ka kb : Nat} {Q : Value → Shared → Prop}
theorem ints_same_ne (N : News h₀ L s.heap news) (ma : (a, listOf xs.toArray ka) ∈ news) (mb : (b, listOf ys.toArray kb) ∈ news) (ha : IntsAre xs ns) (hb : IntsAre ys ms) (he : ns = ms) (hu : A.units + 64 < cLine) (h : Q (.bool false) s) :
    wpAny (model PR w) A (compareOp .NotEq (.ref a) (.ref b)) Q E s :=
  ke_ne_ints (my_isList N ma) (my_isList N mb) ha hb hu (by rw [decide_eq_true he]; exact h)
end
end
section
open PySem PySem.W PyProof.Rows PySem.Calls PyProof.Rows.LCg
/-- two lists, place by place -/
def AllAt {α : Type} (R : Led → Value → α → Prop) (nw : Led) (vs : List Value) (xs : List α) : Prop := vs.length = xs.length ∧ ∀ (i : Nat) (v : Value) (x : α), vs[i]? = some v → xs[i]? = some x → R nw v x
theorem AllAt.nil {α : Type} {R : Led → Value → α → Prop} {nw : Led} : AllAt R nw [] [] := ⟨rfl, fun _ _ _ h => nomatch h⟩
theorem AllAt.mono {α : Type} {R : Led → Value → α → Prop} (hR : ∀ {n n' : Led} {v : Value} {x : α}, R n v x → (∀ q ∈ n, q ∈ n') → R n' v x) {nw nw' : Led} {vs : List Value} {xs : List α} (h : AllAt R nw vs xs) (hs : ∀ q ∈ nw, q ∈ nw') : AllAt R nw' vs xs :=
  ⟨h.1, fun i v x a b => hR (h.2 i v x a b) hs⟩
theorem AllAt.snoc {α : Type} {R : Led → Value → α → Prop} {nw : Led} {vs : List Value} {xs : List α} {v : Value} {x : α} (h : AllAt R nw vs xs) (h' : R nw v x) : AllAt R nw (vs ++ [v]) (xs ++ [x]) := by
  refine ⟨by simp [h.1], fun i v' x' a b => ?_⟩
  rcases Nat.lt_trichotomy i vs.length with hi | hi | hi
  · rw [List.getElem?_append_left hi] at a
    rw [List.getElem?_append_left (h.1 ▸ hi)] at b
    exact h.2 i v' x' a b
  · subst hi
    rw [List.getElem?_append_right (Nat.le_refl _)] at a
    rw [h.1, List.getElem?_append_right (Nat.le_refl _)] at b
    simp at a b
    subst a b
    exact h'
  · rw [List.getElem?_eq_none (by simp; omega)] at a
    cases a
theorem AllAt.get {α : Type} {R : Led → Value → α → Prop} {nw : Led} {vs : List Value} {xs : List α} (h : AllAt R nw vs xs) {i : Nat} {x : α} (hx : xs[i]? = some x) : ∃ v, vs[i]? = some v ∧ R nw v x := by
  have hi : i < vs.length := by rw [h.1]; exact (List.getElem?_eq_some_iff.mp hx).1
  exact ⟨vs[i], List.getElem?_eq_getElem hi, h.2 i _ _ (List.getElem?_eq_getElem hi) hx⟩
abbrev ColsAre := AllAt IsCol
theorem cols3 {nw : Led} {v1 v2 v3 : Value} {c1 c2 c3 : Col} (h1 : IsCol nw v1 c1) (h2 : IsCol nw v2 c2) (h3 : IsCol nw v3 c3) : ColsAre nw [v1, v2, v3] [c1, c2, c3] :=
  ((AllAt.nil.snoc h1).snoc h2).snoc h3
def far (c d : Col) : Int := 4 * (c.1 - d.1) ^ 2 + 9 * (c.2.1 - d.2.1) ^ 2 + (c.2.2 - d.2.2) ^ 2
theorem apart_far (c d : Col) : (2 * (c.1 - d.1)) ^ 2 + ((3 * (c.2.1 - d.2.1)) ^ 2 + ((1 * (c.2.2 - d.2.2)) ^ 2 + 0)) = far c d := by
  unfold far
  rw [Int.mul_pow, Int.mul_pow, Int.mul_pow]
  omega
def nearN (cs : List Col) (c : Col) : Nat → Nat
  | 0 => 0
  | i + 1 => if far (cs.getD (i + 1) (0, 0, 0)) c < far (cs.getD (nearN cs c i) (0, 0, 0)) c then i + 1 else nearN cs c i
theorem nearN_le (cs : List Col) (c : Col) : ∀ i, nearN cs c i ≤ i
  | 0 => Nat.le_refl _
  | i + 1 => by
    have := nearN_le cs c i
    unfold nearN
    split <;> omega
def nearOf (cs : List Col) (c : Col) : Nat := nearN cs c (cs.length - 1)
theorem nearN_spec (cs : List Col) (c : Col) : ∀ i, (∀ j, j ≤ i → far (cs.getD (nearN cs c i) (0, 0, 0)) c ≤ far (cs.getD j (0, 0, 0)) c) ∧ (∀ j, j < nearN cs c i → far (cs.getD (nearN cs c i) (0, 0, 0)) c < far (cs.getD j (0, 0, 0)) c)
  | 0 => ⟨fun j hj => by rw [Nat.le_zero.mp hj]; exact Int.le_refl _, fun j hj => absurd hj (Nat.not_lt_zero j)⟩
  | i + 1 => by
    obtain ⟨h1, h2⟩ := nearN_spec cs c i
    have hle := nearN_le cs c i
    unfold nearN
    split
    · rename_i hlt
      refine ⟨fun j hj => ?_, fun j hj => ?_⟩
      · rcases Nat.lt_or_ge j (i + 1) with h | h
        · have := h1 j (by omega); omega
        · rw [show j = i + 1 by omega]; exact Int.le_refl _
      · have := h1 j (by omega); omega
    · rename_i hlt
      refine ⟨fun j hj => ?_, h2⟩
      rcases Nat.lt_or_ge j (i + 1) with h | h
      · exact h1 j (by omega)
      · rw [show j = i + 1 by omega]; omega
theorem nearOf_lt {cs : List Col} (c : Col) (h : cs ≠ []) : nearOf cs c < cs.length := by
  have := nearN_le cs c (cs.length - 1)
  have := List.length_pos_iff.mpr h
  unfold nearOf; omega
/-- the first place of the least of the ways -/
theorem near_first {cs : List Col} (c : Col) (h : cs ≠ []) : ∃ (hj : nearOf cs c < (cs.map (far · c)).length), (cs.map (far · c))[nearOf cs c] = mnI (cs.map (far · c)) ∧ ∀ i (hi : i < (cs.map (far · c)).length), i < nearOf cs c → (cs.map (far · c))[i] ≠ mnI (cs.map (far · c)) := by
  have hl := nearOf_lt c h
  obtain ⟨h1, h2⟩ := nearN_spec cs c (cs.length - 1)
  have key : ∀ i (hi : i < cs.length), cs.getD i (0, 0, 0) = cs[i] := fun i hi => by simp [List.getD, hi]
  have e : mnI (cs.map (far · c)) = far (cs.getD (nearOf cs c) (0, 0, 0)) c := by
    refine mnI_eq (List.mem_map.mpr ⟨cs[nearOf cs c], List.getElem_mem hl, by rw [key _ hl]⟩) fun a ha => ?_
    obtain ⟨d, hd, rfl⟩ := List.mem_map.mp ha
    obtain ⟨i, hi, rfl⟩ := List.getElem_of_mem hd
    have := h1 i (by omega)
    rw [key i hi] at this
    exact this
  refine ⟨by simpa using hl, ?_, fun i hi hlt => ?_⟩
  · rw [e, key _ hl]; simp
  · rw [e, List.getElem_map]
    have := h2 i hlt
    rw [key i (by simpa using hi)] at this
    exact fun q => by
      unfold nearOf at q
      omega
theorem near_law : nearOf [(9, 9, 9), (1, 1, 1), (1, 1, 1)] (1, 1, 2) = 1 := by decide
theorem lit_ok : ∀ c ∈ ([(9, 9, 9), (1, 1, 1), (1, 1, 1)] : List Col), c.ok := by
  intro c hc
  simp only [List.mem_cons, List.not_mem_nil, or_false] at hc
  rcases hc with rfl | rfl | rfl <;> (unfold Col.ok; decide)
end
section
open PySem PySem.W PyProof.Rows PySem.Calls PyProof.Rows.LCg
def IsBox (w : World) (nw : Led) (v : Value) (rows : List Row) : Prop := ∃ x al, v = .ref x ∧ BoxAt w nw x al rows
theorem IsBox.mono {w : World} {n n' : Led} {v : Value} {rows : List Row} (h : IsBox w n v rows) (hs : ∀ q ∈ n, q ∈ n') : IsBox w n' v rows := by
  obtain ⟨x, al, e, h⟩ := h
  exact ⟨x, al, e, h.mono hs⟩
def IsLot (nw : Led) (v : Value) (rows : List Row) : Prop := ∃ al vs k, v = .ref al ∧ (al, listOf vs.toArray k) ∈ nw ∧ RowsAre nw vs rows
theorem IsLot.mono {n n' : Led} {v : Value} {rows : List Row} (h : IsLot n v rows) (hs : ∀ q ∈ n, q ∈ n') : IsLot n' v rows := by
  obtain ⟨al, vs, k, e, h1, h2⟩ := h
  exact ⟨al, vs, k, e, hs _ h1, h2.mono hs⟩
def optV : Option Nat → Tok → Value
  | none, _ => .none
  | some i, t => .int (i : Nat) t
def worthOf (lots : List (List Row)) (many : Int) (rows : List Row) : Int := if 2 * (lots.length : Int) ≤ many then manyOf rows else spreadOf rows
def nextN (lots : List (List Row)) (many : Int) : Nat → Option Nat × Int
  | 0 => (none, 0)
  | i + 1 => if 0 < spreadOf (lots.getD i []) then (if (nextN lots many i).2 < worthOf lots many (lots.getD i []) then (some i, worthOf lots many (lots.getD i [])) else nextN lots many i) else nextN lots many i
def nextOf (lots : List (List Row)) (many : Int) : Option Nat := (nextN lots many lots.length).1
section
variable {lots : List (List Row)} {many : Int} {i : Nat} {rows : List Row} {b : Option Nat} {mo : Int}
theorem spread_eq (rows : List Row) : (2 * (highOf 0 rows - lowOf 0 rows)) ^ 2 + ((3 * (highOf 1 rows - lowOf 1 rows)) ^ 2 + ((1 * (highOf 2 rows - lowOf 2 rows)) ^ 2 + 0)) = spreadOf rows := rfl
theorem nextN_a (g : lots.getD i [] = rows) (hb : (b, mo) = nextN lots many i) (h0 : 0 < (2 * (highOf 0 rows - lowOf 0 rows)) ^ 2 + ((3 * (highOf 1 rows - lowOf 1 rows)) ^ 2 + ((1 * (highOf 2 rows - lowOf 2 rows)) ^ 2 + 0))) (h1 : 2 * (lots.length : Int) ≤ many) (h2 : mo < manyOf rows) : (some i, manyOf rows) = nextN lots many (i + 1) := by
  rw [spread_eq] at h0
  rw [nextN, g, if_pos h0, ← hb, show worthOf lots many rows = manyOf rows from if_pos h1, if_pos h2]
theorem nextN_b (g : lots.getD i [] = rows) (hb : (b, mo) = nextN lots many i) (h0 : 0 < (2 * (highOf 0 rows - lowOf 0 rows)) ^ 2 + ((3 * (highOf 1 rows - lowOf 1 rows)) ^ 2 + ((1 * (highOf 2 rows - lowOf 2 rows)) ^ 2 + 0))) (h1 : 2 * (lots.length : Int) ≤ many) (h2 : ¬ mo < manyOf rows) : (b, mo) = nextN lots many (i + 1) := by
  rw [spread_eq] at h0
  rw [nextN, g, if_pos h0, ← hb, show worthOf lots many rows = manyOf rows from if_pos h1, if_neg h2]
theorem nextN_c (g : lots.getD i [] = rows) (hb : (b, mo) = nextN lots many i) (h0 : 0 < (2 * (highOf 0 rows - lowOf 0 rows)) ^ 2 + ((3 * (highOf 1 rows - lowOf 1 rows)) ^ 2 + ((1 * (highOf 2 rows - lowOf 2 rows)) ^ 2 + 0))) (h1 : ¬ 2 * (lots.length : Int) ≤ many) (h2 : mo < (2 * (highOf 0 rows - lowOf 0 rows)) ^ 2 + ((3 * (highOf 1 rows - lowOf 1 rows)) ^ 2 + ((1 * (highOf 2 rows - lowOf 2 rows)) ^ 2 + 0))) : (some i, (2 * (highOf 0 rows - lowOf 0 rows)) ^ 2 + ((3 * (highOf 1 rows - lowOf 1 rows)) ^ 2 + ((1 * (highOf 2 rows - lowOf 2 rows)) ^ 2 + 0))) = nextN lots many (i + 1) := by
  rw [spread_eq] at h0 h2 ⊢
  rw [nextN, g, if_pos h0, ← hb, show worthOf lots many rows = spreadOf rows from if_neg h1, if_pos h2]
theorem nextN_d (g : lots.getD i [] = rows) (hb : (b, mo) = nextN lots many i) (h0 : 0 < (2 * (highOf 0 rows - lowOf 0 rows)) ^ 2 + ((3 * (highOf 1 rows - lowOf 1 rows)) ^ 2 + ((1 * (highOf 2 rows - lowOf 2 rows)) ^ 2 + 0))) (h1 : ¬ 2 * (lots.length : Int) ≤ many) (h2 : ¬ mo < (2 * (highOf 0 rows - lowOf 0 rows)) ^ 2 + ((3 * (highOf 1 rows - lowOf 1 rows)) ^ 2 + ((1 * (highOf 2 rows - lowOf 2 rows)) ^ 2 + 0))) : (b, mo) = nextN lots many (i + 1) := by
  rw [spread_eq] at h0 h2
  rw [nextN, g, if_pos h0, ← hb, show worthOf lots many rows = spreadOf rows from if_neg h1, if_neg h2]
theorem nextN_e (g : lots.getD i [] = rows) (hb : (b, mo) = nextN lots many i) (h0 : ¬ 0 < (2 * (highOf 0 rows - lowOf 0 rows)) ^ 2 + ((3 * (highOf 1 rows - lowOf 1 rows)) ^ 2 + ((1 * (highOf 2 rows - lowOf 2 rows)) ^ 2 + 0))) : (b, mo) = nextN lots many (i + 1) := by
  rw [spread_eq] at h0
  rw [nextN, g, if_neg h0, ← hb]
end
end
section
open PySem PySem.W PyProof.Rows PySem.Calls PyProof.Rows.LCg
/-- new entries, apart from all that was there -/
def Fresh (pt : Addr) (K tl : Led) : Prop := ∀ q ∈ tl, q.1 ≠ pt ∧ ∀ p ∈ K, p.1 ≠ q.1
theorem Fresh.nil {pt : Addr} {K : Led} : Fresh pt K [] := fun _ h => nomatch h
theorem Fresh.app {pt : Addr} {K tl tl' : Led} (h : Fresh pt K tl) (h' : Fresh pt (tl ++ K) tl') : Fresh pt K (tl' ++ tl) := fun q hq => by
  rcases List.mem_append.mp hq with hq | hq
  · exact ⟨(h' q hq).1, fun p hp => (h' q hq).2 p (List.mem_append_right _ hp)⟩
  · exact h q hq
theorem off3_in {I C D : Addr} {l : Led} (h : ∀ q ∈ l, q.1 ≠ I ∧ q.1 ≠ C ∧ q.1 ≠ D) : Off3 I C D l := by
  induction l with
  | nil => trivial
  | cons q r ih => exact ⟨h q (.head _), ih fun p hp => h p (.tail _ hp)⟩
/-- a turn's end: one more, the paint another, the ledger grown -/
def GrowEnd {α : Type} (R : Led → Value → α → Prop) (ok : α → Prop) (h₀ : Heap) (L : Addr) (m : Str → Option Value) (s₁ : Shared) (I : Addr) (oI : Obj) (C : Addr) (oC : Obj) (D : Addr) (oD : Obj) (pt : Addr) (base b0 : Led) (y : Value) (s₂ : Shared) : Prop :=
  ∃ h' tk' o' tl' x, s₂ = { s₁ with heap := h', toks := tk' } ∧ Fr h₀ L h' m ∧ News h₀ L h' ((I, oI) :: (C, oC) :: (D, oD) :: (pt, o') :: (tl' ++ base)) ∧ Paint o' ∧
    (∀ q ∈ tl', ∀ p ∈ (I, oI) :: (C, oC) :: (D, oD) :: (pt, o') :: base, p.1 ≠ q.1) ∧ R (tl' ++ b0) y x ∧ ok x
section
variable {prog : Program} {w : World} {A : Around} {h₀ : Heap} {L : Addr} {m : Str → Option Value} {env : Env} {s s₁ : Shared}
theorem grow_rest {α : Type} {R : Led → Value → α → Prop} {ok : Nat → α → Prop} (K₀ : Led) (hR : ∀ (n n' : Led) (v : Value) (x : α), R n v x → (∀ q ∈ n, q ∈ n') → R n' v x) {elt : PySem.Expr} {x : Str} {scope : Scope} {cl : List (Str × Addr)} {S : Led → Prop} {P : Nat → Value → Prop} {Fin : List Value → Led → Prop} {n : Nat} {pt : Addr} {o : Obj} {K : Led}
    (hS : ∀ nw, (∀ q ∈ K, q ∈ nw) → S nw) (hP : Paint o)
    (turn : ∀ i v I oI C oC D ys m₂ h tk (E' : Value → Shared → Prop) o' tl, i < n → P i v → Paint o' → Fresh pt K tl → NsObj oC m₂ → m₂ x = some v → Fr h₀ L h m → News h₀ L h ((I, oI) :: (C, oC) :: (D, lst ys) :: (pt, o') :: (tl ++ K)) → Off3 I C D ((pt, o') :: (tl ++ K)) → ((@Ne Nat I C) ∧ (@Ne Nat I D) ∧ (@Ne Nat C D)) →
      wpAny (model prog w) A (eval elt (compEnvC scope cl C env)) (GrowEnd R (ok i) h₀ L m { s with heap := h, toks := tk } I oI C oC D (lst ys) pt (tl ++ K) (tl ++ K₀)) E' { s with heap := h, toks := tk })
    (fin : ∀ ys xs o' tl, xs.length = n → AllAt R (tl ++ K₀) ys xs → (∀ i x, xs[i]? = some x → ok i x) → Paint o' → Fresh pt K tl → Fin ys ((pt, o') :: (tl ++ K))) :
    CompRest prog w A h₀ L m env elt x scope cl s S P Fin n 0 [] ((pt, o) :: K) := by
  refine rest_inv n (fun i ys nw => ∃ xs o' tl, nw = (pt, o') :: (tl ++ K) ∧ xs.length = i ∧ AllAt R (tl ++ K₀) ys xs ∧ (∀ i x, xs[i]? = some x → ok i x) ∧ Paint o' ∧ Fresh pt K tl) ?_ ?_ _ 0 [] _ (Nat.zero_add _) ⟨[], o, [], rfl, rfl, AllAt.nil, (fun _ _ h => nomatch h), hP, Fresh.nil⟩
  · rintro i ys nw v I oI C oC D m₂ h tk E' hi ⟨xs, o', tl, rfl, hxl, hall, hok, hPo, hfr⟩ hv hC hx F' N' off ne
    refine wpAny_mono (turn i v I oI C oC D ys m₂ h tk E' o' tl hi hv hPo hfr hC hx F' N' off ne) (fun y s₂ he => ?_) fun _ _ e => e
    obtain ⟨h', tk', o2, tl', x2, rfl, F2, N2, hP2, hfr2, hR2, hok2⟩ := he
    refine ⟨h', tk', (pt, o2) :: (tl' ++ (tl ++ K)), rfl, F2, N2, ?_, hS _ fun q hq => .tail _ (List.mem_append_right _ (List.mem_append_right _ hq)), xs ++ [x2], o2, tl' ++ tl, by rw [List.append_assoc], by rw [List.length_append, hxl]; rfl, ?_, ?_, hP2, ?_⟩
    · refine off3_in fun q hq => ?_
      rcases List.mem_cons.mp hq with rfl | hq
      · exact off.mem (pt, o') (.head _)
      · rcases List.mem_append.mp hq with hq | hq
        · exact ⟨Ne.symm (hfr2 q hq _ (.head _)), Ne.symm (hfr2 q hq _ (.tail _ (.head _))), Ne.symm (hfr2 q hq _ (.tail _ (.tail _ (.head _))))⟩
        · exact off.mem _ (.tail _ hq)
    · rw [List.append_assoc]
      exact (AllAt.mono (R := R) (fun h hs => hR _ _ _ _ h hs) hall fun q hq => List.mem_append_right _ hq).snoc hR2
    · intro j x hj
      rcases Nat.lt_or_ge j xs.length with h | h
      · rw [List.getElem?_append_left h] at hj
        exact hok j x hj
      · rw [List.getElem?_append_right h] at hj
        have e : j - xs.length = 0 := by
          cases hh : j - xs.length with
          | zero => rfl
          | succ k => rw [hh] at hj; cases hj
        rw [e] at hj
        obtain rfl : x2 = x := Option.some.inj hj
        rw [show j = i by omega]
        exact hok2
    · refine hfr.app fun q hq => ⟨Ne.symm (hfr2 q hq _ (.tail _ (.tail _ (.tail _ (.head _))))), fun p hp => hfr2 q hq p (.tail _ (.tail _ (.tail _ (.tail _ hp))))⟩
  · rintro ys nw ⟨xs, o', tl, rfl, hxl, hall, hok, hPo, hfr⟩
    exact fin ys xs o' tl hxl hall hok hPo hfr
theorem grow_range {α : Type} {R : Led → Value → α → Prop} {ok : Nat → α → Prop} (K₀ : Led) (hR : ∀ (n n' : Led) (v : Value) (x : α), R n v x → (∀ q ∈ n, q ∈ n') → R n' v x) {elt : PySem.Expr} {x : Str} {scope : Scope} {cl : List (Str × Addr)} {Fin : Shared → List Value → Led → Prop} {n : Nat} {pt : Addr} {o : Obj} {K : Led} {r : Addr} {b : Int} {t u v : Tok}
    (hh : A.handled = none) (F : Fr h₀ L s₁.heap m) (N : News h₀ L s₁.heap ((pt, o) :: K)) (hr : IsRange s₁.heap r 0 b 1 t u v) (hb : b = (n : Int)) (hn : n ≤ 1000) (hP : Paint o)
    (turn : ∀ i t I oI C oC D ys m₂ g h tk (E' : Value → Shared → Prop) o' tl, i < n → Paint o' → Fresh pt K tl → NsObj oC m₂ → m₂ x = some (.int (0 + (i : Nat)) t) → Fr h₀ L h m → News h₀ L h ((I, oI) :: (C, oC) :: (D, lst ys) :: (pt, o') :: (tl ++ K)) → Off3 I C D ((pt, o') :: (tl ++ K)) → ((@Ne Nat I C) ∧ (@Ne Nat I D) ∧ (@Ne Nat C D)) →
      wpAny (model prog w) A (eval elt (compEnvC scope cl C env)) (GrowEnd R (ok i) h₀ L m { ({ s₁ with heap := g } : Shared) with heap := h, toks := tk } I oI C oC D (lst ys) pt (tl ++ K) (tl ++ K₀)) E' { heap := h, gens := ({ s₁ with heap := g } : Shared).gens, drawn := ({ s₁ with heap := g } : Shared).drawn, toks := tk, os := ({ s₁ with heap := g } : Shared).os })
    (fin : ∀ ys xs o' tl g, xs.length = n → AllAt R (tl ++ K₀) ys xs → (∀ i x, xs[i]? = some x → ok i x) → Paint o' → Fresh pt K tl → Fin { s₁ with heap := g } ys ((pt, o') :: (tl ++ K))) :
    CompSrc prog w A h₀ L m env elt x scope cl Fin (.ref r) s₁ := by
  subst hb
  refine CompSrc.range hh F N hr (n := n) (small_one (by omega) (by omega) (by omega) (by omega)) (by rw [rangeSize_nat]; omega) (by rw [sizeLine_eq]; omega) fun g => ?_
  refine grow_rest K₀ hR (fun _ _ => trivial) hP ?_ (fun ys xs o' tl => fin ys xs o' tl g)
  rintro i v I oI C oC D ys m₂ h tk E' o' tl hi ⟨t, rfl⟩ hPo hfr hC hx F' N' off ne
  exact turn i t I oI C oC D ys m₂ g h tk E' o' tl hi hPo hfr hC hx F' N' off ne
theorem grow_list {α : Type} {R : Led → Value → α → Prop} {ok : Nat → α → Prop} (K₀ : Led) (hR : ∀ (n n' : Led) (v : Value) (x : α), R n v x → (∀ q ∈ n, q ∈ n') → R n' v x) {elt : PySem.Expr} {x : Str} {scope : Scope} {cl : List (Str × Addr)} {Fin : Shared → List Value → Led → Prop} {n : Nat} {pt : Addr} {o : Obj} {K : Led} {ax : Addr} {vs : List Value} {k : Nat}
    (hh : A.handled = none) (F : Fr h₀ L s₁.heap m) (N : News h₀ L s₁.heap ((pt, o) :: K)) (hm : (ax, listOf vs.toArray k) ∈ K) (hn : vs.length = n) (hn2 : n ≤ 1000) (hP : Paint o)
    (turn : ∀ i v I oI C oC D ys m₂ g h tk (E' : Value → Shared → Prop) o' tl, i < n → vs[i]? = some v → Paint o' → Fresh pt K tl → NsObj oC m₂ → m₂ x = some v → Fr h₀ L h m → News h₀ L h ((I, oI) :: (C, oC) :: (D, lst ys) :: (pt, o') :: (tl ++ K)) → Off3 I C D ((pt, o') :: (tl ++ K)) → ((@Ne Nat I C) ∧ (@Ne Nat I D) ∧ (@Ne Nat C D)) →
      wpAny (model prog w) A (eval elt (compEnvC scope cl C env)) (GrowEnd R (ok i) h₀ L m { ({ s₁ with heap := g } : Shared) with heap := h, toks := tk } I oI C oC D (lst ys) pt (tl ++ K) (tl ++ K₀)) E' { heap := h, gens := ({ s₁ with heap := g } : Shared).gens, drawn := ({ s₁ with heap := g } : Shared).drawn, toks := tk, os := ({ s₁ with heap := g } : Shared).os })
    (fin : ∀ ys xs o' tl g, xs.length = n → AllAt R (tl ++ K₀) ys xs → (∀ i x, xs[i]? = some x → ok i x) → Paint o' → Fresh pt K tl → Fin { s₁ with heap := g } ys ((pt, o') :: (tl ++ K))) :
    CompSrc prog w A h₀ L m env elt x scope cl Fin (.ref ax) s₁ := by
  subst hn
  refine CompSrc.ledger hh F N (.tail _ hm) (by rw [List.size_toArray, sizeLine_eq]; omega) fun g => ?_
  rw [List.size_toArray]
  refine grow_rest K₀ hR (fun nw hs => .inr ⟨_, hs _ hm, rfl, _, rfl⟩) hP ?_ (fun ys xs o' tl => fin ys xs o' tl g)
  rintro i v I oI C oC D ys m₂ h tk E' o' tl hi hv hPo hfr hC hx F' N' off ne
  exact turn i v I oI C oC D ys m₂ g h tk E' o' tl hi (by simpa using hv) hPo hfr hC hx F' N' off ne
/-- a comprehension over a list with a test that no element passes -/
theorem comp_none {elt ct : PySem.Expr} {x : Str} {scope : Scope} {cl : List (Str × Addr)} {Fin : Shared → List Value → Led → Prop} {ax : Addr} {vs : List Value} {k : Nat} {news : Led}
    (hh : A.handled = none) (F : Fr h₀ L s₁.heap m) (N : News h₀ L s₁.heap news) (hm : (ax, listOf vs.toArray k) ∈ news) (hsz : vs.length ≤ 1000)
    (turn : ∀ i v I oI C oC D ys m₂ g h tk (E' : Value → Shared → Prop), i < vs.length → vs[i]? = some v → NsObj oC m₂ → m₂ x = some v → Fr h₀ L h m → News h₀ L h ((I, oI) :: (C, oC) :: (D, lst ys) :: news) →
      wpAny (model prog w) A (isTrue ct (compEnvC scope cl C env) (eval ct (compEnvC scope cl C env))) (fun ok s' => Hold (ok = false ∧ Same h₀ L m ((I, oI) :: (C, oC) :: (D, lst ys) :: news) { s₁ with heap := h, toks := tk } s')) E' { heap := h, gens := ({ s₁ with heap := g } : Shared).gens, drawn := ({ s₁ with heap := g } : Shared).drawn, toks := tk, os := ({ s₁ with heap := g } : Shared).os })
    (fin : ∀ g, Fin { s₁ with heap := g } [] news) :
    LCt.CompSrcT prog w A h₀ L m env ct elt x scope cl Fin (.ref ax) s₁ := by
  refine LCt.CompSrcT.ledger hh F N hm (by rw [List.size_toArray, sizeLine_eq]; omega) fun g => ?_
  refine restT_inv _ (fun i ys nw => nw = news ∧ ys = []) ?_ ?_ _ 0 [] _ (Nat.zero_add _) ⟨rfl, rfl⟩
  · rintro i ys nw v I oI C oC D m₂ h tk E' hi ⟨rfl, rfl⟩ hv hC hx F' N' off ne
    have hS : SrcAt h₀ ax vs.toArray nw := .inr ⟨_, hm, rfl, _, rfl⟩
    refine wpAny_mono (turn i v I oI C oC D [] m₂ g h tk E' (by simpa using hi) (by simpa using hv) hC hx F' N') (fun ok s' he => ?_) fun _ _ e => e
    obtain ⟨rfl, h', tk', rfl, F'', N''⟩ := he
    rw [if_neg (by decide)]
    exact ⟨h', tk', _, rfl, F'', N'', off, hS, rfl, rfl⟩
  · rintro ys nw ⟨rfl, rfl⟩
    exact fin g
end
end
section
open PySem PySem.W PyProof.Rows PySem.Calls PyProof.Rows.LCg
abbrev lawK (L : Addr) (o5 o4 o3 o2 oP tb : Obj) (tl : Led) : Led := (L + 1 + 1 + 1 + 1 + 1, o5) :: (L + 1 + 1 + 1 + 1, o4) :: (L + 1 + 1 + 1, o3) :: (L + 1 + 1, o2) :: (L + 1, oP) :: (246, tb) :: tl
structure OffAll (L pt : Addr) (tl : Led) : Prop where
  p : Off1 pt tl
  c5 : Off1 (L + 1 + 1 + 1 + 1 + 1) tl
  c4 : Off1 (L + 1 + 1 + 1 + 1) tl
  c3 : Off1 (L + 1 + 1 + 1) tl
  c2 : Off1 (L + 1 + 1) tl
  c1 : Off1 (L + 1) tl
  t : Off1 246 tl
theorem OffAll.nil {L pt : Addr} : OffAll L pt [] := ⟨trivial, trivial, trivial, trivial, trivial, trivial, trivial⟩
theorem off1_app {D : Addr} {l r : Led} (a : Off1 D l) (b : Off1 D r) : Off1 D (l ++ r) := off1_in fun q hq => (List.mem_append.mp hq).elim (off1_out a q) (off1_out b q)
theorem OffAll.app {L pt : Addr} {l r : Led} (a : OffAll L pt l) (b : OffAll L pt r) : OffAll L pt (l ++ r) :=
  ⟨off1_app a.p b.p, off1_app a.c5 b.c5, off1_app a.c4 b.c4, off1_app a.c3 b.c3, off1_app a.c2 b.c2, off1_app a.c1 b.c1, off1_app a.t b.t⟩
theorem OffAll.fresh {L pt : Addr} {o5 o4 o3 o2 oP tb : Obj} {tl l : Led} (h : Fresh pt (lawK L o5 o4 o3 o2 oP tb tl) l) : OffAll L pt l :=
  ⟨off1_in fun q hq => (h q hq).1, off1_in fun q hq => Ne.symm ((h q hq).2 _ (.head _)), off1_in fun q hq => Ne.symm ((h q hq).2 _ (.tail _ (.head _))), off1_in fun q hq => Ne.symm ((h q hq).2 _ (.tail _ (.tail _ (.head _)))),
    off1_in fun q hq => Ne.symm ((h q hq).2 _ (.tail _ (.tail _ (.tail _ (.head _))))), off1_in fun q hq => Ne.symm ((h q hq).2 _ (.tail _ (.tail _ (.tail _ (.tail _ (.head _)))))), off1_in fun q hq => Ne.symm ((h q hq).2 _ (.tail _ (.tail _ (.tail _ (.tail _ (.tail _ (.head _)))))))⟩
theorem OffAll.cons {L pt D : Addr} {oD oQ o5 o4 o3 o2 oP tb : Obj} {tl l : Led} (h : Off1 D ((pt, oQ) :: lawK L o5 o4 o3 o2 oP tb tl)) (O : OffAll L pt l) : OffAll L pt ((D, oD) :: l) :=
  ⟨⟨Ne.symm h.1, O.p⟩, ⟨Ne.symm h.2.1, O.c5⟩, ⟨Ne.symm h.2.2.1, O.c4⟩, ⟨Ne.symm h.2.2.2.1, O.c3⟩, ⟨Ne.symm h.2.2.2.2.1, O.c2⟩, ⟨Ne.symm h.2.2.2.2.2.1, O.c1⟩, ⟨Ne.symm h.2.2.2.2.2.2.1, O.t⟩⟩
theorem law_pack {h₀ h : Heap} {L pt : Addr} {news : Led} {o oP o5 o4 o3 o2 tb : Obj} (tl : Led) (N : News h₀ L h news) (hs : ∀ q ∈ (pt, o) :: lawK L o5 o4 o3 o2 oP tb tl, q ∈ news) (_hP : Paint o) (off : Off1 pt (lawK L o5 o4 o3 o2 oP tb tl)) :
    ∃ K : Led, News h₀ L h ((pt, o) :: K) ∧ (∀ q ∈ K, q.1 ≠ pt) ∧ (L + 1, oP) ∈ K ∧ (∀ q ∈ tl, q ∈ K) ∧ K = lawK L o5 o4 o3 o2 oP tb tl :=
  ⟨_, news_sub N hs, off1_out off, .tail _ (.tail _ (.tail _ (.tail _ (.head _)))), fun _ hq => .tail _ (.tail _ (.tail _ (.tail _ (.tail _ (.tail _ hq))))), rfl⟩
theorem law_unpack {h₀ h : Heap} {L pt D : Addr} {o oD oP o5 o4 o3 o2 tb : Obj} {K tl tn : Led} (N : News h₀ L h ((D, oD) :: (pt, o) :: (tn ++ K))) (q5 : Off1 D ((pt, o) :: (tn ++ K))) (hK : K = lawK L o5 o4 o3 o2 oP tb tl) (O : OffAll L pt tl) (hf : Fresh pt K tn) :
    ∃ t2 : Led, News h₀ L h ((D, oD) :: (pt, o) :: lawK L o5 o4 o3 o2 oP tb t2) ∧ OffAll L pt t2 ∧ Off1 D ((pt, o) :: lawK L o5 o4 o3 o2 oP tb t2) ∧ t2 = tn ++ tl := by
  subst hK
  have mem : ∀ q, q ∈ lawK L o5 o4 o3 o2 oP tb (tn ++ tl) → q ∈ tn ++ lawK L o5 o4 o3 o2 oP tb tl := fun q hq => by
    simp only [lawK, List.mem_cons, List.mem_append] at hq ⊢
    rcases hq with h | h | h | h | h | h | h | h <;> simp [h]
  refine ⟨tn ++ tl, news_sub N fun q hq => ?_, (OffAll.fresh hf).app O, ⟨q5.1, off1_in fun q hq => off1_out q5.2 q (mem q hq)⟩, rfl⟩
  rcases List.mem_cons.mp hq with rfl | hq
  · exact .head _
  rcases List.mem_cons.mp hq with rfl | hq
  · exact .tail _ (.head _)
  · exact .tail _ (.tail _ (mem q hq))
theorem AllAt.take {α : Type} {R : Led → Value → α → Prop} {nw : Led} {vs : List Value} {xs : List α} (h : AllAt R nw vs xs) (n : Nat) : AllAt R nw (vs.take n) (xs.take n) := by
  refine ⟨by simp [h.1], fun i v x a b => ?_⟩
  rw [List.getElem?_take] at a b
  split at a
  · rename_i hi
    rw [if_pos hi] at b
    exact h.2 i v x a b
  · cases a
theorem near_take {cs : List Col} (c : Col) (h : 1 ≤ cs.length) : nearOf (cs.take 1) c = 0 := by
  have e : (cs.take 1).length = 1 := by rw [List.length_take]; omega
  unfold nearOf
  rw [e]
  rfl
theorem slice_one {ps : List Value} (h : 1 ≤ ps.length) : slicePick ps.toArray none (some 1) none = (ps.take 1).toArray := slicePick_upto ps.toArray 1 (by simpa using h)
abbrev planeD (w : World) (l : Addr) (t1 t2 t3 a b : Tok) : Obj :=
  dictOf [{ hash := PyData.keyHash w.params (Str.ofString "width"), key := .str (Str.ofString "width") t1, val := .int 0 a }, { hash := PyData.keyHash w.params (Str.ofString "height"), key := .str (Str.ofString "height") t2, val := .int 0 b },
    { hash := PyData.keyHash w.params (Str.ofString "rows"), key := .str (Str.ofString "rows") t3, val := .ref l }] 3
def IsPlane (w : World) (nw : Led) (v : Value) (_ : Unit) : Prop := ∃ x d l t1 t2 t3 a b, v = .ref x ∧ (x, instObj 167 d) ∈ nw ∧ (d, planeD w l t1 t2 t3 a b) ∈ nw
theorem IsPlane.mono {w : World} {n n' : Led} {v : Value} {u : Unit} (h : IsPlane w n v u) (hs : ∀ q ∈ n, q ∈ n') : IsPlane w n' v u := by
  obtain ⟨x, d, l, t1, t2, t3, a, b, e, h1, h2⟩ := h
  exact ⟨x, d, l, t1, t2, t3, a, b, e, hs _ h1, hs _ h2⟩
theorem allLt_mem {D : Addr} {l : Led} (h : AllLt D l) : ∀ q ∈ l, (@LT.lt Nat _ q.1 D) := by
  induction l with
  | nil => exact fun _ hq => nomatch hq
  | cons p r ih =>
    intro q hq
    rcases List.mem_cons.mp hq with rfl | hq
    · exact h.1
    · exact ih h.2 q hq
theorem plane_end {w : World} {h₀ h' : Heap} {L I C D pt x d l : Addr} {m : Str → Option Value} {s₁ : Shared} {oI oC oD o' : Obj} {base b0 all : Led} {tk' : Nat} {t1 t2 t3 a b : Tok} (F : Fr h₀ L h' m) (N : News h₀ L h' all)
    (hx : (x, instObj 167 d) ∈ all) (hd : (d, planeD w l t1 t2 t3 a b) ∈ all) (hs : ∀ q ∈ (I, oI) :: (C, oC) :: (D, oD) :: (pt, o') :: base, q ∈ all)
    (ld : AllLt d ((I, oI) :: (C, oC) :: (D, oD) :: (pt, o') :: base)) (lx : (@LT.lt Nat _ d x)) (hP : Paint o') :
    GrowEnd (IsPlane w) (fun _ => True) h₀ L m s₁ I oI C oC D oD pt base b0 (.ref x) { s₁ with heap := h', toks := tk' } := by
  refine ⟨_, _, o', [(x, _), (d, _)], (), rfl, F, fun q hq => N q ?_, hP, fun q hq p hp => ?_, ⟨x, d, l, t1, t2, t3, a, b, rfl, .head _, .tail _ (.head _)⟩, trivial⟩
  · dsimp only [List.cons_append, List.nil_append] at hq
    simp only [List.mem_cons] at hq hs
    rcases hq with h | h | h | h | h | h | h
    · exact hs q (.inl h)
    · exact hs q (.inr (.inl h))
    · exact hs q (.inr (.inr (.inl h)))
    · exact hs q (.inr (.inr (.inr (.inl h))))
    · rw [h]; exact hx
    · rw [h]; exact hd
    · exact hs q (.inr (.inr (.inr (.inr h))))
  · simp only [List.mem_cons, List.not_mem_nil, or_false] at hq
    rcases hq with rfl | rfl
    · exact Nat.ne_of_lt (Nat.lt_trans (allLt_mem ld p hp) lx)
    · exact Nat.ne_of_lt (allLt_mem ld p hp)
end
section
open PySem PySem.W PyProof.Rows PySem.Calls
section
variable {M : Model} {A : Around} {E : Value → Shared → Prop} {h : Heap} {g : Array GenState} {d : Drawn} {t : Nat} {os : OsState}
variable {nm q : Str} {C N : Addr} {bs bm bmB : List Value} {hdct : Bool} {sn : List Str} {sub : List Value} {ab : Bool} {col : Option Bool} {dd : Option Addr} {k0 k1 k2 k3 k5 : Option Value} {B newId initId : String}
theorem check_newX (F : ExcBaseFacts B newId initId bmB) (hcont : (Value.ref C :: bm).contains (.type B) = true) {rest : List Value} {Q : Unit → Shared → Prop} (hC : h.get? C = some (excClassObj nm q C N bs bm hdct sn sub ab col dd k0 k1 k2 k3 k5 newId))
    (hq : Q () ⟨h, g, d, t, os⟩) : wpAny M A (checkBuiltinCall newId ⟨.ref C :: rest, []⟩) Q E ⟨h, g, d, t, os⟩ := by
  have hstar := F.noStar
  simp only [checkBuiltinCall, F.newKind, F.newSplit, F.newRow]
  repeat (first | refine wpAny_loadPart_at hC ?_ | (refine wpAny_isSubtype_exc hC ?_; rw [hcont]) | refine wpAny_staticBase_exc hC ?_ | refine wpAny_madeBy_exc hC ?_ | simp only [bne_self_eq_false, Bool.false_eq_true, if_false] | wp_step)
  exact hq
end
section
variable {prog : Program} {w : World} {A : Around} {R : Result → Shared → Prop} {h : Heap} {g : Array GenState} {d : Drawn} {t : Nat} {os : OsState}
variable {nm q : Str} {C N : Addr} {bs bm bmB : List Value} {hdct : Bool} {sn : List Str} {sub : List Value} {ab : Bool} {col : Option Bool} {dd : Option Addr} {k0 k1 k2 k3 k5 : Option Value} {B newId initId : String}
abbrev excObj (C T : Addr) (dd : Option Addr) : Obj := { cls := .ref C, dict := dd, data := .fields #[.ref T, .none, .none, .none, .bool false, .none] }
abbrev tupO (rest : List Value) : Obj := { cls := .type "tuple", data := .seq rest.toArray }
theorem exc_newX (F : ExcBaseFacts B newId initId bmB) (hcB : (Value.ref C :: bm).contains (.type B) = true) (hcA : (Value.ref C :: bm).contains (.type "AttributeError") = false) (hcN : (Value.ref C :: bm).contains (.type "NameError") = false) {rest : List Value}
    (hC : h.get? C = some (excClassObj nm q C N bs bm hdct sn sub ab col dd k0 k1 k2 k3 k5 newId))
    (hq : R (.ok (.ret (.ref (h.objs.size + 1)))) ⟨(h.push (tupO rest)).push (excObj C h.objs.size none), g, d, t, os⟩) (hrest : rest.length ≤ sizeLine) :
    codeAny (model prog w) A (.builtin newId ⟨.ref C :: rest, []⟩) R ⟨h, g, d, t, os⟩ := by
  have hends := F.ends
  refine codeAny_builtinAt F.entry ?_
  unfold Builtin.«BaseException.__new__»
  refine PySem.wpAt_bind ?_
  show PySem.wpAt _ _ _ (stack >>= _) _ _ _
  refine PySem.wpAt_bind (PySem.wpAt_stack fun p below => PySem.wpAt_of_wpAny ?_)
  wp_walk
  refine PySem.wpAt_of_wpAny ?_
  rw [F.owner]
  repeat (first | with_reducible refine wpAny_madeHere_exc F.canon hC ?_ | with_reducible refine wpAny_loadPart_at hC ?_ | (with_reducible refine wpAny_isSubtype_exc hC ?_; first | rw [hcB] | rw [hcA] | rw [hcN]) | wp_step)
  show R _ _
  rw [Heap.size_push]
  exact hq
end
section
variable {prog : Program} {w : World} {A : Around} {R : Result → Shared → Prop} {h : Heap} {g : Array GenState} {d : Drawn} {t : Nat} {os : OsState}
variable {nm q : Str} {C N : Addr} {bs bm bmB : List Value} {hdct : Bool} {sn : List Str} {sub : List Value} {ab : Bool} {col : Option Bool} {dd : Option Addr} {k0 k1 k2 k3 k5 : Option Value} {B newId initId : String}
theorem make_excX (F : ExcBaseFacts B newId initId bmB) (hcB : (Value.ref C :: bm).contains (.type B) = true) (hcA : (Value.ref C :: bm).contains (.type "AttributeError") = false) (hcN : (Value.ref C :: bm).contains (.type "NameError") = false)
    {rest : List Value} {fI : Addr} (hC : h.get? C = some (excClassObj nm q C N bs bm hdct sn sub ab col dd k0 k1 k2 k3 k5 newId)) (hrest : rest.length ≤ sizeLine)
    (call : Looks (model prog w) h (specialOf (.ref C) "__call__") (some (.builtin "type.__call__"))) (typ : Looks (model prog w) h (isInstance (.ref C) (.type "type")) true)
    (self : Looks (model prog w) h (isSubtype (.ref C) (.ref C)) true) (hi : Looks (model prog w) h (typeLookup (.ref C) "__init__") (some (.ref fI))) (hb : ∀ self, Looks (model prog w) h (bindSpecial (.ref fI) self) (.ref fI, [self]))
    (hq : codeAny (model prog w) (A.under (.builtin "type.__call__" ⟨.ref C :: rest, []⟩)) (.call (.ref fI) ⟨.ref (h.objs.size + 1) :: rest, []⟩) (InitBack (h.objs.size + 1) R) ⟨(h.push (tupO rest)).push (excObj C h.objs.size none), g, d, t, os⟩) :
    codeAny (model prog w) A (.call (.ref C) ⟨rest, []⟩) R ⟨h, g, d, t, os⟩ := by
  refine codeAny_of_tree ?_
  show wpAny _ _ (callAny (.ref C) _) _ _ _
  refine nd_load hC ?_
  show wpAny _ _ (callAny.viaDunder (.ref C) _) _ _ _
  unfold callAny.viaDunder
  refine wpAny_bind (call.at ?_)
  dsimp only
  rw [tc_bind]
  refine wpAny_bind (wpAny_pure (wpAny_bind (wpAny_pure ?_)))
  refine wpAny_pure (a := Fin.again (.call (.builtin "type.__call__") ⟨.ref C :: rest, []⟩)) (And.intro rfl ?_)
  refine codeAny_call_builtin_at (Code.quiet_builtin _ (by decide +kernel)) entry_typeCall (check_slot tc_kind tc_split typ (tc_args _ _ _) ?_)
  unfold Builtin.«type.__call__»
  repeat (first | with_reducible refine wpAny_loadPart_at hC ?_ | with_reducible refine wpAny_madeBy_exc hC ?_ | wp_step)
  refine codeAny_call_builtin_code (Code.quiet_builtin _ F.quiet) (check_newX F hcB hC ?_)
  refine exc_newX F hcB hcA hcN hC ?_ hrest
  have k : ∀ b o, h.get? b = some o → ((h.push (tupO rest)).push (excObj C h.objs.size none)).get? b = some o := fun b o e => Heap.get?_push_of_some _ (Heap.get?_push_of_some _ e)
  have hx : ((h.push (tupO rest)).push (excObj C h.objs.size none)).get? (h.objs.size + 1) = some (excObj C h.objs.size none) := by heap_get
  have t1 : Looks (model prog w) ((h.push (tupO rest)).push (excObj C h.objs.size none)) (typeOf (.ref (h.objs.size + 1))) (.ref C) := (Looks.ld hx).andThen .now
  have s1 := self.keeps k
  have i1 := hi.keeps k
  have b1 := (hb (.ref (h.objs.size + 1))).keeps k
  unfold isInstance callSpecial? specialOf
  repeat (first | with_reducible refine wpAny_call ?_ | lk)
  refine codeAny_mono hq fun r s' z => ?_
  rcases r with e | (v | _ | _ | _) <;> first | exact z | exact z.elim | skip
  obtain ⟨rfl, z⟩ := z
  exact wpAny_pure (wpAny_pure z)
end
section
variable {prog : Program} {w : World} {A : Around} {E : Value → Shared → Prop} {s : Shared} {h₀ : Heap} {L : Addr} {m : Str → Option Value}
variable {nm q : Str} {C N : Addr} {bs bm bmB : List Value} {hdct : Bool} {sn : List Str} {sub : List Value} {ab : Bool} {col : Option Bool} {dd dx : Option Addr} {k0 k1 k2 k3 k5 : Option Value} {B newId initId : String}
theorem check_initX {h : Heap} {g : Array GenState} {d : Drawn} {t : Nat} {os : OsState} (F : ExcBaseFacts B newId initId bmB) (hcB : (Value.ref C :: bm).contains (.type B) = true) {M : Model} {e : Addr} {oe : Obj} {rest : List Value} {Q : Unit → Shared → Prop}
    (hC : h.get? C = some (excClassObj nm q C N bs bm hdct sn sub ab col dd k0 k1 k2 k3 k5 newId)) (he : h.get? e = some oe) (hcls : oe.cls = .ref C) (hq : Q () ⟨h, g, d, t, os⟩) :
    wpAny M A (checkBuiltinCall initId ⟨.ref e :: rest, []⟩) Q E ⟨h, g, d, t, os⟩ := by
  have hshort := F.noStar
  simp only [checkBuiltinCall, F.initKind, F.initSplit, F.initRow]
  repeat (first | (with_reducible refine wpAny_loadPart_at he ?_; rw [hcls]) | with_reducible refine wpAny_loadPart_at hC ?_ | (with_reducible refine wpAny_isSubtype_exc hC ?_; rw [hcB]) | wp_step)
  refine wpAny_onRaise ?_
  rw [show ∀ (a b : String) (n : Nat), Bind.check ⟨.positional, "*", B, .self, [⟨"args", .varPos, false⟩]⟩ a b n (List.map (fun x => x.fst) ({ pos := Value.ref e :: rest } : Args).kw) = pure () from
    fun a b n => check_star_args _ _ _ _ _ _]
  exact wpAny_pure hq
theorem exc_init_K {e T : Addr} {v : Value} {news : Led} {Q : Value → Shared → Prop} (FB : ExcBaseFacts B newId initId bmB) (hcB : (Value.ref C :: bm).contains (.type B) = true) (F : Fr h₀ L s.heap m) (N' : News h₀ L s.heap ((e, excObj C T dx) :: news)) (hne : ∀ q ∈ news, q.1 ≠ e)
    (hC : s.heap.get? C = some (excClassObj nm q C N bs bm hdct sn sub ab col dd k0 k1 k2 k3 k5 newId))
    (h : ∀ T2 h', Fr h₀ L h' m → News h₀ L h' ((e, excObj C T2 dx) :: (T2, tupO [v]) :: news) → (@LT.lt Nat _ e T2) → (∀ q ∈ news, q.1 < T2) → Q .none { s with heap := h' }) :
    wpAny (model prog w) A (call (.builtin initId) [.ref e, v]) Q E s := by
  have z := N' _ (.head _)
  have lt : ∀ q ∈ (e, excObj C T dx) :: news, q.1 < s.heap.objs.size := fun q hq => Heap.lt_size (N' q hq).1
  have Nt := N'.push F (tupO [v])
  have Ft := F.push (tupO [v])
  obtain ⟨hp, g, d, t, os⟩ := s
  have he : hp.get? e = some (excObj C T dx) := z.1
  refine wpAny_call (codeAny_call_builtin FB.init.plain FB.initEntry (check_initX FB hcB hC he rfl ?_))
  wp_walk
  show Q .none { heap := (hp.push (tupO [v])).update e (Obj.mapFields fun x => x.setIfInBounds 0 (Value.ref hp.objs.size)), gens := g, drawn := d, toks := t, os := os }
  have hlt : (@LT.lt Nat _ e hp.objs.size) := lt _ (.head _)
  refine h hp.objs.size _ (Ft.change (Heap.SameBut.update ..) z.2.1 z.2.2) (fun q hq => ?_) hlt fun q hq => lt q (.tail _ hq)
  rcases List.mem_cons.mp hq with rfl | hq
  · refine ⟨?_, z.2.1, z.2.2⟩
    exact Heap.get?_update_self _ (Heap.get?_push_of_some _ he) rfl
  · rcases List.mem_cons.mp hq with rfl | hq
    · have y := Nt _ (.head _)
      exact ⟨(Heap.get?_update_other _ _ (Nat.ne_of_lt hlt)).trans y.1, y.2⟩
    · have y := Nt _ (.tail _ (.tail _ hq))
      exact ⟨(Heap.get?_update_other _ _ (Ne.symm (hne q hq))).trans y.1, y.2⟩
end
open PySem.Builtin PySem.Builtin.ObjectAttr PySem.Builtin.Getset_descriptor
theorem refuse_exc (self : Value) : refuseLoop self "__setattr__" [.type "Exception", .type "BaseException", .type "object"] = pure () := by kernel_rfl
section
variable {prog : Program} {w : World} {A : Around} {s : Shared} {R : Result → Shared → Prop} {K : Frag} {C x : Addr}
theorem osa_openX {ox : Obj} {od : Option Obj} {name : Str} {tk : Tok} {v : Value} {r : Option Value} {l : List Value} (X : K.In s.heap) (I : InstAt s.heap x ox C od) (hm : Looks (model prog w) s.heap (mroOf (.ref C)) l) (hl : refuseLoop (.ref x) "__setattr__" l = pure ())
    (hsub : subIn K (.ref C) (.type "object") = some true) (ht : takerIn K C name = some r)
    (h : ∀ b, wpAny (model prog w) A.in1 (match r with | some a => setByDescriptor a (.ref x) v | none => storeInOwnDict (.ref x) (.ref C) (.str name tk) name v b)
      (fun fin s' => match fin with | .done f => R (.ok f) s' | .again c' => c'.quiet = true ∧ codeAny (model prog w) A c' R s') (fun e s' => R (.error e) s') s) :
    codeAny (model prog w) A (.call (.builtin "object.__setattr__") ⟨[.ref x, .str name tk, v], []⟩) R s := by
  have SF := PySem.F.store_object
  have sub : Looks (model prog w) s.heap (isInstance (.ref x) (.type "object")) true := I.type.andThen (looks_subIn X hsub)
  refine codeAny_call_builtin SF.slot.plain SF.entry (@check_slot (model prog w) _ _ s "object.__setattr__" "object" "__setattr__" (.ref x) [.str name tk, v] [] _ SF.kind SF.split sub (SF.args (.ref x) (.str name tk) v) ?_)
  obtain ⟨attr, ha, hr⟩ := Option.bind_eq_some_iff.mp ht
  have L3 : Looks (model prog w) s.heap (storeTaker? attr) r := by
    cases attr with
    | none => cases hr; exact .now
    | some a =>
      obtain ⟨b, hb, rfl⟩ := Option.map_eq_some_iff.mp hr
      refine (looks_takesIn X hb).andThen ?_
      cases b <;> exact .now
  rw [osa_eq, refuse_eq]
  refine wpAny_bind (wpAny_bind (I.type.here (wpAny_bind (hm.here ?_))))
  rw [hl]
  refine wpAny_pure (wpAny_bind (I.type.here (wpAny_bind ((looks_findIn X ha).here (wpAny_bind (L3.here ?_))))))
  exact h _
end
open PySem.Builtin PySem.Builtin.ObjectAttr PySem.Builtin.Getset_descriptor
section
variable {prog : Program} {w : World} {A : Around} {E : Value → Shared → Prop} {s : Shared} {h₀ : Heap} {L : Addr} {m : Str → Option Value} {K : Frag} {C : Addr}
theorem exc_set_K {e T : Addr} {name : Str} {v : Value} {news : Led} {l : List Value} {Q : Unit → Shared → Prop} (F : Fr h₀ L s.heap m) (X₀ : K.In h₀) (N : News h₀ L s.heap ((e, excObj C T none) :: news)) (hne : ∀ q ∈ news, q.1 ≠ e)
    (hs : findIn K (.ref C) "__setattr__" = some (some (.builtin "object.__setattr__"))) (hm : (clsIn K C).map (·.mro) = some l) (hl : ∀ self, refuseLoop self "__setattr__" l = pure ()) (hsub : subIn K (.ref C) (.type "object") = some true) (ht : takerIn K C name = some none) (hh : (clsIn K C).any (·.hasDict) = true)
    (h : ∀ dx t h' tk', Fr h₀ L h' m → News h₀ L h' ((e, excObj C T (some dx)) :: (dx, dictOf [{ hash := PyData.keyHash w.params name, key := .str name t, val := v }] 1) :: news) → (@LT.lt Nat _ e dx) → (∀ q ∈ news, q.1 < dx) → Q () { s with heap := h', toks := tk' }) :
    wpAny (model prog w) A (setAttr (.ref e) name v) Q E s := by
  have X := X₀.keeps F.keep
  have z := N _ (.head _)
  have I : W.InstAt s.heap e (excObj C T none) C none := ⟨z.1, rfl, rfl, trivial⟩
  obtain ⟨cd, hc, hd'⟩ := any_some hh
  have hmro : cd.mro = l := by rw [hc] at hm; exact Option.some.inj hm
  refine set_plain X I hs ?_
  refine osa_openX (s := { s with toks := s.toks + 1 }) X I (((looks_clsIn X hc).andThen .now)) (by rw [hmro]; exact hl _) hsub ht fun b => ?_
  have key : ∀ (s : Shared), K.In s.heap → Fr h₀ L s.heap m → News h₀ L s.heap ((e, excObj C T none) :: news) → (∀ dx t h' tk', Fr h₀ L h' m → News h₀ L h' ((e, excObj C T (some dx)) :: (dx, dictOf [{ hash := PyData.keyHash w.params name, key := .str name t, val := v }] 1) :: news) → (@LT.lt Nat _ e dx) → (∀ q ∈ news, q.1 < dx) → Q () { s with heap := h', toks := tk' }) →
      ∀ (tk : Tok) (b : Bool) (A' : Around), wpAny (model prog w) A' (storeInOwnDict (.ref e) (.ref C) (.str name tk) name v b) (fun fin s' => match fin with | .done (.ret _) => Q () s' | _ => False) (fun e s' => E e s') s := by
    clear h z I X F N
    intro s X F N h tk b A'
    have z := N _ (.head _)
    refine wpAny_bind (wpAny_pure (wpAny_bind (wpAny_bind (wpAny_loadPart z.1 (wpAny_bind ((looks_clsIn X hc).here ?_))))))
    rw [hd']
    have hlt : (@LT.lt Nat _ e s.heap.objs.size) := Heap.lt_size z.1
    have lt : ∀ q ∈ news, q.1 < s.heap.objs.size := fun q hq => Heap.lt_size (N q (.tail _ hq)).1
    have F1 := F.push emptyDict
    have N1 := N.push F emptyDict
    have z1 := N1 _ (.tail _ (.head _))
    obtain ⟨F2, N2⟩ := news_upd (pre := [(s.heap.objs.size, emptyDict)]) (post := news) (f := fun o => { o with dict := some s.heap.objs.size }) F1 N1 (fun p hp => by rcases List.mem_singleton.mp hp with rfl; exact Ne.symm (Nat.ne_of_lt hlt)) hne rfl rfl
    refine wpAny_bind (wpAny_alloc (wpAny_bind (wpAny_update z1.1 (wpAny_pure (a := some s.heap.objs.size) ?_))))
    have D := (N2 (s.heap.objs.size, emptyDict) (.head _)).1
    have eD : Obj.putName name (PyData.keyHash w.params name) (.str name s.toks) v emptyDict = dictOf [{ hash := PyData.keyHash w.params name, key := .str name s.toks, val := v }] 1 := by rfl
    obtain ⟨F3, N3⟩ := news_upd (pre := []) (post := (e, excObj C T (some s.heap.objs.size)) :: news) (f := Obj.putName name (PyData.keyHash w.params name) (.str name s.toks) v) F2 N2 (fun p hp => nomatch hp) (fun p hp => by
      rcases List.mem_cons.mp hp with rfl | hp
      · exact Nat.ne_of_lt hlt
      · exact Nat.ne_of_lt (lt p hp)) eD rfl
    have D' := (N3 (s.heap.objs.size, _) (.head _)).1
    refine wpAny_bind (wpAny_pure (wpAny_bind ?_))
    unfold nsSet
    refine wpAny_bind (wpAny_bind (wpAny_askSetting (wpAny_pure (wpAny_bind (wpAny_mkText (wpAny_bind (wpAny_loadPart D ?_)))))))
    dsimp only
    rw [aRefKeyMayBeTheName_at, show (!(#[] : Array DictEntry).any (·.key.isStr name) && (#[] : Array DictEntry).any (·.refKey)) = false from by simp]
    refine wpAny_updatePart D ?_
    refine wpAny_bind (wpAny_lookBehind D' (pastItsLine_dict (by simp [sizeLine_eq])) ?_)
    have mem : ∀ q, q ∈ (e, excObj C T (some s.heap.objs.size)) :: (s.heap.objs.size, dictOf [{ hash := PyData.keyHash w.params name, key := .str name s.toks, val := v }] 1) :: news → q ∈ [] ++ (s.heap.objs.size, dictOf [{ hash := PyData.keyHash w.params name, key := .str name s.toks, val := v }] 1) :: (e, excObj C T (some s.heap.objs.size)) :: news := fun q hq => by
      rcases List.mem_cons.mp hq with rfl | hq
      · exact .tail _ (.head _)
      · rcases List.mem_cons.mp hq with rfl | hq
        · exact .head _
        · exact .tail _ (.tail _ hq)
    have fin := h s.heap.objs.size s.toks _ (s.toks + 1) F3 (fun q hq => N3 q (mem q hq)) hlt lt
    exact wpAny_pure fin
  have K1 := key { s with toks := s.toks + 1 } X F N (fun dx t h' tk' a b c d => h dx t h' tk' a b c d) s.toks b A.in1
  refine wpAny_mono K1 (fun fin s' hf => ?_) fun _ _ q => q
  rcases fin with (_ | _ | _ | _) | _ <;> first | exact hf | exact hf.elim
end
end
section
open PySem PySem.W PyProof.Rows PySem.Calls
section
variable {M : Model} {A : Around} {E : Value → Shared → Prop} {s' : Shared} {base g : Heap} {outer : List Env} {L a e t : Addr} {m : Str → Option Value} {name : Str} {scope : Scope} {cd : Value} {Q : Unit → Shared → Prop} {news : Led}
/-- leave_raiseK, for an exception that stands in the ledger, with any dict -/
theorem leave_raiseD {C : Addr} {vs : List Value} {dd : Option Addr} (K : Below A base outer g) (F : Fr g L s'.heap m) (N : News g L s'.heap ((e, excObj C t dd) :: (t, tupO vs) :: news)) (hne : ∀ q ∈ news, q.1 ≠ e ∧ q.1 ≠ t)
    (hQ : ∀ h', RaisedS base g outer e (.ref C) t vs news h' → g.UpToSlots h' → Q () { s' with heap := h' }) (hk : scope.kind = .function := by rfl) :
    wpAny M (A.deeper (envOf name scope L a cd)) (leaving (envOf name scope L a cd) (.ref e)) Q E s' := by
  have K' := K.push (name := name) (a := a) (cd := cd) F hk
  have ze := N _ (.head _)
  have zt := N _ (.tail _ (.head _))
  have be : base.get? e = none := fresh_of_stays K.stays ze.2.2
  have bt : base.get? t = none := fresh_of_stays K.stays zt.2.2
  generalize hfr : (envOf name scope L a cd :: outer).filterMap (·.frame) = fr
  have hin : ∀ env ∈ (envOf name scope L a cd :: outer), ∀ b, env.frame = some b → b ∈ e :: t :: fr := fun env he b hb => .tail _ (.tail _ (by rw [← hfr]; exact List.mem_filterMap.mpr ⟨env, he, hb⟩))
  have fnew : ∀ b ∈ fr, base.get? b = none := fun b hb => by
    rw [← hfr] at hb
    exact (K'.frames.mem hb).1
  have st : base.StaysIn (hideAll s'.heap (e :: t :: fr)) := fun b o q => hideAll_get _ (K'.stays b o q) fun hm => by
    rcases List.mem_cons.mp hm with rfl | hm
    · rw [be] at q; cases q
    · rcases List.mem_cons.mp hm with rfl | hm
      · rw [bt] at q; cases q
      · rw [fnew b hm] at q; cases q
  have sg : ∀ b o, g.get? b = some o → b ∉ outer.filterMap (·.frame) → (hideAll s'.heap (e :: t :: fr)).get? b = some o := fun b o q nm => hideAll_get _ (F.keep b o q) fun hm => by
    rcases List.mem_cons.mp hm with rfl | hm
    · rw [ze.2.2] at q; cases q
    rcases List.mem_cons.mp hm with rfl | hm
    · rw [zt.2.2] at q; cases q
    rw [← hfr] at hm
    rcases kts_mem hm with z | z
    · rw [z, kts_self F] at q; cases q
    · exact nm z
  have hl : ∀ q ∈ news, (hideAll s'.heap (e :: t :: fr)).get? q.1 = some q.2 ∧ g.get? q.1 = none ∧ base.get? q.1 = none := fun q hq => by
    have z := N q (.tail _ (.tail _ hq))
    refine ⟨hideAll_get _ z.1 fun hm => ?_, z.2.2, fresh_of_stays K.stays z.2.2⟩
    rcases List.mem_cons.mp hm with h | hm
    · exact (hne q hq).1 h
    rcases List.mem_cons.mp hm with h | hm
    · exact (hne q hq).2 h
    rw [← hfr] at hm
    obtain ⟨env, he, hf⟩ := List.mem_filterMap.mp hm
    rcases List.mem_cons.mp he with rfl | he
    · exact z.2.1 (Option.some.inj hf).symm
    · obtain ⟨o, ho, _⟩ := (K.frames.mem (List.mem_filterMap.mpr ⟨env, he, hf⟩)).2
      rw [z.2.2] at ho; cases ho
  refine wpAny_leaving_firstW (base := hideAll s'.heap (e :: t :: fr)) (a0 := .ref t) K'.stack (funFrames_hide K'.frames hin) rfl ze.1 (fun b o q => of_hideAll _ q) (hideAll_none _ (.head _)) rfl rfl rfl fun h' hL => ?_
  obtain ⟨k1, ⟨_, _, k2⟩, k3, k4⟩ := hL
  exact hQ h' ⟨⟨_, st, sg, hl, ⟨k1, hideAll_none _ (.head _), k2, k3⟩, hideAll_none _ (.tail _ (.head _))⟩, Heap.TupAt.of_slots ⟨_, _, zt.1, rfl, rfl⟩ k4⟩ ((Heap.UpToSlots.of_keeps F.keep).trans k4)
end
section
variable {prog : Program} {w : World} {A : Around} {E : Value → Shared → Prop} {s : Shared} {env : Env}
variable {nm q : Str} {C N : Addr} {bs bm : List Value} {hdct : Bool} {sn : List Str} {sub : List Value} {ab : Bool} {col : Option Bool} {dd : Option Addr} {k0 k1 k2 k3 k5 : Option Value} {newId : String}
theorem raiseStmt_X {x : Sem Value} {Q : Flow → Shared → Prop} (hcB : (Value.ref C :: bm).contains (.type "BaseException") = true) (hh : A.handled = none)
    (h : wpAny (model prog w) A x (fun v s₁ => ∃ e t dx, v = .ref e ∧ s₁.heap.get? C = some (excClassObj nm q C N bs bm hdct sn sub ab col dd k0 k1 k2 k3 k5 newId) ∧
      s₁.heap.get? e = some (excObj C t dx) ∧ E (.ref e) s₁) E s) :
    wpAny (model prog w) A (raiseStmt env (some x) none) Q E s := by
  unfold raiseStmt
  refine wpAny_bind (wpAny_mono h (fun v s₁ h₁ => ?_) fun _ _ x => x)
  obtain ⟨e, t, dx, rfl, hC, he, hE⟩ := h₁
  obtain ⟨hp, g, d, tk, os⟩ := s₁
  repeat (first | with_reducible refine wpAny_loadPart_at he ?_ | with_reducible refine wpAny_loadPart_at hC ?_ | (with_reducible refine wpAny_isSubtype_exc hC ?_; rw [hcB]) | wp_step)
  exact wpAny_raiseNew_none hh hE
theorem raise_X {x : PySem.Expr} {pos : Pos} {Q : Flow → Shared → Prop} (hcB : (Value.ref C :: bm).contains (.type "BaseException") = true) (hh : A.handled = none)
    (h : wpAny (model prog w) A (eval x env) (fun v s₁ => ∃ e t dx, v = .ref e ∧ s₁.heap.get? C = some (excClassObj nm q C N bs bm hdct sn sub ab col dd k0 k1 k2 k3 k5 newId) ∧
      s₁.heap.get? e = some (excObj C t dx) ∧ E (.ref e) s₁) E s) :
    wpAny (model prog w) A (exec (.Raise (some x) none pos) env) Q E s := by
  rw [arm_exec_Raise]
  first
    | exact wpAny_bind (wpAny_standAt (raiseStmt_X hcB hh (wpAny_bind (wpAny_mono h (fun v s₁ h₁ => wpAny_bind (wpAny_standAt (wpAny_pure h₁))) fun _ _ x => x))))
    | (simp only [evalOpt, Option.map]; exact wpAny_bind (wpAny_standAt (raiseStmt_X hcB hh (wpAny_bind (wpAny_mono h (fun v s₁ h₁ => wpAny_bind (wpAny_standAt (wpAny_pure h₁))) fun _ _ x => x)))))
theorem raise_XK {g : Heap} {x : PySem.Expr} {pos : Pos} {Q : Flow → Shared → Prop} (hC : g.get? C = some (excClassObj nm q C N bs bm hdct sn sub ab col dd k0 k1 k2 k3 k5 newId)) (hcB : (Value.ref C :: bm).contains (.type "BaseException") = true) (hh : A.handled = none)
    (h : wpAny (model prog w) A (eval x env) (fun v s₁ => ∃ e t dx, v = .ref e ∧ (∀ b o, g.get? b = some o → s₁.heap.get? b = some o) ∧ s₁.heap.get? e = some (excObj C t dx) ∧ E (.ref e) s₁) E s) :
    wpAny (model prog w) A (exec (.Raise (some x) none pos) env) Q E s :=
  raise_X hcB hh (wpAny_mono h (fun _ _ ⟨e, t, dx, a, b, c, d⟩ => ⟨e, t, dx, a, b _ _ hC, c, d⟩) fun _ _ e => e)
end
theorem raised_less {base G h : Heap} {l : List Env} {e t : Addr} {cls : Value} {vs : List Value} {news news' : Led} (R : RaisedS base G l e cls t vs news h) (hs : ∀ q ∈ news', q ∈ news) : RaisedS base G l e cls t vs news' h := by
  obtain ⟨⟨B, a, g, b, c⟩, d⟩ := R
  exact ⟨⟨B, a, g, fun q hq => b q (hs q hq), c⟩, d⟩
end
section
open PySem PySem.W PyProof.Rows PySem.Calls PyProof.Rows.LCg
section
variable {w : World} {A : Around} {E : Value → Shared → Prop} {s : Shared} {h₀ : Heap} {L l : Addr} {vs : List Value} {k : Nat} {news : Led} {ns : List Int}
theorem len_vals {n : Nat} {Q : Value → Shared → Prop} (N : News h₀ L s.heap news) (hm : (l, listOf vs.toArray k) ∈ news) (hv : vs.length = n) (hl : n ≤ 1000)
    (h : ∀ t tk, Q (.int (n : Nat) t) { s with toks := tk }) : wpAny (model PR w) A (call (.builtin "len") [.ref l]) Q E s :=
  len_list (my_isList N hm) (by simp only [List.size_toArray]; omega) (by rw [show vs.toArray.size = n from by simp [hv]]; exact h _ _)
theorem ints_kf {vs : List Value} {ns : List Int} (h : IntsAre vs ns) : kf_ints vs = true := by
  induction h with
  | nil => rfl
  | cons _ _ _ ih => exact ih
theorem ints_at {x : Int} : ∀ {vs : List Value} {ns : List Int}, IntsAre vs ns → ∀ {j : Nat} (hj : j < ns.length), ns[j] = x → (∀ i (hi : i < ns.length), i < j → ns[i] ≠ x) → kf_at x vs = some j
  | _, _, .nil, j, hj, _, _ => absurd hj (Nat.not_lt_zero j)
  | _, _, .cons n t h, 0, _, e, _ => by
    have e' : n = x := e
    subst e'
    simp [kf_at, isInt]
  | _, _, .cons n t h, j + 1, hj, e, hno => by
    have h0 : n ≠ x := hno 0 (Nat.zero_lt_succ _) (Nat.zero_lt_succ _)
    have := ints_at h (Nat.lt_of_succ_lt_succ hj) e fun i hi hlt => hno (i + 1) (Nat.succ_lt_succ hi) (Nat.succ_lt_succ hlt)
    have hb : (n == x) = false := by simp [h0]
    simp [kf_at, isInt, hb, this]
theorem my_index {x : Int} {t : Tok} {j : Nat} {Q : Value → Shared → Prop} (N : News h₀ L s.heap news) (hm : (l, listOf vs.toArray k) ∈ news) (hi : IntsAre vs ns) (hsz : ns.length ≤ 1000)
    (hj : ∃ (hj : j < ns.length), ns[j] = x ∧ ∀ i (hi : i < ns.length), i < j → ns[i] ≠ x)
    (h : ∀ t' tk', Q (.int (j : Nat) t') { s with toks := tk' }) : wpAny (model PR w) A (call (.builtin "list.index") [.ref l, .int x t]) Q E s := by
  obtain ⟨hj, e, hno⟩ := hj
  exact kf_index (its := vs.toArray) N hm (by simpa using ints_kf hi) (by simpa using ints_at hi hj e hno) rfl (by have := hi.length; simp only [sizeLine_eq]; simp; omega) (h _ _)
theorem ints_nil_eq {a b : Addr} {xs : List Value} {ka kb : Nat} {Q : Value → Shared → Prop} (N : News h₀ L s.heap news) (ma : (a, listOf xs.toArray ka) ∈ news) (mb : (b, listOf #[] kb) ∈ news) (ha : IntsAre xs ns) (hu : A.units + 64 < cLine) (h : Q (.bool (decide (ns = []))) s) :
    wpAny (model PR w) A (compareOp .Eq (.ref a) (.ref b)) Q E s :=
  ke_eq_ints (ys := []) (my_isList N ma) (my_isList N mb) ha .nil hu h
end
end
section
open PySem PySem.W PyProof.Rows PySem.Calls PyProof.Rows.LCg
section
variable {w : World} {A : Around} {E : Value → Shared → Prop} {s : Shared} {h₀ : Heap} {env : Env} {x : Str} {body : List Stmt} {Q : Flow → Shared → Prop} {r : Addr} {a₀ b₀ : Int} {t₀ u₀ v₀ : Tok} {m₀ : Str → Option Value} {news : Led}
/-- a turn's end: the ledger is what it was -/
def QuietEnd {σ : Type} (h₀ : Heap) (L : Addr) (x : Str) (ps : σ → List (Str × Value)) (stored : List Str) (m₀ : Str → Option Value) (P : σ → Prop) (nw : Led) (s₁ : Shared) (f : Flow) (s₂ : Shared) : Prop :=
  (f = .next ∨ f = .cont) ∧ ∃ h' tk' m' c, s₂ = { s₁ with heap := h', toks := tk' } ∧ Fr h₀ L h' m' ∧ News h₀ L h' nw ∧ (∀ p ∈ ps c, m' p.1 = some p.2) ∧ (∀ z, z ≠ x → (∀ p ∈ ps c, z ≠ p.1) → stored.contains z = false → m' z = m₀ z) ∧ P c
theorem quiet_range {σ : Type} {L : Addr} {n : Nat} (ps : σ → List (Str × Value)) (stored : List Str) (P : Nat → σ → Prop) (c₀ : σ) (hL : env.locals = L) (hh : A.handled = none) (hr : IsRange s.heap r a₀ b₀ 1 t₀ u₀ v₀) (hsmall : Builtin.Range.small a₀ b₀ 1 = true) (hsz : Builtin.Range.rangeSize a₀ b₀ 1 = (n : Int))
    (F : Fr h₀ L s.heap m₀) (N : News h₀ L s.heap news) (hk : ∀ p ∈ ps c₀, m₀ p.1 = some p.2) (hp : P 0 c₀)
    (turn : ∀ c i t (u : Str → Option Value) h tk (nw : Led), i < n → P i c → (∀ q ∈ news, q ∈ nw) → Fr h₀ L h (fun y => if y = x then some (.int (a₀ + (i : Nat)) t) else kstB (fun z => if stored.contains z then u z else m₀ z) (ps c) y) → News h₀ L h nw →
      wpAny (model PR w) A (execs body env) (QuietEnd h₀ L x ps stored m₀ (P (i + 1)) nw { s with heap := h, toks := tk }) E { s with heap := h, toks := tk })
    (done : ∀ c (u : Str → Option Value) h tk, P n c → Fr h₀ L h (fun y => if y = x then u y else kstB (fun z => if stored.contains z then u z else m₀ z) (ps c) y) → News h₀ L h news → Q .next { s with heap := h, toks := tk }) :
    wpAny (model PR w) A (pyIter (.ref r)) (fun it s₂ => LoopAtV PR w A h₀ env x body Q E it s₂) E s := by
  subst hL
  refine kd_range (n := n) (fun _ => []) news ps (fun _ _ => True) stored (fun pre c => P pre.length c) (news.map (·.1)) c₀ hh hr hsmall hsz F N (fun q hq => by simpa using hq) (fun _ => rfl) trivial hk hp ?_ ?_
  · rintro c tl pre k t u h tk own rfl hlen sep off - hP F₁ N₁
    refine wpAny_mono (turn c pre.length t u h tk (news ++ (tl ++ own)) hlen hP (fun q hq => List.mem_append_left _ hq) F₁ N₁) (fun f s₂ hf => ?_) fun _ _ e => e
    obtain ⟨hf, h', tk', m', c', rfl, F', N', hk', hr', hP'⟩ := hf
    have e : InvEndG h₀ env.locals (KdS (fun _ => []) news ps (fun _ _ => True) x stored m₀ (fun pre c => P pre.length c) (news.map (·.1)) (pre ++ [a₀ + (pre.length : Int)])) own { s with heap := h, toks := tk } { s with heap := h', toks := tk' } :=
      kd_end (c := c') [] sep F' N' (fun q hq => by
        rcases List.mem_append.mp hq with hq | hq
        · cases hq
        · rcases List.mem_append.mp hq with hq | hq
          · exact List.mem_append_left _ hq
          · exact List.mem_append_right _ (List.mem_append_left _ hq)) (fun q hq => List.mem_append_right _ (List.mem_append_right _ hq)) rfl (fun _ hq => nomatch hq) (fun _ hq => nomatch hq) hk' hr' trivial (by rw [List.length_append]; exact hP')
    rcases hf with rfl | rfl
    · exact e
    · exact e
  · rintro c tl u h tk - - hP F₁ N₁
    have e := rangeKs_length a₀ n
    rw [e] at hP
    exact done c u h tk hP F₁ (fun q hq => N₁ q (List.mem_append_right _ (List.mem_append_left _ hq)))
end
end
section
open PySem PySem.W PyProof.Rows PySem.Calls PyProof.Rows.LCg
section
variable {w : World} {A : Around} {E : Value → Shared → Prop} {s : Shared} {h₀ : Heap} {L D : Addr} {m : Str → Option Value} {news kn : Led} {vs : List Value} {n : Nat} {g : Obj → Led} {Q : Value → Shared → Prop}
theorem sort_nil (F : Fr h₀ L s.heap m) (N : News h₀ L s.heap news) (U : UpdF D (listOf #[] n) news g)
    (hret : ∀ c h', Fr h₀ L h' m → News h₀ L h' (g (listOf #[] c)) → Q .none { s with heap := h' }) :
    wpAny (model PR w) A (call (.builtin "list.sort") [.ref D]) Q E s := by
  obtain ⟨pre, post, rfl, hg, x1, x2⟩ := U.split
  have z := N (D, listOf #[] n) (List.mem_append_right _ (.head _))
  refine wpAny_call_entry slot_list_sort ⟨_, z.1, rfl⟩ entry_list_sort ?_ (args_list_sort _)
  rw [list_sort_plain]
  have hlt : D < s.heap.objs.size := Heap.lt_size z.1
  obtain ⟨e1, ho1⟩ : ∃ e1, (s.heap.update D (Obj.mapSeq fun _ => (#[] : Array Value))).get? D = some (seqObj "list" #[] e1) := ⟨_, get?_update_seq z.1 fun _ => #[]⟩
  refine wpAny_bind (listItems_at z.1 rfl (wpAny_bind (listUpdate_at z.1 rfl ?_ (by exact Nat.zero_le _) (Nat.zero_le _))))
  refine wpAny_bind (seqEpoch_at ho1 rfl ?_)
  refine wpAny_bind (wpAny_newTuple ?_ (by exact Nat.zero_le _))
  refine wpAny_bind (wpAny_newList ?_ (Nat.zero_le _))
  refine wpAny_holding ?_
  have hn2 : (#[] : Array Value).size < 2 := by decide
  rw [if_pos hn2, if_pos hn2]
  refine wpAny_bind (wpAny_pure ?_)
  dsimp only
  rw [StateT.run_pure]
  refine wpAny_bind (wpAny_pure ?_)
  dsimp only
  have s1 := Heap.SameBut.update s.heap D (Obj.mapSeq fun _ => (#[] : Array Value))
  generalize hH : s.heap.update D (Obj.mapSeq fun _ => (#[] : Array Value)) = H at s1 ho1 ⊢
  have hsz : H.objs.size = s.heap.objs.size := by rw [← hH, Heap.size_update]
  have up : ∀ {b : Addr} {o : Obj}, H.get? b = some o → ((H.push (seqObj "tuple" #[] 0)).push (seqObj "list" #[] 0)).get? b = some o := fun e => Heap.get?_push_of_some _ (Heap.get?_push_of_some _ e)
  generalize hH2 : (H.push (seqObj "tuple" #[] 0)).push (seqObj "list" #[] 0) = H2 at up
  have ho2 := up ho1
  have eo : Array.map (fun x : Value × Value => x.snd) (arrOf (SortSt.mk' general' (#[].zip #[]) #[] 7 none)) = #[] := by show Array.map (fun x : Value × Value => x.snd) (#[].zip #[]) = #[]; simp
  rw [eo]
  refine wpAny_bind (seqEpoch_at ho2 rfl ?_)
  refine wpAny_bind (listUpdate_at ho2 rfl ?_ (Nat.zero_le _) (by exact Nat.zero_le _))
  simp only [bne_self_eq_false, Bool.false_eq_true, if_false]
  have s2 := Heap.SameBut.update H2 D (Obj.mapSeq fun _ => (#[] : Array Value))
  obtain ⟨c2, hc2⟩ : ∃ c2, (H2.update D (Obj.mapSeq fun _ => (#[] : Array Value))).get? D = some (seqObj "list" #[] c2) := ⟨_, get?_update_seq ho2 fun _ => #[]⟩
  have keep : ∀ {b : Addr} {o : Obj}, b ≠ D → s.heap.get? b = some o → (H2.update D (Obj.mapSeq fun _ => (#[] : Array Value))).get? b = some o := fun hb e => s2.extBut _ _ hb (up (s1.extBut _ _ hb e))
  refine wpAny_pure ⟨.none, rfl, hret c2 _ ?_ ?_⟩
  · exact ⟨F.ns.at' fun o e => keep (Ne.symm z.2.1) e, fun b o e => keep (fun q => by rw [q, z.2.2] at e; cases e) (F.keep b o e), F.above⟩
  · rw [hg]
    intro q hq
    rcases List.mem_append.mp hq with hq | hq
    · have y := N q (List.mem_append_left _ hq); exact ⟨keep (x1 q hq) y.1, y.2⟩
    · rcases List.mem_cons.mp hq with rfl | hq
      · exact ⟨hc2, z.2⟩
      · have y := N q (List.mem_append_right _ (.tail _ hq)); exact ⟨keep (x2 q hq) y.1, y.2⟩
theorem sorted_empty {d : Addr} {Q : Value → Shared → Prop} (hh : A.handled = none) (F : Fr h₀ L s.heap m) (N : News h₀ L s.heap news) (lo : (d == sysModules) = false) (hd : (d, ({ cls := .type "dict", data := .dict #[] } : Obj)) ∈ news)
    (hret : ∀ B c h' tk', Fr h₀ L h' m → News h₀ L h' ((B, listOf #[] c) :: news) → (∀ q ∈ news, q.1 < B) → Q (.ref B) { s with heap := h', toks := tk' }) :
    wpAny (model PR w) A (call (.builtin "sorted") [.ref d]) Q E s := by
  have hraw : RawDict s.heap d #[] 0 := ⟨_, (N _ hd).1, (Tab.empty w []).ex, rfl⟩
  refine kdu_sorted (raw_src lo) hh F N hraw (Nat.zero_le _) fun B h' tk vs F' N' l1 hl hv => ?_
  obtain rfl : vs = [] := List.length_eq_zero_iff.mp (by simpa using hl)
  have ne : ∀ q ∈ news, q.1 ≠ B := fun q hq => Nat.ne_of_lt (l1 q hq)
  exact sort_nil F' N' (UpdF.head ne) fun c h'' F'' N'' => hret B c h'' tk F'' N'' l1
end
end
section
open PySem PySem.W PyProof.Rows PySem.Calls
theorem mem_frames {env : Env} {L b : Addr} {outer : List Env} (hf : env.frame = some L) (hm : b ∈ (env :: outer).filterMap (·.frame)) : b = L ∨ b ∈ outer.filterMap (·.frame) := by
  rw [List.filterMap_cons, hf] at hm
  exact List.mem_cons.mp hm
section
variable {M : Model} {A : Around} {E : Value → Shared → Prop} {s' : Shared} {base g g₂ : Heap} {outer : List Env} {L e t : Addr} {m : Str → Option Value} {Q : Unit → Shared → Prop} {news : Led}
/-- an exception passes a frame of any kind -/
theorem leave_onX {env : Env} {cls : Value} {vs : List Value} (hf : env.frame = some L) (K : Below A base outer g) (F : Fr g L g₂ m) (R : RaisedS base g₂ (env :: outer) e cls t vs news s'.heap) (hsm : g₂.UpToSlots s'.heap)
    (hQ : ∀ h', RaisedS base g outer e cls t vs news h' → g.UpToSlots h' → Q () { s' with heap := h' }) :
    wpAny M (A.deeper env) (leaving env (.ref e)) Q E s' := by
  obtain ⟨⟨B, hB, hBG, hl, hfl, hnew⟩, htup⟩ := R
  refine wpAny_leaves_onW (Around.frames_deeper K.stack) hf hfl fun h' x1 x2 => hQ h' ⟨⟨B, hB, fun b o q nm => hBG b o (F.keep b o q) fun hm => ?_, fun q hq => ⟨(hl q hq).1, kts_none F.keep (hl q hq).2.1, (hl q hq).2.2⟩, x1, hnew⟩, htup.of_slots x2⟩ ((Heap.UpToSlots.of_keeps F.keep).trans (hsm.trans x2))
  rcases mem_frames hf hm with z | z
  · rw [z, kts_self F] at q; cases q
  · exact nm z
end
section
variable {prog : Program} {w : World} {A₀ A : Around} {s : Shared} {base h₀ : Heap} {L : Addr} {m : Str → Option Value} {env : Env} {news : Led} {K : Frag} {p : Program} {loose : List Str} {mean : ExcName → Option Value} {mg mb : Str → Option Value}
    {R : Result → Shared → Prop} {name qual : Str} {params : Arguments} {body : List Stmt} {scope : Scope} {dV kV doc pm cdv ct oc : Value} {an od : Option Addr} {osl : Array (Option Value)} {f : Addr} {args : Args} {binds : List (Str × Value)}
/-- a def that catches is entered from the bottom frame, which may be of any kind: that frame's slots may be turned -/
theorem code_defSX (B : Below A₀ base [] h₀) (F : Fr h₀ L s.heap m) (X₀ : K.In h₀) (N : News h₀ L s.heap news) (T : Top p loose mean mg mb h₀) (hA : A.frames = some [env]) (hf : env.frame = some L) (hke : env.scope.kind = .function)
    (ho : K.lookup f = some ⟨oc, od, .func (PySem.W.fnOf name qual params body scope dV kV doc pm an cdv ct), osl⟩) (hcd : codeIn K cdv qual = true) (hroom : A.depth < recursionLimit)
    (hbind : BindsTo s (PySem.W.fnOf name qual params body scope dV kV doc pm an cdv ct) args binds) (hloc : ∀ y ∈ binds, scope.names.lookup y.1 = some .local)
    (h : ∀ g L' h₁, Fr h₀ L g m → Fr g L' h₁ (fun y => binds.reverse.lookup y) → News g L' h₁ news → Below A base [env] g → K.In g → Top p loose mean mg mb g → KtsDicts ([env].filterMap (·.frame)) g →
      wpAny (model prog w) (A.deeper (envOf qual scope L' f cdv)) (execs body (envOf qual scope L' f cdv))
        (fun fl s' => LeaveS0 ([env].filterMap (·.frame)) h₀ L m g R (match fl with | .ret v => v | _ => .none) s')
        (fun e s' => wpAny (model prog w) (A.deeper (envOf qual scope L' f cdv)) (leaving (envOf qual scope L' f cdv) e) (fun _ s'' => R (.error e) s'') (fun e' s'' => R (.error e') s'') s')
        { s with heap := h₁, toks := s.toks + binds.length })
    (hco : scope.isCoroutine = false) (hgen : scope.isGenerator = false) (hk : scope.kind = .function)
    (hcell : ∀ x ∈ scope.names, x.2 ≠ .cell) : codeAny (model prog w) A (.call (.ref f) args) R s := by
  have X := X₀.keeps F.keep
  obtain ⟨FG, BG, st, -⟩ := groundX (R := R) B F N hA hf hke
  refine codeAny_call_def (fd := PySem.W.fnOf name qual params body scope dV kV doc pm an cdv ct) (body := body) (binds := binds) hroom (X _ _ ho) rfl (T.nolimit.keeps F.keep) (codeRec_of X hcd) rfl hbind hcell hloc (fun h₁ hns hk₁ => ?_) hco hgen hk
  obtain ⟨oL, es, ep, hLg, hLd, hLk, hLf⟩ := id FG.ns
  refine wpAny_mono (h _ s.heap.objs.size h₁ FG ⟨hns, fun b o e => hk₁ b o (of_hideAll _ e), Nat.le_of_eq (hideAll_size _ _)⟩
    (fun q hq => ⟨hk₁ _ _ (N q hq).1, Nat.ne_of_lt (Heap.lt_size (N q hq).1), hideAll_none _ (List.mem_map_of_mem hq)⟩) BG (X₀.keeps st) (T.keeps st) (fun b hb => by
      rcases mem_frames hf hb with rfl | z
      · exact ⟨oL, es, ep, hLg, hLd⟩
      · simp at z)) (fun fl s' hl => ?_) fun _ _ y => y
  obtain ⟨g', L', m', news', T', F', N', k⟩ := hl
  have nL₀ : h₀.get? L = none := kts_self F
  obtain ⟨sl, hs⟩ := T'.up hLg
  refine k ⟨⟨_, es, ep, F'.keep _ _ hs, hLd, hLk, hLf⟩, fun b o e => F'.keep b o (T'.other b o (st b o e) fun q => ?_), F.above⟩ fun q hq => ⟨(N' q hq).1, fun z => ?_, ?_⟩
  · rcases mem_frames hf q with z | z
    · rw [z, nL₀] at e; cases e
    · simp at z
  · have := (N' q hq).2.2; rw [z, hs] at this; cases this
  · cases z : h₀.get? q.1 with
    | none => rfl
    | some o =>
      obtain ⟨sl', hs'⟩ := T'.up (st _ _ z)
      have := (N' q hq).2.2
      rw [hs'] at this
      cases this
end
end
section
open PySem PySem.W PyProof.Rows PySem.Calls PyProof.Rows.LCg
section
variable {prog : Program} {w : World} {A : Around} {s₁ : Shared} {h₀ : Heap} {L : Addr} {m : Str → Option Value} {env : Env}
/-- a comprehension over a list of one, its element told -/
theorem comp_one {elt : PySem.Expr} {x : Str} {scope : Scope} {cl : List (Str × Addr)} {Fin : Shared → List Value → Led → Prop} {ax : Addr} {v y : Value} {k : Nat} {news : Led}
    (hh : A.handled = none) (F : Fr h₀ L s₁.heap m) (N : News h₀ L s₁.heap news) (hm : (ax, listOf [v].toArray k) ∈ news)
    (turn : ∀ I oI C oC D m₂ g h tk (E' : Value → Shared → Prop), NsObj oC m₂ → m₂ x = some v → Fr h₀ L h m → News h₀ L h ((I, oI) :: (C, oC) :: (D, lst []) :: news) →
      wpAny (model prog w) A (eval elt (compEnvC scope cl C env)) (fun y' s₂ => Hold (y' = y ∧ Same h₀ L m ((I, oI) :: (C, oC) :: (D, lst []) :: news) { s₁ with heap := h, toks := tk } s₂)) E' { heap := h, gens := ({ s₁ with heap := g } : Shared).gens, drawn := ({ s₁ with heap := g } : Shared).drawn, toks := tk, os := ({ s₁ with heap := g } : Shared).os })
    (fin : ∀ g, Fin { s₁ with heap := g } [y] news) :
    CompSrc prog w A h₀ L m env elt x scope cl Fin (.ref ax) s₁ := by
  refine CompSrc.ledger hh F N hm (by rw [List.size_toArray, sizeLine_eq]; exact Nat.le_of_ble_eq_true rfl) fun g => ?_
  refine rest_inv _ (fun i ys nw => nw = news ∧ ys = List.replicate i y) ?_ ?_ _ 0 [] _ (Nat.zero_add _) ⟨rfl, rfl⟩
  · rintro i ys nw v' I oI C oC D m₂ h tk E' hlt ⟨rfl, rfl⟩ hv hC hx F' N' off ne
    obtain rfl : i = 0 := Nat.lt_one_iff.mp hlt
    obtain rfl : v = v' := by simpa using hv
    refine wpAny_mono (turn I oI C oC D m₂ g h tk E' hC hx F' N') (fun y' s₂ he => ?_) fun _ _ e => e
    obtain ⟨rfl, h', tk', rfl, F'', N''⟩ := he
    exact ⟨h', tk', _, rfl, F'', N'', off, .inr ⟨_, hm, rfl, _, rfl⟩, rfl, rfl⟩
  · rintro ys nw ⟨rfl, rfl⟩
    exact fin g
end
section
variable {w : World} {A : Around} {E : Value → Shared → Prop} {s : Shared} {h₀ : Heap} {L a b al : Addr} {news : Led} {vs : List Value} {ka kb k : Nat} {rows : List Row} {Q : Value → Shared → Prop}
/-- two lists of the same one lot are equal -/
theorem lots_eq (N : News h₀ L s.heap news) (ma : (a, listOf [Value.ref al].toArray ka) ∈ news) (mb : (b, listOf [Value.ref al].toArray kb) ∈ news) (mc : (al, listOf vs.toArray k) ∈ news) (hr : RowsAre news vs rows) (hu : A.units + 64 < cLine) (h : Q (.bool true) s) :
    wpAny (model PR w) A (compareOp .Eq (.ref a) (.ref b)) Q E s := by
  have hD : DatAll news [Value.ref al] [.list (rows.map rowDat)] := .cons (.list mc (rows_dat hr)) .nil
  have hk : ∀ d ∈ [Dat.list (rows.map rowDat)], kqdOk 8 d = true := fun d hd => by
    obtain rfl := List.mem_singleton.mp hd
    simp [rowDat, kqdOk]
  refine kqd_eq N ma rfl rfl hD (fun _ h => h) mb rfl rfl hD (fun _ h => h) hk hk hu ?_
  simpa using h
end
end
section
open PySem PySem.W PyProof.Rows PySem.Calls PyProof.Rows.LCg
section
variable {w : World} {A : Around} {E : Value → Shared → Prop} {s : Shared} {h₀ : Heap} {L a b : Addr} {news : Led} {xs ys : List Value} {ka kb : Nat} {rs qs : List Row} {Q : Value → Shared → Prop}
theorem rows_same_ne (N : News h₀ L s.heap news) (ma : (a, listOf xs.toArray ka) ∈ news) (mb : (b, listOf ys.toArray kb) ∈ news) (ha : RowsAre news xs rs) (hb : RowsAre news ys qs) (hu : A.units + 64 < cLine) (e : rs = qs) (h : Q (.bool false) s) :
    wpAny (model PR w) A (compareOp .NotEq (.ref a) (.ref b)) Q E s :=
  rows_ne N ma mb ha hb hu fun k hk => by
    have : k = false := by cases k with
      | false => rfl
      | true => exact absurd e (hk.mp rfl)
    rw [this]; exact h
theorem rows_same_eq (N : News h₀ L s.heap news) (ma : (a, listOf xs.toArray ka) ∈ news) (mb : (b, listOf ys.toArray kb) ∈ news) (ha : RowsAre news xs rs) (hb : RowsAre news ys qs) (hu : A.units + 64 < cLine) (e : rs = qs) (h : Q (.bool true) s) :
    wpAny (model PR w) A (compareOp .Eq (.ref a) (.ref b)) Q E s :=
  rows_eq N ma mb ha hb hu fun k hk => by rw [hk.mpr e]; exact h
theorem rows_nil_eq (N : News h₀ L s.heap news) (ma : (a, listOf xs.toArray ka) ∈ news) (mb : (b, listOf #[] kb) ∈ news) (ha : RowsAre news xs rs) (hu : A.units + 64 < cLine) (e : rs ≠ []) (h : Q (.bool false) s) :
    wpAny (model PR w) A (compareOp .Eq (.ref a) (.ref b)) Q E s :=
  rows_eq (ys := []) (qs := []) N ma mb ha .nil hu fun k hk => by
    have : k = false := by cases k with
      | false => rfl
      | true => exact absurd (hk.mp rfl) e
    rw [this]; exact h
theorem rows_nil_ne (N : News h₀ L s.heap news) (ma : (a, listOf xs.toArray ka) ∈ news) (mb : (b, listOf #[] kb) ∈ news) (ha : RowsAre news xs rs) (hu : A.units + 64 < cLine) (e : rs ≠ []) (h : Q (.bool true) s) :
    wpAny (model PR w) A (compareOp .NotEq (.ref a) (.ref b)) Q E s :=
  rows_ne (ys := []) (qs := []) N ma mb ha .nil hu fun k hk => by rw [hk.mpr e]; exact h
end
/-- an entry that is one of three, told by its place -/
def Pick (B0 B1 B2 Bp : Addr) (o0 o1 o2 o : Obj) : Prop := ∀ l : Led, (B0, o0) ∈ l → (B1, o1) ∈ l → (B2, o2) ∈ l → (Bp, o) ∈ l
theorem Pick.mem {B0 B1 B2 Bp : Addr} {o0 o1 o2 o : Obj} (p : Pick B0 B1 B2 Bp o0 o1 o2 o) {l : Led} (h0 : (B0, o0) ∈ l) (h1 : (B1, o1) ∈ l) (h2 : (B2, o2) ∈ l) : (Bp, o) ∈ l := p l h0 h1 h2
theorem pick_of {B0 B1 B2 : Addr} {vs0 vs1 vs2 : List Value} {c0 c1 c2 : Nat} (f : Nat → List Int) (i0 : IntsAre vs0 (f 0)) (i1 : IntsAre vs1 (f 1)) (i2 : IntsAre vs2 (f 2)) (j : Nat) (hj : j < 3) :
    ∃ Bp vp cp, ([B0, B1, B2] : List Addr)[j]? = some Bp ∧ Pick B0 B1 B2 Bp (listOf vs0.toArray c0) (listOf vs1.toArray c1) (listOf vs2.toArray c2) (listOf vp.toArray cp) ∧ IntsAre vp (f j) := by
  match j, hj with
  | 0, _ => exact ⟨B0, vs0, c0, rfl, fun _ h _ _ => h, i0⟩
  | 1, _ => exact ⟨B1, vs1, c1, rfl, fun _ _ h _ => h, i1⟩
  | 2, _ => exact ⟨B2, vs2, c2, rfl, fun _ _ _ h => h, i2⟩
end
section
open PySem PySem.W PyProof.Rows PySem.Calls PyProof.Rows.LCg
def tk3 (j : Nat) (a b c : Tok) : Tok := match j with | 0 => a | 1 => b | _ => c
section
variable {w : World} {A : Around} {E : Value → Shared → Prop} {s : Shared} {h₀ : Heap} {L l : Addr} {news : Led} {value slice : PySem.Expr} {j : Nat} {u : Tok} {Q : Value → Shared → Prop}
theorem my_l3 (f : Nat → Int) {c0 c1 c2 : Tok} (N : News h₀ L s.heap news) (hm : (l, int3 (f 0) (f 1) (f 2) c0 c1 c2) ∈ news) (hj : j < 3) (h : Q (.int (f j) (tk3 j c0 c1 c2)) s)
    (hs : subscripted slice false (.ref l) (.int (j : Int) u) = operate [.ref l, .int (j : Int) u] (getItem (.ref l) (.int (j : Int) u))) (hg : ∀ r, letTemporaryGo value (.ref l) r = pure ()) :
    wpAny (model PR w) A (subscriptTail value slice (.ref l) (.int (j : Int) u)) Q E s :=
  my_item (vs := [.int (f 0) c0, .int (f 1) c1, .int (f 2) c2]) N hm (by omega) (by omega) (by
    match j, hj with
    | 0, _ => rfl
    | 1, _ => rfl
    | 2, _ => rfl) h hs hg
theorem my_low {rows : List Row} {c0 c1 c2 : Tok} (N : News h₀ L s.heap news) (hm : (l, int3 (lowOf 0 rows) (lowOf 1 rows) (lowOf 2 rows) c0 c1 c2) ∈ news) (hj : j < 3) (h : Q (.int (lowOf j rows) (tk3 j c0 c1 c2)) s)
    (hs : subscripted slice false (.ref l) (.int (j : Int) u) = operate [.ref l, .int (j : Int) u] (getItem (.ref l) (.int (j : Int) u)) := by with_unfolding_all rfl) (hg : ∀ r, letTemporaryGo value (.ref l) r = pure () := by intro _; with_unfolding_all rfl) :
    wpAny (model PR w) A (subscriptTail value slice (.ref l) (.int (j : Int) u)) Q E s := my_l3 (fun i => lowOf i rows) N hm hj h hs hg
theorem my_high {rows : List Row} {c0 c1 c2 : Tok} (N : News h₀ L s.heap news) (hm : (l, int3 (highOf 0 rows) (highOf 1 rows) (highOf 2 rows) c0 c1 c2) ∈ news) (hj : j < 3) (h : Q (.int (highOf j rows) (tk3 j c0 c1 c2)) s)
    (hs : subscripted slice false (.ref l) (.int (j : Int) u) = operate [.ref l, .int (j : Int) u] (getItem (.ref l) (.int (j : Int) u)) := by with_unfolding_all rfl) (hg : ∀ r, letTemporaryGo value (.ref l) r = pure () := by intro _; with_unfolding_all rfl) :
    wpAny (model PR w) A (subscriptTail value slice (.ref l) (.int (j : Int) u)) Q E s := my_l3 (fun i => highOf i rows) N hm hj h hs hg
theorem my_col {c : Col} {c0 c1 c2 : Tok} {n : Nat} (N : News h₀ L s.heap news) (hm : (l, tupObj #[.int c.1 c0, .int c.2.1 c1, .int c.2.2 c2] n) ∈ news) (hj : j < 3) (h : Q (.int (prt j c) (tk3 j c0 c1 c2)) s)
    (hs : subscripted slice false (.ref l) (.int (j : Int) u) = operate [.ref l, .int (j : Int) u] (getItem (.ref l) (.int (j : Int) u)) := by with_unfolding_all rfl) :
    wpAny (model PR w) A (subscriptTail value slice (.ref l) (.int (j : Int) u)) Q E s :=
  item_tupleT (j := j) (l := [.int c.1 c0, .int c.2.1 c1, .int c.2.2 c2]) (News.isTup N hm) (by omega) (by omega) (by
    match j, hj with
    | 0, _ => rfl
    | 1, _ => rfl
    | 2, _ => rfl) (by
    match j, hj with
    | 0, _ => rfl
    | 1, _ => rfl
    | 2, _ => rfl) h hs
/-- a list of three refs, by a place that is told by a name -/
theorem my_r3 {a0 a1 a2 b : Addr} (N : News h₀ L s.heap news) (hm : (l, lst [.ref a0, .ref a1, .ref a2]) ∈ news) (hj : j < 3) (hb : ([a0, a1, a2] : List Addr)[j]? = some b) (h : Q (.ref b) s)
    (hs : subscripted slice false (.ref l) (.int (j : Int) u) = operate [.ref l, .int (j : Int) u] (getItem (.ref l) (.int (j : Int) u)) := by with_unfolding_all rfl) (hg : ∀ r, letTemporaryGo value (.ref l) r = pure () := by intro _; with_unfolding_all rfl) :
    wpAny (model PR w) A (subscriptTail value slice (.ref l) (.int (j : Int) u)) Q E s :=
  my_item (vs := [.ref a0, .ref a1, .ref a2]) N hm (by omega) (by omega) (by
    match j, hj, hb with
    | 0, _, rfl => rfl
    | 1, _, rfl => rfl
    | 2, _, rfl => rfl) h hs hg
end
end
section
open PySem PySem.W PyProof.Rows PySem.Calls PyProof.Rows.LCg
def canCut (lots : List (List Row)) (k : Nat) : Bool := decide (1 < (lots.getD k []).length)
def ableOf (lots : List (List Row)) : List Nat := (List.range lots.length).filter (canCut lots)
def wtOf (lots : List (List Row)) (many : Int) (k : Nat) : Int := worthOf lots many (lots.getD k [])
theorem can_spread {lots : List (List Row)} (hG : ∀ r ∈ lots, GoodLot r) {k : Nat} (hk : k < lots.length) : (0 < spreadOf (lots.getD k []) ↔ canCut lots k = true) ∧ (∀ many, canCut lots k = true → 0 < wtOf lots many k) := by
  have g : lots.getD k [] = lots[k] := by simp [List.getD, hk]
  have G := hG _ (List.getElem_mem hk)
  unfold canCut wtOf worthOf
  rw [g]
  have hp : 0 < lots[k].length := List.length_pos_iff.mpr G.ne
  have hm := many_ok G
  by_cases h : 1 < lots[k].length
  · have := spread_pos G h
    refine ⟨by simp [h, this], fun many _ => ?_⟩
    split <;> omega
  · have := spread_one (rows := lots[k]) (by omega)
    exact ⟨by simp [h, this], fun many hc => absurd (of_decide_eq_true hc) h⟩
def NextOk (lots : List (List Row)) (many : Int) (i : Nat) (r : Option Nat × Int) : Prop :=
  (r = (none, 0) ∧ ∀ k, k < i → canCut lots k = false) ∨ (∃ b, r = (some b, wtOf lots many b) ∧ b < i ∧ canCut lots b = true ∧ (∀ k, k < i → canCut lots k = true → wtOf lots many k ≤ wtOf lots many b) ∧ (∀ k, k < b → canCut lots k = true → wtOf lots many k < wtOf lots many b))
theorem nextN_ok {lots : List (List Row)} (hG : ∀ r ∈ lots, GoodLot r) (many : Int) : ∀ i, i ≤ lots.length → NextOk lots many i (nextN lots many i)
  | 0, _ => .inl ⟨rfl, fun _ h => absurd h (Nat.not_lt_zero _)⟩
  | i + 1, hi => by
    have ih := nextN_ok hG many i (by omega)
    obtain ⟨c1, c2⟩ := can_spread hG (k := i) (by omega)
    rw [nextN]
    by_cases h0 : 0 < spreadOf (lots.getD i [])
    · have hc := c1.mp h0
      have hw := c2 many hc
      rw [if_pos h0]
      split
      · rename_i hlt
        have hlt' : (nextN lots many i).2 < wtOf lots many i := hlt
        refine .inr ⟨i, rfl, by omega, hc, fun k hk hck => ?_, fun k hk hck => ?_⟩
        · rcases Nat.lt_or_ge k i with h | h
          · rcases ih with ⟨e, hn⟩ | ⟨b, e, hb, hcb, hle, hfi⟩
            · rw [hn k h] at hck; cases hck
            · have := hle k h hck
              rw [e] at hlt'
              have hlt'' : wtOf lots many b < wtOf lots many i := hlt'
              omega
          · rw [show k = i by omega]; exact Int.le_refl _
        · rcases ih with ⟨e, hn⟩ | ⟨b, e, hb, hcb, hle, hfi⟩
          · rw [hn k hk] at hck; cases hck
          · have := hle k hk hck
            rw [e] at hlt'
            have hlt'' : wtOf lots many b < wtOf lots many i := hlt'
            omega
      · rename_i hlt
        have hlt' : ¬ (nextN lots many i).2 < wtOf lots many i := hlt
        rcases ih with ⟨e, hn⟩ | ⟨b, e, hb, hcb, hle, hfi⟩
        · rw [e] at hlt'
          exact absurd hw hlt'
        · refine .inr ⟨b, e, by omega, hcb, fun k hk hck => ?_, hfi⟩
          rcases Nat.lt_or_ge k i with h | h
          · exact hle k h hck
          · rw [show k = i by omega]
            rw [e] at hlt'
            exact Int.not_lt.mp hlt'
    · rw [if_neg h0]
      have hc : canCut lots i = false := by
        cases h : canCut lots i with
        | false => rfl
        | true => exact absurd (c1.mpr h) h0
      rcases ih with ⟨e, hn⟩ | ⟨b, e, hb, hcb, hle, hfi⟩
      · refine .inl ⟨e, fun k hk => ?_⟩
        rcases Nat.lt_or_ge k i with h | h
        · exact hn k h
        · rw [show k = i by omega]; exact hc
      · refine .inr ⟨b, e, by omega, hcb, fun k hk hck => ?_, hfi⟩
        rcases Nat.lt_or_ge k i with h | h
        · exact hle k h hck
        · rw [show k = i by omega, hc] at hck; cases hck
theorem next_none {lots : List (List Row)} (hG : ∀ r ∈ lots, GoodLot r) (many : Int) (h : ableOf lots = []) : nextOf lots many = none := by
  have := nextN_ok hG many _ (Nat.le_refl _)
  rcases this with ⟨e, -⟩ | ⟨b, -, hb, hcb, -⟩
  · exact congrArg Prod.fst e
  · have : b ∈ ableOf lots := List.mem_filter.mpr ⟨List.mem_range.mpr hb, hcb⟩
    rw [h] at this
    cases this
theorem next_some {lots : List (List Row)} (hG : ∀ r ∈ lots, GoodLot r) (many : Int) {ws : List Int} (hws : ws = (ableOf lots).map (wtOf lots many)) {j : Nat} (hj : ∃ (hj : j < ws.length), ws[j] = mxI ws ∧ ∀ i (hi : i < ws.length), i < j → ws[i] ≠ mxI ws) :
    ∃ hj : j < (ableOf lots).length, nextOf lots many = some (ableOf lots)[j] := by
  subst hws
  obtain ⟨hj, he, hno⟩ := hj
  have hj' : j < (ableOf lots).length := by simpa using hj
  refine ⟨hj', ?_⟩
  have hne : (ableOf lots).map (wtOf lots many) ≠ [] := fun e => by rw [e] at hj; exact absurd hj (Nat.not_lt_zero _)
  obtain ⟨-, hmax⟩ := mxI_mem hne
  have hso : (ableOf lots).Pairwise (· < ·) := List.pairwise_lt_range.sublist List.filter_sublist
  have hin : (ableOf lots)[j] ∈ ableOf lots := List.getElem_mem hj'
  obtain ⟨hr, hcj⟩ := List.mem_filter.mp hin
  have hrj := List.mem_range.mp hr
  rcases nextN_ok hG many _ (Nat.le_refl _) with ⟨e, hn⟩ | ⟨b, e, hb, hcb, hle, hfi⟩
  · rw [hn _ hrj] at hcj; cases hcj
  · have hbm : b ∈ ableOf lots := List.mem_filter.mpr ⟨List.mem_range.mpr hb, hcb⟩
    obtain ⟨jb, hjb, ejb⟩ := List.getElem_of_mem hbm
    rw [List.getElem_map] at he
    have h1 : wtOf lots many b ≤ mxI ((ableOf lots).map (wtOf lots many)) := hmax _ (List.mem_map.mpr ⟨b, hbm, rfl⟩)
    have h2 := hle _ hrj hcj
    have hbx : wtOf lots many b = mxI ((ableOf lots).map (wtOf lots many)) := by omega
    show (nextN lots many lots.length).1 = _
    rw [e]
    show some b = _
    rcases Nat.lt_trichotomy j jb with h | h | h
    · have := List.pairwise_iff_getElem.mp hso j jb hj' hjb h
      rw [ejb] at this
      have := hfi _ this hcj
      omega
    · subst h; rw [ejb]
    · exact absurd (by rw [List.getElem_map, ejb]; exact hbx) (hno jb (by simpa using hjb) h)
def argN (ws : List Int) : Nat := ws.findIdx fun n => n == mxI ws
theorem argN_ok {ws : List Int} (h : ws ≠ []) : ∃ (hj : argN ws < ws.length), ws[argN ws] = mxI ws ∧ ∀ i (hi : i < ws.length), i < argN ws → ws[i] ≠ mxI ws := by
  obtain ⟨hm, -⟩ := mxI_mem h
  have hl : argN ws < ws.length := List.findIdx_lt_length.mpr ⟨_, hm, by simp⟩
  refine ⟨hl, ?_, fun i hi hlt => ?_⟩
  · have := List.findIdx_getElem (w := hl)
    exact eq_of_beq this
  · have := List.not_of_lt_findIdx (p := fun n => n == mxI ws) hlt
    simpa using this
def wtI (lots : List (List Row)) (many n : Int) : Int := wtOf lots many n.toNat
theorem wtI_map (lots : List (List Row)) (many : Int) : ((ableOf lots).map (fun i : Nat => (i : Int))).map (wtI lots many) = (ableOf lots).map (wtOf lots many) := by
  rw [List.map_map]; rfl
theorem able_mem {lots : List (List Row)} {n : Int} (h : n ∈ (ableOf lots).map (fun i : Nat => (i : Int))) : ∃ i, n = (i : Nat) ∧ i < lots.length := by
  obtain ⟨i, hi, rfl⟩ := List.mem_map.mp h
  exact ⟨i, rfl, List.mem_range.mp (List.mem_filter.mp hi).1⟩
theorem able_len (lots : List (List Row)) : ((ableOf lots).map (fun i : Nat => (i : Int))).length ≤ lots.length := by
  rw [List.length_map]
  exact Nat.le_trans (List.length_filter_le _ _) (by rw [List.length_range]; exact Nat.le_refl _)
end
section
open PySem PySem.W PyProof.Rows PySem.Calls PyProof.Rows.LCg
section
variable {prog : Program} {w : World} {A : Around} {E : Value → Shared → Prop} {s : Shared} {h₀ : Heap} {L : Addr} {m : Str → Option Value} {env : Env}
def PairSrcIf (prog : Program) (w : World) (A : Around) (h₀ : Heap) (L : Addr) (m : Str → Option Value) (env : Env) (elt ct : PySem.Expr) (a b : Str) (scope : Scope) (cl : List (Str × Addr)) (Fin : Shared → List Value → Led → Prop) (xv : Value) (s₂ : Shared) : Prop :=
  ∃ (I : Addr) (fp wr : List Addr) (n : Nat) (Pt : Nat → Array Value → Prop) (St : Nat → Heap → Prop) (Mid : Nat → Addr → Heap → Prop) (R : Nat → Value → Value → Prop) (f : Nat → Int) (p : Nat → Bool) (news : Led),
    xv = .ref I ∧ WalksT prog w A I fp wr n Pt St Mid ∧ A.handled = none ∧ n ≤ sizeLine ∧ (∀ i vals, Pt i vals → ∃ x y, vals = #[x, y] ∧ R i x y) ∧ St 0 s₂.heap ∧ (∀ b ∈ fp, b < s₂.heap.objs.size) ∧ Fr h₀ L s₂.heap m ∧ News h₀ L s₂.heap news ∧
    (∀ b ∈ wr, h₀.get? b = none ∧ b ≠ L) ∧ (∀ p ∈ news, p.1 ∉ wr) ∧
    (∀ i x y C oC D ys m₂ h tk (E' : Value → Shared → Prop), i < n → R i x y → NsObj oC m₂ → m₂ a = some x → m₂ b = some y → Fr h₀ L h m → News h₀ L h ((C, oC) :: (D, lst ys) :: news) →
      wpAny (model prog w) A (isTrue ct (compEnvC scope cl C env) (eval ct (compEnvC scope cl C env))) (QuietBool { s₂ with heap := h, toks := tk } (p i)) E' { s₂ with heap := h, toks := tk }) ∧
    (∀ i x y C oC D ys m₂ h tk (E' : Value → Shared → Prop), i < n → R i x y → NsObj oC m₂ → m₂ a = some x → m₂ b = some y → Fr h₀ L h m → News h₀ L h ((C, oC) :: (D, lst ys) :: news) →
      wpAny (model prog w) A (eval elt (compEnvC scope cl C env)) (QuietInt { s₂ with heap := h, toks := tk } (f i)) E' { s₂ with heap := h, toks := tk }) ∧
    ∀ ys, IntsAre ys (((List.range n).filter p).map f) → Fin s₂ ys news
theorem Assign_ListComp_pairs_if {elt iter ct : PySem.Expr} {a b y : Str} {pa pb tp py : Pos} {kk : Nat} {scope : Scope} {cl : List (Str × Addr)} {pos spos : Pos} {Q : Flow → Shared → Prop} (_F₀ : Fr h₀ L s.heap m) (hLe : env.locals = L)
    (hsw : swapsWith (.ListComp elt [⟨.Tuple [.Name a pa, .Name b pb] kk tp, iter, [ct], 0⟩] scope pos) (some (.Name y py)) spos.line env = pure true)
    (hclos : closureFor scope env = pure cl) (hcell : ∀ y ∈ scope.names, y.2 ≠ .cell) (hkind : scope.kind = .function)
    (hnames : ∀ y ∈ scope.names, y.2 = .local → scope.names.lookup y.1 = some .local) (hxa : scope.names.lookup a = some .local) (hxb : scope.names.lookup b = some .local) (hab : ¬ a = b)
    (hy : env.kindOf y = some .local) (hp : (env.scope.kind == .class || (env.scope.kind == .module && env.locals != env.globals)) = false)
    (h : wpAny (model prog w) A (eval iter env) (PairSrcIf prog w A h₀ L m env elt ct a b scope cl (fun s₂ => FinA h₀ L m s₂ y Q)) E s)
    (hs : ∀ x, foldedSetIterable iter env x = pure x := by intro _; rfl) :
    wpAny (model prog w) A (exec (.Assign [.Name y py] (.ListComp elt [⟨.Tuple [.Name a pa, .Name b pb] kk tp, iter, [ct], 0⟩] scope pos) spos) env) Q E s := by
  subst hLe
  rw [exec_Assign_Name_used _ _ _ _ hsw]
  refine wpAny_bind (wpAny_standAt (wpAny_bind ?_))
  show wpAny _ A (do let _ ← comprehension (.ListComp elt [⟨.Tuple [.Name a pa, .Name b pb] kk tp, iter, [ct], 0⟩] scope pos) scope env _ (newList []) false (eval iter env) (some (assign (.Name y py) env))) _ _ s
  refine wpAny_bind (wpAny_mono (wpAny_comprehension_free (use := some (assign (.Name y py) env)) (Q := fun _ s' => Q .next s') rfl hs hclos hkind hnames
    (wpAny_mono h (fun xv s₁ h₁ => ?_) fun _ _ e => e)) (fun _ s' hq => wpAny_pure (wpAny_pure hq)) fun _ _ e => e)
  obtain ⟨I, fp, wr, n, Pt, St, Mid, R, f, p, news, rfl, W, hh, hsz, hP, hst, hfp, F, N, hwr, off, test, turn, fin⟩ := h₁
  refine W.self 0 _ _ _ hst ?_
  refine pair_block_if f p W hh hsz hP hcell hkind hxa hxb hab hst hfp F N hwr off test turn ?_
  intro D C h tk m' ys F' N' o1 hn hC₀ hD₀ hCL hDL hCD offC hI
  show wpAny _ A (assign (.Name y py) env (.ref D)) _ _ _
  refine wpAny_assign_Name (wpAny_storeName_local hy F'.ns (fun h₂ hn₂ hs₂ => ?_) hp)
  have hL₀ : h₀.get? env.locals = none := Heap.get?_none_of_le F'.above
  have F₂ : Fr h₀ env.locals h₂ (fun z => if z = y then some (.ref D) else m z) := ⟨hn₂, fun b o e => hs₂.extBut b o (fun q => by rw [q, hL₀] at e; cases e) (F'.keep b o e), F'.above⟩
  refine ⟨m', hn.sameBut hs₂ hCL, fun h'' hs'' => fin ys hI D h'' _ (F₂.change hs'' hCL hC₀) (fun p hp => ?_) o1⟩
  have z : h₂.get? p.1 = some p.2 := hs₂.extBut _ _ (N' p hp).2.1 (N' p hp).1
  refine ⟨hs''.extBut _ _ ?_ z, (N' p hp).2⟩
  rcases List.mem_cons.mp hp with rfl | hp
  · exact Ne.symm hCD
  · exact offC p hp
theorem src_enum_if {elt ct : PySem.Expr} {a b : Str} {scope : Scope} {cl : List (Str × Addr)} {Fin : Shared → List Value → Led → Prop} {l1 : Addr} {xs : List Value} {k1 : Nat} {news : Led} (f : Nat → Int) (p : Nat → Bool)
    (hh : A.handled = none) (F : Fr h₀ L s.heap m) (N : News h₀ L s.heap news) (hm1 : (l1, listOf xs.toArray k1) ∈ news) (hsz : xs.length ≤ 1000)
    (test : ∀ i t x C oC D zs m₂ g h tk (E' : Value → Shared → Prop), i < xs.length → xs[i]? = some x → NsObj oC m₂ → m₂ a = some (.int (i : Nat) t) → m₂ b = some x → Fr h₀ L h m → News h₀ L h ((C, oC) :: (D, lst zs) :: news) →
      wpAny (model prog w) A (isTrue ct (compEnvC scope cl C env) (eval ct (compEnvC scope cl C env))) (QuietBool { ({ s with heap := g } : Shared) with heap := h, toks := tk } (p i)) E' { heap := h, gens := ({ s with heap := g } : Shared).gens, drawn := ({ s with heap := g } : Shared).drawn, toks := tk, os := ({ s with heap := g } : Shared).os })
    (turn : ∀ i t x C oC D zs m₂ g h tk (E' : Value → Shared → Prop), i < xs.length → xs[i]? = some x → NsObj oC m₂ → m₂ a = some (.int (i : Nat) t) → m₂ b = some x → Fr h₀ L h m → News h₀ L h ((C, oC) :: (D, lst zs) :: news) →
      wpAny (model prog w) A (eval elt (compEnvC scope cl C env)) (QuietInt { ({ s with heap := g } : Shared) with heap := h, toks := tk } (f i)) E' { heap := h, gens := ({ s with heap := g } : Shared).gens, drawn := ({ s with heap := g } : Shared).drawn, toks := tk, os := ({ s with heap := g } : Shared).os })
    (fin : ∀ zs g, IntsAre zs (((List.range xs.length).filter p).map f) → Fin { s with heap := g } zs news) :
    wpAny (model prog w) A (call (.type "enumerate") [.ref l1]) (PairSrcIf prog w A h₀ L m env elt ct a b scope cl Fin) E s := by
  have hL : s.heap.IsList l1 xs.toArray := ⟨_, (N _ hm1).1, rfl, k1, rfl⟩
  have hlt1 : l1 < s.heap.objs.size := Heap.lt_size (N _ hm1).1
  have hLlt : L < s.heap.objs.size := F.ns.lt
  have new₀ : ∀ b, s.heap.objs.size ≤ b → h₀.get? b = none := fun b hb => ktu_new F hb
  refine call_enumerate_list hL fun h' hE hI hsize hk => ?_
  have W := WalksT.enumerate (prog := prog) (w := w) (A := A) hh (s.heap.objs.size + 1) s.heap.objs.size l1 (Nat.succ_ne_self _) (ktu_ne 1 hlt1) (Nat.ne_of_lt hlt1) xs.toArray
  refine ⟨_, _, _, _, _, _, _, fun i x y => ∃ t, x = .int (i : Nat) t ∧ xs[i]? = some y, f, p, news, rfl, W, hh, by rw [List.size_toArray, sizeLine_eq]; omega, ?_, ?_, ?_, F.keeps hk, N.grown hk, ?_, ?_, ?_, ?_, ?_⟩
  · rintro i vals ⟨t, x, hx, rfl⟩
    exact ⟨_, x, rfl, t, rfl, by simpa using hx⟩
  · exact ⟨⟨_, hE⟩, hI, let ⟨o, ho, r⟩ := hL; ⟨o, hk _ _ ho, r⟩⟩
  · intro b hb
    simp only [List.mem_cons, List.not_mem_nil, or_false] at hb
    show @LT.lt Nat _ b h'.objs.size
    have b1 : @LT.lt Nat _ l1 s.heap.objs.size := hlt1
    rw [hsize]
    rcases hb with rfl | rfl | rfl <;> omega
  · intro b hb
    simp only [List.mem_cons, List.not_mem_nil, or_false] at hb
    rcases hb with rfl | rfl
    · exact ⟨new₀ _ (Nat.le_add_right _ _), Ne.symm (ktu_ne 1 hLlt)⟩
    · exact ⟨new₀ _ (Nat.le_refl _), Ne.symm (Nat.ne_of_lt hLlt)⟩
  · intro p hp hb
    simp only [List.mem_cons, List.not_mem_nil, or_false] at hb
    have hlp := Heap.lt_size (N p hp).1
    rcases hb with e | e
    · exact ktu_ne 1 hlp e
    · exact Nat.ne_of_lt hlp e
  · rintro i x y C oC D ys m₂ h tk E' hi ⟨t, rfl, hy⟩ hC ha hb F' N'
    exact test i t y C oC D ys m₂ h' h tk E' (by simpa using hi) hy hC ha hb F' N'
  · rintro i x y C oC D ys m₂ h tk E' hi ⟨t, rfl, hy⟩ hC ha hb F' N'
    exact turn i t y C oC D ys m₂ h' h tk E' (by simpa using hi) hy hC ha hb F' N'
  · intro ys hI'
    refine fin ys h' ?_
    rw [List.size_toArray] at hI'
    exact hI'
end
end
section
open PySem PySem.W PyProof.Rows PySem.Calls PyProof.Rows.LCg
theorem box_off {x dx la ha : Addr} {l : Led} (h : ∀ q ∈ l, q.1 ≠ x ∧ q.1 ≠ dx ∧ q.1 ≠ la ∧ q.1 ≠ ha) : Off1 x l ∧ Off1 dx l ∧ Off1 la l ∧ Off1 ha l :=
  ⟨off1_in fun q hq => (h q hq).1, off1_in fun q hq => (h q hq).2.1, off1_in fun q hq => (h q hq).2.2.1, off1_in fun q hq => (h q hq).2.2.2⟩
end
section
open PySem PySem.W PyProof.Rows PySem.Calls
theorem right_all {rows : List Row} (G : GoodLot rows) : ((2 * (highOf 0 rows - lowOf 0 rows)) ^ 2 + ((3 * (highOf 1 rows - lowOf 1 rows)) ^ 2 + ((1 * (highOf 2 rows - lowOf 2 rows)) ^ 2 + 0)) == spreadOf rows && (meanOf 0 rows == (2 * (List.map (fun r => prt 0 r.fst * r.snd) rows).sum + manyOf rows).fdiv (2 * manyOf rows) && (meanOf 1 rows == (2 * (List.map (fun r => prt 1 r.fst * r.snd) rows).sum + manyOf rows).fdiv (2 * manyOf rows) && meanOf 2 rows == (2 * (List.map (fun r => prt 2 r.fst * r.snd) rows).sum + manyOf rows).fdiv (2 * manyOf rows)))) = true := by
  have e0 := mean_eq G 0
  have e1 := mean_eq G 1
  have e2 := mean_eq G 2
  rw [← e0, ← e1, ← e2]
  have e : (2 * (highOf 0 rows - lowOf 0 rows)) ^ 2 + ((3 * (highOf 1 rows - lowOf 1 rows)) ^ 2 + ((1 * (highOf 2 rows - lowOf 2 rows)) ^ 2 + 0)) = spreadOf rows := rfl
  rw [e]
  simp only [beq_self_eq_true, Bool.and_self]
theorem right_one {rows : List Row} (h : (rows.length : Int) = 1) : ((2 * (highOf 0 rows - lowOf 0 rows)) ^ 2 + ((3 * (highOf 1 rows - lowOf 1 rows)) ^ 2 + ((1 * (highOf 2 rows - lowOf 2 rows)) ^ 2 + 0)) == 0) = true := by
  have e : spreadOf rows = 0 := spread_one (by omega)
  show (spreadOf rows == 0) = true
  rw [e]; rfl
theorem right_two {rows : List Row} (G : GoodLot rows) (h : (rows.length : Int) ≠ 1) : GoodLot (lowRows (longOf rows) rows) ∧ GoodLot (uppRows (longOf rows) rows) := by
  have h0 : 0 < rows.length := List.length_pos_iff.mpr G.ne

  exact good_halves G (by omega)
section
variable {w : World} {A : Around} {E : Value → Shared → Prop} {s : Shared} {h₀ : Heap} {L l : Addr} {vs : List Value} {k : Nat} {news : Led}
theorem my_len {rows : List Row} {Q : Value → Shared → Prop} (N : News h₀ L s.heap news) (hm : (l, listOf vs.toArray k) ∈ news) (hR : RowsAre news vs rows) (hl : rows.length ≤ 4)
    (h : ∀ t tk, Q (.int (rows.length : Nat) t) { s with toks := tk }) : wpAny (model PR w) A (call (.builtin "len") [.ref l]) Q E s :=
  len_list (my_isList N hm) (by have := hR.length; simp only [List.size_toArray]; omega) (by have e := hR.length; rw [show vs.toArray.size = rows.length from by simp [e]]; exact h _ _)
end
end
section
open PySem PySem.W PyProof.Rows PySem.Calls PyProof.Rows.LCg
section
section
variable {w : World} {p : Program} {loose : List Str} {mean : ExcName → Option Value} {mg mb : Str → Option Value} {dp un : Nat} {gd : Option (List Code)} {cn : Str} {cs : Scope} {a : Addr} {ccd : Value} {cl : List (Str × Addr)} {outer : List Env} {A₀ : Around} {base h₀ : Heap} {L : Addr} {m : Str → Option Value} {s : Shared} {Q E : Value → Shared → Prop} {news : Led}
def LawPost (h₀ : Heap) (L : Addr) (s : Shared) (f : Flow) (s' : Shared) : Prop :=
  f = .ret (.bool true) ∧ ∃ h' tk' m', s' = { s with heap := h', toks := tk' } ∧ Fr h₀ L h' m' ∧ GrownAll [(248, 246)] h'
end
end
theorem reg0 : True := by
  k_with "my dig" =>
    first | assumption | (apply And.right; assumption) | (apply And.right; apply And.right; assumption) | (apply And.right; apply And.right; apply And.right; assumption) | (apply And.right; apply And.right; apply And.right; apply And.right; assumption) | (apply And.right; apply And.right; apply And.right; apply And.right; apply And.right; assumption) | (apply And.right; apply And.right; apply And.right; apply And.right; apply And.right; apply And.right; assumption) | (apply And.right; apply And.right; apply And.right; apply And.right; apply And.right; apply And.right; apply And.right; assumption) | (apply And.right; apply And.right; apply And.right; apply And.right; apply And.right; apply And.right; apply And.right; apply And.right; assumption) | (apply And.right; apply And.right; apply And.right; apply And.right; apply And.right; apply And.right; apply And.right; apply And.right; apply And.right; assumption) | (apply And.right; apply And.right; apply And.right; apply And.right; apply And.right; apply And.right; apply And.right; apply And.right; apply And.right; apply And.right; assumption) | (apply And.right; apply And.right; apply And.right; apply And.right; apply And.right; apply And.right; apply And.right; apply And.right; apply And.right; apply And.right; apply And.right; assumption) | (apply And.right; apply And.right; apply And.right; apply And.right; apply And.right; apply And.right; apply And.right; apply And.right; apply And.right; apply And.right; apply And.right; apply And.right; assumption) | (apply And.right; apply And.right; apply And.right; apply And.right; apply And.right; apply And.right; apply And.right; apply And.right; apply And.right; apply And.right; apply And.right; apply And.right; apply And.right; assumption) | (apply And.right; apply And.right; apply And.right; apply And.right; apply And.right; apply And.right; apply And.right; apply And.right; apply And.right; apply And.right; apply And.right; apply And.right; apply And.right; apply And.right; assumption) | (apply And.right; apply And.right; apply And.right; apply And.right; apply And.right; apply And.right; apply And.right; apply And.right; apply And.right; apply And.right; apply And.right; apply And.right; apply And.right; apply And.right; apply And.right; assumption) | (apply And.right; apply And.right; apply And.right; apply And.right; apply And.right; apply And.right; apply And.right; apply And.right; apply And.right; apply And.right; apply And.right; apply And.right; apply And.right; apply And.right; apply And.right; apply And.right; assumption) | (apply And.right; apply And.right; apply And.right; apply And.right; apply And.right; apply And.right; apply And.right; apply And.right; apply And.right; apply And.right; apply And.right; apply And.right; apply And.right; apply And.right; apply And.right; apply And.right; apply And.right; assumption) | (apply And.right; apply And.right; apply And.right; apply And.right; apply And.right; apply And.right; apply And.right; apply And.right; apply And.right; apply And.right; apply And.right; apply And.right; apply And.right; apply And.right; apply And.right; apply And.right; apply And.right; apply And.right; assumption) | (apply And.right; apply And.right; apply And.right; apply And.right; apply And.right; apply And.right; apply And.right; apply And.right; apply And.right; apply And.right; apply And.right; apply And.right; apply And.right; apply And.right; apply And.right; apply And.right; apply And.right; apply And.right; apply And.right; assumption) | (apply And.right; apply And.right; apply And.right; apply And.right; apply And.right; apply And.right; apply And.right; apply And.right; apply And.right; apply And.right; apply And.right; apply And.right; apply And.right; apply And.right; apply And.right; apply And.right; apply And.right; apply And.right; apply And.right; apply And.right; assumption) | (apply And.right; apply And.right; apply And.right; apply And.right; apply And.right; apply And.right; apply And.right; apply And.right; apply And.right; apply And.right; apply And.right; apply And.right; apply And.right; apply And.right; apply And.right; apply And.right; apply And.right; apply And.right; apply And.right; apply And.right; apply And.right; assumption)
  k_with "my tail" =>
    first | assumption | (refine off1_out ?_; k_extra "my dig") | (refine allLt_out ?_; k_extra "my dig") | (refine allLt_out1 ?_; k_extra "my dig") | (refine allLt_out2 ?_; k_extra "my dig") | (refine allLt_out3 ?_; k_extra "my dig")
  k_with "c k_all" =>
    k_extra "my tail"
  k_with "my skip" =>
    first | exact And.left | exact id | (refine sk_and ?_; k_extra "my skip")
  k_with "my skip1" =>
    first | exact sk_11 | (refine sk_and ?_; k_extra "my skip1")
  k_with "my skip2" =>
    first | exact sk_121 | (refine sk_and ?_; k_extra "my skip2")
  k_with "my skip3" =>
    first | exact sk_122 | (refine sk_and ?_; k_extra "my skip3")
  k_with "my skip4" =>
    first | exact sk_1221 | (refine sk_and ?_; k_extra "my skip4")
  k_with "my skip5" =>
    first | exact sk_1222 | (refine sk_and ?_; k_extra "my skip5")
  k_with "my pickN" =>
    first | assumption | (refine pick_ne (by assumption) ?_; k_extra "my skip") | (refine pick_n1 (by assumption) ?_; k_extra "my skip1") | (refine pick_n2 (by assumption) ?_; k_extra "my skip2") | (refine pick_n3 (by assumption) ?_; k_extra "my skip3") | (refine pick_n4 (by assumption) ?_; k_extra "my skip4") | (refine pick_n5 (by assumption) ?_; k_extra "my skip5")
  k_with "my pickL" =>
    first | assumption | (refine pick_lt (by assumption) ?_; k_extra "my skip")
  k_with "c k_ne" =>
    first | (with_reducible (refine Nat.ne_of_lt ?_; k_extra "my pickL")) | (with_reducible (refine Nat.ne_of_gt ?_; k_extra "my pickL")) | (with_reducible k_extra "my pickN") | (with_reducible (refine Ne.symm ?_; k_extra "my pickN")) | exact Nat.ne_of_lt (Nat.lt_succ_self _) | exact Nat.ne_of_gt (Nat.lt_succ_self _) | exact Nat.ne_of_lt (Nat.lt_succ_of_lt (Nat.lt_succ_self _)) | exact Nat.ne_of_gt (Nat.lt_succ_of_lt (Nat.lt_succ_self _))
  k_with "c k_units" =>
    ktr_units
  k_with "c k_room" =>
    ktr_room
  k_with "my enter" =>
    k_dflt (refine' code_def ?k1 ?k2 ?k3 ?k4 ?k5 ?kA ?kF ?kK ?k6 ?k7 ?k8 ?k9 ?kB ?_ ?c2 ?c3 ?c4 ?c5; (case kA => exact rfl); (case kF => exact rfl); (case kK => first | exact rfl | assumption); (case k1 => k_asm); (case k2 => k_asm); (case k3 => k_asm); (case k4 => k_asm); (case k5 => k_asm); (case k6 => k_is); (case k7 => k_is); (case k8 => ktr_room); (case k9 => exact BindsTo.of_eq rfl); (case c5 => decide); (case kB => exact locs rfl); (case c2 => exact rfl); (case c3 => exact rfl); (case c4 => exact rfl); k_whole; intro g' L' h' FG' F' N' B' X' T'; (try dsimp only); (try k_fold))
  k_with "my enterC" =>
    k_dflt (refine' code_defC ?k1 ?k2 ?k3 ?k4 ?k5 ?kA ?kF ?kK ?k6 ?k7 ?k8 ?k9 ?kB ?kD ?_ ?c2 ?c3 ?c4; (case kA => exact rfl); (case kF => exact rfl); (case kK => first | exact rfl | assumption); (case k1 => k_asm); (case k2 => k_asm); (case k3 => k_asm); (case k4 => k_asm); (case k5 => k_asm); (case k6 => k_is); (case k7 => k_is); (case k8 => ktr_room); (case k9 => exact BindsTo.of_eq rfl); (case kB => exact rfl); (case kD => decide +kernel); (case c2 => exact rfl); (case c3 => exact rfl); (case c4 => exact rfl); k_whole; intro g' L' h' tk' cells' FG' F' N' Y' B' X' T' l1; (try k_lt l1); k_cells Y'; (try simp only [List.cons_append, List.nil_append] at N'); (try dsimp only); (try k_fold))
  k_with "my sit" =>
    ((case B => k_asm); (case F => k_asm); (case X => k_asm); (case N => k_asm); (case T => k_asm); (case kk => first | exact rfl | assumption); (case dp => ktr_room); (case un => ktr_units))
  k_with "my minus" =>
    first | exact Minus.here | (refine' Minus.there ?mm; (case mm => k_extra "my minus"))
  k_with "c lcg_off" =>
    first | exact True.intro | (refine And.intro ⟨by k_ne, by k_ne, by k_ne⟩ ?_; lcg_off) | k_extra "my dig"
  k_with "c CompEnd" =>
    (k_dflt (refine' compEnd_my ?F ?N ?m1 ?m2 ?m3 ?off ?hS ?_; (case F => k_asm); (case N => k_asm); (case m1 => k_extra "my minus"); (case m2 => k_extra "my minus"); (case m3 => k_extra "my minus"); (case off => lcg_off); (case hS => first | exact True.intro | lcg_src)))
  k_with "c CompSrc" =>
    (k_here; k_dflt (first | (refine LCg.CompSrc.ledger (by rfl) (by k_asm) (by k_asm) (by k_mem) (by first | size_fits | exact Nat.le_of_ble_eq_true rfl) ?_; intro g'; lcg_lit) | (refine LCg.CompSrc.range (by rfl) (by k_asm) (by k_asm) (by assumption) (by first | decide | rfl) (by first | rfl | decide) (by first | size_fits | exact Nat.le_of_ble_eq_true rfl) ?_; intro g'; lcg_lit)))
  k_with "my steps" =>
    repeat' ((fail_if_success (k_extra "my stop")); (first | (k_unfold; (try dsimp only)) | (k_end; wrow_close) | walk1 | (dsimp only; walk1) | (leave1; walk_say "STEP leave1"; try dsimp only) | fail "no step"))
  k_with "my all" =>
    first | exact List.forall_mem_nil _ | (refine' List.forall_mem_cons.mpr ⟨?aa, ?bb⟩; (case aa => k_ne); (case bb => k_extra "my all")) | k_extra "my tail"
  k_with "c k_mem" =>
    assumption
  k_with "c call builtin:sum" =>
    (k_here; (with_reducible show wpAny _ _ (call (Value.builtin "sum") [Value.ref _]) _ _ _); k_dflt (refine' my_sum ?qh ?qF ?qN ?qm ?qi ?_; (case qh => with_unfolding_all rfl); (case qF => k_asm); (case qN => k_asm); (case qm => k_mem); (case qi => assumption)); intro h' tk' t' F' N'; (try k_sweep))
  k_with "c call builtin:min" =>
    (k_here; (with_reducible show wpAny _ _ (call (Value.builtin "min") [Value.ref _]) _ _ _); k_dflt (refine' my_min ?qh ?qF ?qN ?qm ?qi ?qe ?_; (case qh => with_unfolding_all rfl); (case qF => k_asm); (case qN => k_asm); (case qm => k_mem); (case qi => first | assumption | exact .cons _ _ (.cons _ _ (.cons _ _ .nil))); (case qe => first | assumption | exact Nat.zero_lt_succ _ | (simp only [List.length_map]; assumption))); intro h' tk' t' F' N'; (try k_sweep))
  k_with "c call builtin:max" =>
    (k_here; (with_reducible show wpAny _ _ (call (Value.builtin "max") [Value.ref _]) _ _ _); k_dflt (refine' my_max ?qh ?qF ?qN ?qm ?qi ?qe ?_; (case qh => with_unfolding_all rfl); (case qF => k_asm); (case qN => k_asm); (case qm => k_mem); (case qi => first | assumption | exact .cons _ _ (.cons _ _ (.cons _ _ .nil))); (case qe => first | assumption | exact Nat.zero_lt_succ _ | (simp only [List.length_map]; assumption))); intro h' tk' t' F' N'; (try k_sweep))
  k_with "my sub1" =>
    first | assumption | (apply List.Mem.tail; k_extra "my sub1")
  k_with "my sub" =>
    first | exact fun q' hq' => hq' | (intro q' hq'; k_extra "my sub1")
  k_with "my same" =>
    refine IntSame.mk (by k_asm) (news_keep (by k_asm) (by k_extra "my sub"))
  k_with "my stop" =>
    with_reducible show LCp.SrcLP _ _ _ _ _ _ _ _ _ _ _ _ _ _ _
  k_with "my stop" =>
    with_reducible show LCt.CompSrcT _ _ _ _ _ _ _ _ _ _ _ _ _ _ _
  k_with "my stop" =>
    with_reducible show CompSrc _ _ _ _ _ _ _ _ _ _ _ _ _ _
  k_with "my stop" =>
    with_reducible show CellSrc _ _ _ _ _ _ _ _ _ _ _ _ _ _
  k_with "c subscriptTail" =>
    (k_here; (with_reducible show wpAny _ _ (subscriptTail _ _ (Value.ref _) (Value.int _ _)) _ _ _); k_dflt (refine' my_item ?qN ?qm ?q0 ?q1 ?qv ?_ ?qs; (case qN => k_asm); (case qm => k_mem); (case q0 => first | decide | omega); (case q1 => first | decide | omega); (case qv => rfl); (case qs => with_unfolding_all rfl)))
  k_with "my plain" =>
    (k_here; k_dflt (refine LCg.ListComp_U (F₀ := by k_asm) (by with_unfolding_all rfl) (by decide) (by rfl) (by decide) (by rfl) ?_))
  k_with "my cell" =>
    (k_here; k_dflt (refine' ListComp_cell ?qF ?q1 ?q2 ?q3 ?q4 ?q5 ?q6 ?_; (case q6 => rfl); (case qF => k_asm); (case q1 => with_unfolding_all rfl); (case q2 => exact fun _ _ => rfl); (case q3 => exact fun _ => rfl); (case q4 => rfl); (case q5 => decide)))
  k_with "my test" =>
    (k_here; k_dflt (refine LCt.ListComp_T (F₀ := by k_asm) (by with_unfolding_all rfl) (by decide) (by rfl) (by decide) (by rfl) ?_))
  k_with "my pair" =>
    (k_here; k_dflt (refine LCp.ListComp_P (F₀ := by k_asm) (by with_unfolding_all rfl) (by decide) (by rfl) (by decide) (by rfl) (by rfl) (by decide) ?_))
  k_with "c eval ListComp" =>
    first | (lcp_look; k_extra "my pair") | (lct_look; k_extra "my test") | ((fail_if_success lcp_look); (fail_if_success lct_look); k_extra "my cell") | ((fail_if_success lcp_look); (fail_if_success lct_look); k_extra "my plain")
  k_with "my plainA" =>
    (k_here; k_dflt (refine LCg.Assign_ListComp_U (F₀ := by k_asm) (by rfl) (by with_unfolding_all rfl) (by with_unfolding_all rfl) (by decide) (by rfl) (by decide) (by rfl) (by rfl) (by rfl) ?_))
  k_with "my testA" =>
    (k_here; k_dflt (refine LCt.Assign_ListComp_T (F₀ := by k_asm) (by rfl) (by with_unfolding_all rfl) (by with_unfolding_all rfl) (by decide) (by rfl) (by decide) (by rfl) (by rfl) (by rfl) ?_))
  k_with "my pairA" =>
    (k_here; k_dflt (refine LCp.Assign_ListComp_P (F₀ := by k_asm) (by rfl) (by with_unfolding_all rfl) (by with_unfolding_all rfl) (by decide) (by rfl) (by decide) (by rfl) (by rfl) (by decide) (by rfl) (by rfl) ?_))
  k_with "my cellA" =>
    (k_here; k_dflt (refine' Assign_ListComp_cell ?qF ?q0 ?q00 ?q1 ?q2 ?q3 ?q4 ?q5 ?q6 ?q7 ?q8 ?_; (case q6 => rfl); (case qF => k_asm); (case q0 => rfl); (case q00 => with_unfolding_all rfl); (case q1 => with_unfolding_all rfl); (case q2 => exact fun _ _ => rfl); (case q3 => exact fun _ => rfl); (case q4 => rfl); (case q5 => decide); (case q7 => rfl); (case q8 => rfl)))
  k_with "c exec Assign cons ListComp" =>
    first | (lcp_look; k_extra "my pairA") | (lct_look; k_extra "my testA") | ((fail_if_success lcp_look); (fail_if_success lct_look); k_extra "my cellA") | ((fail_if_success lcp_look); (fail_if_success lct_look); k_extra "my plainA") | walk_at "exec Assign"
  k_with "c callWith ref" =>
    (k_here; k_dflt (refine' callWith_K ?k1 ?k2 ?_; (case k1 => k_asm); (case k2 => k_is); k_whole))
  k_with "c subscriptTail Attribute" =>
    (k_here; (with_reducible show wpAny _ _ (subscriptTail _ _ (Value.ref _) (Value.int _ _)) _ _ _); k_dflt (refine kba_turn (value' := PySem.Expr.Name (PySem.Str.ofString "_") ⟨0, 0, 0, 0⟩) (fun _ => rfl) ?_))
  k_with "my tupItem" =>
    (k_here; (with_reducible show wpAny _ _ (subscriptTail _ _ (Value.ref _) (Value.int _ _)) _ _ _); k_dflt (refine' item_tupleT ?t ?a ?b ?c ?d ?_; (case t => exact News.isTup (by k_asm) (by k_mem)); (case a => decide); (case b => decide); (case c => rfl); (case d => rfl); k_whole))
  k_with "c binaryOp Pow int int" =>
    ((with_reducible refine pow_int_small ?_ ?_ ?_ ?_); side_arith; side_arith; side_arith)
  trivial
local macro_rules | `(tactic| k_all) => `(tactic| k_extra "c k_all")
local macro_rules | `(tactic| k_ne) => `(tactic| k_extra "c k_ne")
local macro_rules | `(tactic| k_units) => `(tactic| k_extra "c k_units")
local macro_rules | `(tactic| k_room) => `(tactic| k_extra "c k_room")
local macro_rules | `(tactic| lcg_off) => `(tactic| k_extra "c lcg_off")
local macro_rules | `(tactic| walk_at "CompEnd") => `(tactic| k_extra "c CompEnd")
local macro_rules | `(tactic| walk_at "CompSrc") => `(tactic| k_extra "c CompSrc")
local macro_rules | `(tactic| k_mem) => `(tactic| k_extra "c k_mem")
local macro_rules | `(tactic| walk_at "call builtin:sum") => `(tactic| k_extra "c call builtin:sum")
local macro_rules | `(tactic| walk_at "call builtin:min") => `(tactic| k_extra "c call builtin:min")
local macro_rules | `(tactic| walk_at "call builtin:max") => `(tactic| k_extra "c call builtin:max")
local macro_rules | `(tactic| walk_at "subscriptTail") => `(tactic| k_extra "c subscriptTail")
local macro_rules | `(tactic| walk_at "eval ListComp") => `(tactic| k_extra "c eval ListComp")
local macro_rules | `(tactic| walk_at "exec Assign cons ListComp") => `(tactic| k_extra "c exec Assign cons ListComp")
local macro_rules | `(tactic| walk_at "callWith ref") => `(tactic| k_extra "c callWith ref")
local macro_rules | `(tactic| walk_at "subscriptTail Attribute") => `(tactic| k_extra "c subscriptTail Attribute")
local macro_rules | `(tactic| walk_at "binaryOp Pow int int") => `(tactic| k_extra "c binaryOp Pow int int")
local macro_rules | `(tactic| walk_at "subscriptTail Name Name ref int") => `(tactic| k_extra "my tupItem")
local macro_rules | `(tactic| walk_at "subscriptTail Name Constant ref int") => `(tactic| k_extra "my tupItem")
local macro_rules | `(tactic| walk_at "subscriptTail Name Name ref int") => `(tactic| k_extra "c subscriptTail")
local macro_rules | `(tactic| walk_at "subscriptTail Name Constant ref int") => `(tactic| k_extra "c subscriptTail")
local macro_rules | `(tactic| walk_at "call ref") => `(tactic| k_extra "own call ref")
local macro_rules | `(tactic| walk_at "eval Dict nil nil") => `(tactic| k_extra "own eval Dict nil nil")
local macro_rules | `(tactic| walk_at "pyIter ref") => `(tactic| k_extra "own pyIter ref")
local macro_rules | `(tactic| walk_at "UnrEndW") => `(tactic| k_extra "own UnrEndW")
local macro_rules | `(tactic| walk_at "exec For Name Call cons nil") => `(tactic| k_extra "own exec For Name Call cons nil")
local macro_rules | `(tactic| walk_at "eval ListComp") => `(tactic| k_extra "own eval ListComp")
local macro_rules | `(tactic| walk_at "subscriptTail") => `(tactic| k_extra "own subscriptTail")
local macro_rules | `(tactic| walk_at "subscriptTail Name Name ref int") => `(tactic| k_extra "own subscriptTail")
local macro_rules | `(tactic| walk_at "subscriptTail Name Constant ref int") => `(tactic| k_extra "own subscriptTail")
local macro_rules | `(tactic| walk_at "compareOp NotEq ref ref") => `(tactic| k_extra "own compareOp NotEq ref ref")
local macro_rules | `(tactic| walk_at "compareOp Eq ref ref") => `(tactic| k_extra "own compareOp Eq ref ref")
local macro_rules | `(tactic| walk_at "call builtin:len") => `(tactic| k_extra "own call builtin:len")
local macro_rules | `(tactic| walk_at "exec Assign cons ListComp") => `(tactic| k_extra "own exec Assign cons ListComp")
section
theorem reg_P1 : True := by
  w_top off
  trivial
section
variable {w : World} {p : Program} {loose : List Str} {mean : ExcName → Option Value} {mg mb : Str → Option Value} {dp un : Nat} {gd : Option (List Code)} {cn : Str} {cs : Scope} {a : Addr} {ccd : Value} {cl : List (Str × Addr)} {outer : List Env} {A₀ : Around} {base h₀ : Heap} {L : Addr} {m : Str → Option Value} {s : Shared} {Q E : Value → Shared → Prop} {news : Led}
theorem dab {pt : Addr} {o : Obj} {g : Obj → Led} {k : Int} {tk : Tok} (B : Below A₀ base outer h₀) (F : Fr h₀ L s.heap m) (X : (Mine.hd.heap_39 w.params).In h₀) (N : News h₀ L s.heap news) (T : Top p loose mean mg mb h₀) (hkind : cs.kind = .function) (hdp : dp + 10 < recursionLimit) (hun : un + 100 < cLine)
    (hP : Paint o) (U : UpdF pt o news g) (hk : 0 < k) (hk9 : k < 10)
    (hret : ∀ r t o' h' tk', 0 ≤ r → r < k → Paint o' → Fr h₀ L h' m → News h₀ L h' (g o') → Q (.int r t) { s with heap := h', toks := tk' }) :
    wpAny (model PR w) (ktrTop dp un gd cn cs L a ccd cl outer) (call (.ref 185) [.ref pt, .int k tk]) Q E s := by
  obtain ⟨x, y, t, u, n, rfl, hx⟩ := hP
  obtain ⟨pre, post, rfl, hg, h1, h2⟩ := U.split
  have N₁ : News h₀ L s.heap ((pt, listOf #[.int x t, .int y u] n) :: (pre ++ post)) := fun q hq => N q (by simp at hq ⊢; rcases hq with h | h | h <;> simp [h])
  have hoff : ∀ q ∈ pre ++ post, q.1 ≠ pt := fun q hq => (List.mem_append.mp hq).elim (h1 q) (h2 q)
  have back : ∀ {o' : Obj} {h' : Heap}, News h₀ L h' ((pt, o') :: (pre ++ post)) → News h₀ L h' (g o') := fun N' q hq => N' q (by rw [hg] at hq; simp at hq ⊢; rcases hq with h | h | h <;> simp [h])
  clear N U hg h1 h2
  generalize hr : pre ++ post = rest at *
  clear hr
  refine wpAny_call ?_
  k_dflt ktr_enter
  k_steps
  · refine hret _ _ _ _ _ ?_ ?_ ⟨_, _, _, _, _, rfl, ?_⟩ (by k_asm) (back (by k_asm))
    · (try simp only [List.getD_cons_zero, Int.toNat_zero]); rw [Int.fmod_eq_emod_of_nonneg _ (by omega)]; exact Int.emod_nonneg _ (by omega)
    · (try simp only [List.getD_cons_zero, Int.toNat_zero]); rw [Int.fmod_eq_emod_of_nonneg _ (by omega)]; exact Int.emod_lt_of_pos _ (by omega)
    · (try simp only [List.getD_cons_zero, Int.toNat_zero]); rw [Int.fdiv_eq_ediv_of_nonneg _ (by omega)]; exact Int.ediv_nonneg hx (by omega)
  · refine hret _ _ _ _ _ ?_ ?_ ⟨_, _, _, _, _, rfl, hx⟩ (by k_asm) (back (by k_asm))
    · rw [Int.fmod_eq_emod_of_nonneg _ (by omega)]; exact Int.emod_nonneg _ (by omega)
    · rw [Int.fmod_eq_emod_of_nonneg _ (by omega)]; exact Int.emod_lt_of_pos _ (by omega)
end
end
section
theorem reg_P2 : True := by
  w_top off
  k_with "P2 call ref" =>
    (k_here; k_dflt (refine' dab ?B ?F ?X ?N ?T ?kk ?dp ?un ?P ?U ?hk ?hk9 ?_; k_extra "my sit"; (case P => assumption); (case U => k_updF); (case hk => decide); (case hk9 => decide); k_whole); intro r' t' o' h' tk' hr0' hr1' hP' F' N'; (try dsimp only at N'); (try k_sweep); (try k_fold))
  trivial
local macro_rules | `(tactic| k_extra "own call ref") => `(tactic| k_extra "P2 call ref")
section
variable {w : World} {p : Program} {loose : List Str} {mean : ExcName → Option Value} {mg mb : Str → Option Value} {dp un : Nat} {gd : Option (List Code)} {cn : Str} {cs : Scope} {a : Addr} {ccd : Value} {cl : List (Str × Addr)} {outer : List Env} {A₀ : Around} {base h₀ : Heap} {L : Addr} {m : Str → Option Value} {s : Shared} {Q E : Value → Shared → Prop} {news : Led}
theorem tab_ok (r : Int) : 0 ≤ ([0, 1, 2, 7, 8, 250] : List Int).getD r.toNat 0 ∧ ([0, 1, 2, 7, 8, 250] : List Int).getD r.toNat 0 ≤ 250 := by
  generalize r.toNat = n
  rcases n with _ | _ | _ | _ | _ | _ | n <;> simp
def IsI (_ : Led) (v : Value) (x : Int) : Prop := ∃ t, v = .int x t
theorem three_ints {n : Led} {ys : List Value} {xs : List Int} (h : AllAt IsI n ys xs) (hl : xs.length = 3) : ∃ a b c ta tb tc, xs = [a, b, c] ∧ ys = [.int a ta, .int b tb, .int c tc] := by
  obtain ⟨h1, h2⟩ := h
  match xs, ys, hl, h1 with
  | [a, b, c], [x, y, z], _, _ =>
    obtain ⟨ta, rfl⟩ := h2 0 x a rfl rfl
    obtain ⟨tb, rfl⟩ := h2 1 y b rfl rfl
    obtain ⟨tc, rfl⟩ := h2 2 z c rfl rfl
    exact ⟨a, b, c, ta, tb, tc, rfl, rfl⟩
theorem col_pack {h₀ h : Heap} {L L1 pt : Addr} {o oP : Obj} {rest : Led} (N : News h₀ L h ((L1, oP) :: (pt, o) :: rest)) (hne : L1 ≠ pt) (hoff : ∀ q ∈ rest, q.1 ≠ pt) :
    ∃ K : Led, News h₀ L h ((pt, o) :: K) ∧ (∀ q ∈ K, q.1 ≠ pt) ∧ (L1, oP) ∈ K ∧ ∀ q ∈ rest, q ∈ K :=
  ⟨(L1, oP) :: rest, news_sub N (fun q hq => by simp only [List.mem_cons] at hq ⊢; rcases hq with h | h | h <;> simp [h]), fun q hq => (List.mem_cons.mp hq).elim (fun e => by rw [e]; exact hne) (hoff q), .head _, fun q hq => .tail _ hq⟩
theorem colour {pt : Addr} {o : Obj} {g : Obj → Led} (B : Below A₀ base outer h₀) (F : Fr h₀ L s.heap m) (X : (Mine.hd.heap_39 w.params).In h₀) (N : News h₀ L s.heap news) (T : Top p loose mean mg mb h₀) (hkind : cs.kind = .function) (hdp : dp + 20 < recursionLimit) (hun : un + 200 < cLine)
    (hP : Paint o) (U : UpdF pt o news g)
    (hret : ∀ D c t1 t2 t3 n o' h' tk', Col.ok c → Paint o' → Off1 D (g o') → Fr h₀ L h' m → News h₀ L h' ((D, tupObj #[.int c.1 t1, .int c.2.1 t2, .int c.2.2 t3] n) :: g o') → Q (.ref D) { s with heap := h', toks := tk' }) :
    wpAny (model PR w) (ktrTop dp un gd cn cs L a ccd cl outer) (call (.ref 190) [.ref pt]) Q E s := by
  obtain ⟨rest, N₁, hoff, -, hg⟩ := updF_rest U N
  clear N U
  refine wpAny_call ?_
  k_extra "my enterC"
  k_extra "my steps"
  (rename IsRange _ _ _ _ _ _ _ _ => kR); (rename Fr _ _ _ _ => kF); (rename News _ _ _ _ => kN); (rename _ < _ ∧ AllLt _ rest => lA)
  obtain ⟨K, N1, hptK, mP, hK⟩ := col_pack kN (by k_ne) hoff
  k_dflt (refine' grow_range (n := 3) [] (R := IsI) (ok := fun _ c => 0 ≤ c ∧ c ≤ 250) (fun _ _ _ _ h _ => h) ?qh kF N1 kR ?qb ?qn hP ?qt ?_)
  case qh => with_unfolding_all rfl
  case qb => rfl
  case qn => decide
  case qt =>
    intro i' t' I' oI' C' oC' D' ys' m' g' h' tk' E' o' tl' hi' hP' hfr' hC' hx' F' N' off' ne'
    obtain ⟨⟨a1, a2, a3⟩, -⟩ := off'
    have u2 : Off1 pt (tl' ++ K) := off1_in fun q hq => (List.mem_append.mp hq).elim (fun h => (hfr' q h).1) (hptK q)
    have mP' := List.mem_append_right tl' mP
    clear kN N1 kF kR
    k_extra "my steps"
    (rename _ < _ ∧ _ < _ ∧ _ < _ ∧ _ < _ ∧ AllLt _ _ => lx); (rename News _ _ _ _ => kN'); (rename Fr _ _ _ _ => kF'); (rename Paint _ => kP')
    exact ⟨_, _, _, [(_, _)], _, rfl, kF', news_sub kN' (by (dsimp only [List.cons_append, List.nil_append]; exact List.forall_mem_cons.mpr ⟨.tail _ (.head _), List.forall_mem_cons.mpr ⟨.tail _ (.tail _ (.head _)), List.forall_mem_cons.mpr ⟨.tail _ (.tail _ (.tail _ (.head _))), List.forall_mem_cons.mpr ⟨.tail _ (.tail _ (.tail _ (.tail _ (.head _)))), List.forall_mem_cons.mpr ⟨.head _, fun q hq => .tail _ (.tail _ (.tail _ (.tail _ (.tail _ hq))))⟩⟩⟩⟩⟩)), kP', fun q hq p hp => by (rcases List.mem_singleton.mp hq with rfl; exact @allLt_out _ ((I', oI') :: (C', oC') :: (D', lst ys') :: (pt, _) :: (tl' ++ K)) lx p hp), ⟨_, rfl⟩, tab_ok _⟩
  intro ys xs oQ tl gz hxl hall hok hPo hfr D5 h5 tk5 F5 N5 q5
  obtain ⟨c1, c2, c3, b1, b2, b3, rfl, rfl⟩ := three_ints hall hxl
  have k1 := hok 0 c1 rfl
  have k2 := hok 1 c2 rfl
  have k3 := hok 2 c3 rfl
  simp only [Off1] at q5
  clear N1 kN kF kR
  k_extra "my steps"
  (rename _ < _ ∧ _ < _ ∧ AllLt _ (tl ++ K) => lD); (rename News h₀ _ _ _ => kN); (rename Fr h₀ _ _ _ => kF)
  refine hret _ (c1, c2, c3) _ _ _ _ _ _ _ ⟨k1, k2, k3⟩ hPo (off1_in fun q hq => ?_) kF (news_put kN (.head _) fun q hq => ?_)
  · rcases (hg _ _).1 hq with rfl | hq
    · exact Nat.ne_of_lt lD.2.1
    · exact allLt_out lD.2.2 q (List.mem_append_right _ (hK q hq))
  · rcases (hg _ _).1 hq with rfl | hq
    · exact .tail _ (.tail _ (.head _))
    · exact .tail _ (.tail _ (.tail _ (List.mem_append_right _ (hK q hq))))
end
end
section
theorem reg_P3 : True := by
  w_top off
  k_with "P3 my steps" =>
    repeat' ((fail_if_success (k_extra "P3 my stop")); (first | (k_unfold; (try dsimp only)) | (k_end; wrow_close) | walk1 | (dsimp only; walk1) | (leave1; walk_say "STEP leave1"; try dsimp only) | fail "no step"))
  k_with "P3 my stop" =>
    with_reducible show LCp.SrcLP _ _ _ _ _ _ _ _ _ _ _ _ _ _ _
  k_with "P3 my stop" =>
    with_reducible show LCt.CompSrcT _ _ _ _ _ _ _ _ _ _ _ _ _ _ _
  k_with "P3 my stop" =>
    with_reducible show CompSrc _ _ _ _ _ _ _ _ _ _ _ _ _ _
  k_with "P3 my stop" =>
    with_reducible show CellSrc _ _ _ _ _ _ _ _ _ _ _ _ _ _
  k_with "P3 call ref" =>
    (k_here; k_dflt (refine' dab ?B ?F ?X ?N ?T ?kk ?dp ?un ?P ?U ?hk ?hk9 ?_; k_extra "my sit"; (case P => assumption); (case U => k_updF); (case hk => decide); (case hk9 => decide); k_whole); intro r' t' o' h' tk' hr0' hr1' hP' F' N'; (try dsimp only at N'); (try k_sweep); (try k_fold))
  k_with "P3 call ref" =>
    (k_here; k_dflt (refine' colour ?B ?F ?X ?N ?T ?kk ?dp ?un ?P ?U ?_; k_extra "my sit"; (case P => assumption); (case U => k_updF); k_whole); intro D' c' t1' t2' t3' n' o' h' tk' hc' hP' o1' F' N'; (try dsimp only at N'); (try simp only [Off1, and_true] at o1'); (try k_sweep); (try k_fold))
  k_with "P3 my stop" =>
    with_reducible show wpAny _ _ (pyIter (Value.ref _)) _ _ _
  k_with "P3 my stop" =>
    with_reducible show wpAny _ _ (setItem (Value.ref _) (Value.ref _) _) _ _ _
  k_with "P3 my stop" =>
    with_reducible show wpAny _ _ (call (Value.builtin "sorted") _) _ _ _
  k_with "P3 eval Dict nil nil" =>
    (k_here; k_dflt (refine' newDict_my ?k1 ?k2 (Top.nolimit (by k_asm)) ?_; (case k1 => k_asm); (case k2 => k_asm); k_whole); intro d' h' F' N' l1 lo'; (try k_lt l1); (try k_sweep))
  k_with "P3 my stop" =>
    with_reducible show wpAny _ _ (eval (PySem.Expr.ListComp _ _ _ _) _) _ _ _
  trivial
local macro_rules | `(tactic| k_extra "own call ref") => `(tactic| k_extra "P3 call ref")
local macro_rules | `(tactic| k_extra "own eval Dict nil nil") => `(tactic| k_extra "P3 eval Dict nil nil")
section
variable {w : World} {p : Program} {loose : List Str} {mean : ExcName → Option Value} {mg mb : Str → Option Value} {dp un : Nat} {gd : Option (List Code)} {cn : Str} {cs : Scope} {a : Addr} {ccd : Value} {cl : List (Str × Addr)} {outer : List Env} {A₀ : Around} {base h₀ : Heap} {L : Addr} {m : Str → Option Value} {s : Shared} {Q E : Value → Shared → Prop} {news : Led}
theorem counted {pt : Addr} {o : Obj} {g : Obj → Led} (B : Below A₀ base outer h₀) (F : Fr h₀ L s.heap m) (X : (Mine.hd.heap_39 w.params).In h₀) (N : News h₀ L s.heap news) (T : Top p loose mean mg mb h₀) (hkind : cs.kind = .function) (hdp : dp + 30 < recursionLimit) (hun : un + 300 < cLine)
    (hP : Paint o) (U : UpdF pt o news g)
    (hret : ∀ D vs c rows o' tl h' tk', Paint o' → GoodLot rows → RowsAre tl vs rows → (∀ q ∈ (D, listOf vs.toArray c) :: tl, ∀ p ∈ g o', p.1 ≠ q.1) → Fr h₀ L h' m → News h₀ L h' ((D, listOf vs.toArray c) :: (tl ++ g o')) → Q (.ref D) { s with heap := h', toks := tk' }) :
    wpAny (model PR w) (ktrTop dp un gd cn cs L a ccd cl outer) (call (.ref 195) [.ref pt]) Q E s := by
  obtain ⟨rest, N₁, hoff, -, hg⟩ := updF_rest U N
  clear N U
  refine wpAny_call ?_
  k_extra "my enterC"
  k_extra "P3 my steps"
  rename_i kL0 oc0 kd0 hA1 hA2 oc kOc FA NA hA4 tkB tB1 tB2 tB3 kR kF kN kKeep
  have kS := lo'
  have hPA := hP'
  have kL1 := l1
  obtain ⟨LA, rfl⟩ : ∃ x, x = L' := ⟨_, rfl⟩
  obtain ⟨dA, rfl⟩ : ∃ x, x = d' := ⟨_, rfl⟩
  refine tab_loop rfl rfl kR (by omega) (by omega) kF (news_swap2 kN) hPA (by k_extra "my all") (by k_extra "my all") (by k_ne) ?_ ?_
  · intro k1 t1 od op xs kn tail hp1 tk1 hT hkn hx4 hPo hrt htd htp F1 N1
    have hcell := hrt _ (List.mem_cons_self ..)
    clear kN kF kR FA NA
    k_extra "P3 my steps"
    (rename News _ _ _ _ => kN); (rename Fr _ _ _ _ => kF); (rename Paint _ => kP); (rename Col.ok _ => kC); (rename _ ∧ _ ∧ Off1 _ tail => kO)
    refine' tab_add (by ktr_units) kF kN ?uu ?ka ?hs hT kC (by omega) (by omega) (by omega) ?_
    (case uu => k_updF)
    (case ka => k_mem)
    (case hs => exact fun q hq => .tail _ (.tail _ (.tail _ (hkn q hq))))
    intro h5 o5 xs5 tk5 F5 N5 T5 ne5 len5
    k_extra "P3 my steps"
    exact ⟨rfl, h5, _, _, _, _, o5, _, xs5, rfl, F5, fun z hz => by simp [hz], N5, kO.1, kO.2.1, off1_out kO.2.2, T5, kP, ne5, len5⟩
  · intro od op xs tl hp1 tk1 u1 hT hne hx4 hPo hfr F1 N1
    clear kN kF kR FA NA
    k_extra "P3 my steps"
    k_dflt (refine LCg.ListComp_U (F₀ := by k_asm) (by with_unfolding_all rfl) (by decide) (by rfl) (by decide) (by rfl) ?_)
    k_extra "P3 my steps"
    refine tab_sorted rfl F1 N1 kS (.head _) (fun q hq => .tail _ (.tail _ (List.mem_append_right _ hq))) hT hne hx4 ?_
    intro Bq ys c2 h2 tk2 hperm F2 N2 l2
    refine CompSrc.ledger rfl F2 N2 (k := c2) (.head _) (by rw [List.size_toArray, List.length_map, hperm.length_eq, sizeLine_eq]; omega) ?_
    intro g2
    generalize hL0 : (Bq, listOf (ys.map fun x => Value.ref x.2.1).toArray c2) :: (dA, od) :: (pt, op) :: ((LA + 1, oc) :: rest ++ tl) = L0
    have inB : (Bq, listOf (ys.map fun x => Value.ref x.2.1).toArray c2) ∈ L0 := by rw [← hL0]; exact .head _
    have inD : (dA, od) ∈ L0 := by rw [← hL0]; exact .tail _ (.head _)
    have inC : (LA + 1, oc) ∈ L0 := by rw [← hL0]; exact .tail _ (.tail _ (.tail _ (.head _)))
    have inK : ∀ q ∈ (LA + 1, oc) :: rest ++ tl, q ∈ L0 := fun q hq => by rw [← hL0]; exact .tail _ (.tail _ (.tail _ hq))
    refine rest_inv _ (fun i zs nw => Hold (∃ tl2, nw = tl2 ++ L0 ∧ (∀ q ∈ tl2, ∀ p ∈ L0, p.1 ≠ q.1) ∧ RowsAre (tl2 ++ tl) zs ((ys.take i).map toRow))) ?_ ?_ _ 0 [] _ (Nat.zero_add _) ⟨[], rfl, (fun _ h => nomatch h), RowsAre.nil⟩
    · intro i zs nw v I oI C oC D m2 h3 tk3 E3 hi ⟨tl2, hnw, hfr2, hrows⟩ hv hC hx F3 N3 off3 ne3
      have in0 : ∀ q ∈ L0, q ∈ nw := by subst hnw; exact fun q hq => List.mem_append_right _ hq
      have hi' : i < ys.length := by simpa using hi
      have ev : v = .ref (ys[i]).2.1 := by simp [hi'] at hv; exact hv.symm
      subst ev
      have hmem : ys[i] ∈ xs := hperm.mem_iff.mp (List.getElem_mem hi')
      obtain ⟨c, u1, u2, u3, nn, ek, hkm, hok, kk, tkk, ecount, hk1, hk5⟩ := hT.keys _ hmem
      have nD := in0 _ inD
      have nC := in0 _ inC
      have nB := in0 _ inB
      have nK := in0 _ (inK _ (List.mem_append_right _ hkm))
      clear F1 N1 F2 N2 hfr l2
      k_extra "P3 my steps"
      (rename News _ _ _ _ => kN)
      refine tab_item (kn := tl) (by ktr_units) kN (by k_mem) (fun q hq => .tail _ (.tail _ (.tail _ (in0 _ (inK q (List.mem_append_right _ hq)))))) hT hmem ek (by k_mem) fun tk4 => ?_
      rw [ecount]
      k_extra "P3 my steps"
      (rename _ ∧ _ ∧ _ ∧ AllLt _ nw => kO)
      subst hnw
      refine ⟨_ :: tl2, rfl, fun q hq p hp => ?_, ?_⟩
      · rcases List.mem_cons.mp hq with rfl | hq
        · exact allLt_out kO.2.2.2 p (List.mem_append_right _ hp)
        · exact hfr2 q hq p hp
      · have e1 : (ys.take (i + 1)).map toRow = (ys.take i).map toRow ++ [toRow ys[i]] := take_map_succ toRow ys i hi'
        rw [e1]
        exact (hrows.mono fun q hq => .tail _ hq).snoc (row_at (.head _) (.tail _ (List.mem_append_right _ hkm)) ek ecount)
    · rintro zs nw ⟨tl2, rfl, hfr2, hrows⟩
      have eT : (ys.take (ys.map fun x => Value.ref x.2.1).toArray.size).map toRow = ys.map toRow := take_map_all _ _ _
      rw [eT] at hrows
      intro D5 h5 tk5 F5 N5 o5
      have o5' := off1_out o5
      k_extra "P3 my steps"
      have memT : ∀ q, q ∈ ((Bq, listOf (ys.map fun x => Value.ref x.2.1).toArray c2) :: (dA, od) :: (tl2 ++ ((LA + 1, oc) :: tl))) ++ g op → q ∈ tl2 ++ L0 := by
        intro q hq
        rw [← hL0]
        simp only [List.mem_append, List.mem_cons, hg] at hq ⊢
        rcases hq with (h | h | h | h | h) | h | h <;> simp [h]
      have memB : ∀ q, q ∈ tl2 ++ tl → q ∈ (Bq, listOf (ys.map fun x => Value.ref x.2.1).toArray c2) :: (dA, od) :: (tl2 ++ ((LA + 1, oc) :: tl)) := by
        intro q hq
        simp only [List.mem_append, List.mem_cons] at hq ⊢
        rcases hq with h | h <;> simp [h]
      refine hret D5 zs zs.length (ys.map toRow) op ((Bq, listOf (ys.map fun x => Value.ref x.2.1).toArray c2) :: (dA, od) :: (tl2 ++ ((LA + 1, oc) :: tl))) _ _ hPo (goodLot_of hT hperm hne hx4) (hrows.mono memB) ?_ (by k_asm) (news_put (by k_asm) (.head _) fun q hq => .tail _ (memT q hq))
      intro q hq p hp
      have hp0 : p ∈ tl2 ++ L0 := memT p (List.mem_append_right _ hp)
      have hp1' : p ∈ L0 := by rw [← hL0]; simp only [hg] at hp; simp only [List.mem_cons, List.mem_append]; rcases hp with h | h <;> simp [h]
      have hpt' : p.1 ≠ Bq ∧ p.1 ≠ dA ∧ p.1 ≠ LA + 1 := by
        rcases (hg _ _).1 hp with rfl | hr
        · exact ⟨Nat.ne_of_lt (l2 _ (.tail _ (.head _))), by k_ne, by k_ne⟩
        · exact ⟨Nat.ne_of_lt (l2 _ (.tail _ (.tail _ (.tail _ (List.mem_append_left _ hr))))), allLt_out kL1.2.2 p hr, allLt_out1 kL0.2 p hr⟩
      rcases List.mem_cons.mp hq with rfl | hq
      · exact o5' p hp0
      rcases List.mem_cons.mp hq with rfl | hq
      · exact hpt'.1
      rcases List.mem_cons.mp hq with rfl | hq
      · exact hpt'.2.1
      rcases List.mem_append.mp hq with hq | hq
      · exact hfr2 q hq p hp1'
      rcases List.mem_cons.mp hq with rfl | hq
      · exact hpt'.2.2
      · rcases (hg _ _).1 hp with rfl | hr
        · exact Ne.symm (hfr q hq).2.1
        · exact (hfr q hq).2.2 p (.tail _ hr)
end
end
section
theorem reg_P4 : True := by
  w_top off
  trivial
section
variable {w : World} {p : Program} {loose : List Str} {mean : ExcName → Option Value} {mg mb : Str → Option Value} {dp un : Nat} {gd : Option (List Code)} {cn : Str} {cs : Scope} {a : Addr} {ccd : Value} {cl : List (Str × Addr)} {outer : List Env} {A₀ : Around} {base h₀ : Heap} {L : Addr} {m : Str → Option Value} {s : Shared} {Q E : Value → Shared → Prop} {news : Led}
theorem places {al : Addr} {vs : List Value} {k : Nat} {rows : List Row} (B : Below A₀ base outer h₀) (F : Fr h₀ L s.heap m) (X : (Mine.hd.heap_39 w.params).In h₀) (N : News h₀ L s.heap news) (T : Top p loose mean mg mb h₀) (hkind : cs.kind = .function) (hdp : dp + 20 < recursionLimit) (hun : un + 200 < cLine) (hm : (al, listOf vs.toArray k) ∈ news) (hR : RowsAre news vs rows) (G : GoodLot rows)
    (hret : ∀ h' tk' t', Fr h₀ L h' m → News h₀ L h' news → Q (.int (manyOf rows) t') { s with heap := h', toks := tk' }) :
    wpAny (model PR w) (ktrTop dp un gd cn cs L a ccd cl outer) (call (.ref 215) [.ref al]) Q E s := by
  have hlen := G.len
  refine wpAny_call ?_
  k_extra "my enter"
  k_extra "my steps"
  k_dflt (refine' rows_ints (fun r => r.2) ?qh ?qF ?qN ?qm ?qr ?qz ?qt ?_; (case qh => with_unfolding_all rfl); (case qF => k_asm); (case qN => k_asm); (case qm => k_mem); (case qr => first | assumption | (refine' RowsAre.mono ?qs ?qt2; (case qt2 => assumption); (case qs => k_extra "my sub"))); (case qz => omega); (case qt => (intro r' ta' tm' nt' ca' u1' u2' u3' nc' I' oI' C' oC' D' ys' m' g' h' tk' E' hr' ht' hca' hC' hx' hy' F' N'; k_extra "my steps"; k_extra "my same"))); intro ys' g' hI' hl'
  k_extra "my steps"
  exact hret _ _ _ (by k_asm) (news_sub (by k_asm) (by k_extra "my sub"))
end
end
section
theorem reg_P5 : True := by
  w_top off
  trivial
section
variable {w : World} {p : Program} {loose : List Str} {mean : ExcName → Option Value} {mg mb : Str → Option Value} {dp un : Nat} {gd : Option (List Code)} {cn : Str} {cs : Scope} {a : Addr} {ccd : Value} {cl : List (Str × Addr)} {outer : List Env} {A₀ : Around} {base h₀ : Heap} {L : Addr} {m : Str → Option Value} {s : Shared} {Q E : Value → Shared → Prop} {news : Led}
theorem box {al : Addr} {vs : List Value} {k : Nat} {rows : List Row} (B : Below A₀ base outer h₀) (F : Fr h₀ L s.heap m) (X : (Mine.hd.heap_39 w.params).In h₀) (N : News h₀ L s.heap news) (T : Top p loose mean mg mb h₀) (hkind : cs.kind = .function) (hdp : dp + 30 < recursionLimit) (hun : un + 300 < cLine) (hm : (al, listOf vs.toArray k) ∈ news) (hR : RowsAre news vs rows) (G : GoodLot rows)
    (hret : ∀ x dx la ha t1 t2 t3 n u0 u1 u2 u3 u4 u5 h' tk', Fr h₀ L h' m → News h₀ L h' ((x, instObj 96 dx) :: (dx, boxD w al la ha t1 t2 t3 n) :: (la, int3 (lowOf 0 rows) (lowOf 1 rows) (lowOf 2 rows) u0 u1 u2) :: (ha, int3 (highOf 0 rows) (highOf 1 rows) (highOf 2 rows) u3 u4 u5) :: news) →
      (∀ q ∈ news, q.1 ≠ x ∧ q.1 ≠ dx ∧ q.1 ≠ la ∧ q.1 ≠ ha) → Q (.ref x) { s with heap := h', toks := tk' }) :
    wpAny (model PR w) (ktrTop dp un gd cn cs L a ccd cl outer) (call (.ref 96) [.ref al]) Q E s := by
  have hlen := G.len
  have hpos : 0 < rows.length := List.length_pos_iff.mpr G.ne
  k_dflt (refine' call_cls (fI := 71) ?k1 ?k2 ?k3 ?k4 ?k5 ?k6 ?_; (case k1 => k_asm); (case k2 => k_asm); (case k3 => k_asm); (case k4 => k_is); (case k5 => k_is); (case k6 => k_is); k_whole)
  intro x' d' h' F' N' l1 l2
  (try k_lt l1); (try k_lt2 l2)
  have b1 := l1
  have b2 := l2
  (try k_sweep)
  k_extra "my enterC"
  k_extra "my steps"
  k_dflt (refine' cell_ints (lowOf 0 rows) (lowOf 1 rows) (lowOf 2 rows) ?qh ?qF ?qN ?qr ?qb ?qt ?_; (case qh => with_unfolding_all rfl); (case qF => k_asm); (case qN => k_asm); (case qr => assumption); (case qb => rfl); (case qt => (intro i' f' hif' ti' I' oI' C' oC' X' oX' D' ys' m' g' h' tk' E' hC' hX' F' N'; rcases hif' with ⟨rfl, rfl⟩ | ⟨rfl, rfl⟩ | ⟨rfl, rfl⟩; (focus (k_extra "my steps"; k_dflt (refine' rows_ints (fun r => prt 0 r.1) ?qh ?qF ?qN ?qm ?qr ?qz ?qt ?_; (case qh => with_unfolding_all rfl); (case qF => k_asm); (case qN => k_asm); (case qm => k_mem); (case qr => first | assumption | (refine' RowsAre.mono ?qs ?qt2; (case qt2 => assumption); (case qs => k_extra "my sub"))); (case qz => omega); (case qt => (intro r' ta' tm' nt' ca' u1' u2' u3' nc' I' oI' C' oC' D' ys' m' g' h' tk' E' hr' ht' hca' hC' hx' hy' F' N'; k_extra "my steps"; k_extra "my same"))); intro ys' g' hI' hl'; k_extra "my steps"; k_extra "my same")); (focus (k_extra "my steps"; k_dflt (refine' rows_ints (fun r => prt 1 r.1) ?qh ?qF ?qN ?qm ?qr ?qz ?qt ?_; (case qh => with_unfolding_all rfl); (case qF => k_asm); (case qN => k_asm); (case qm => k_mem); (case qr => first | assumption | (refine' RowsAre.mono ?qs ?qt2; (case qt2 => assumption); (case qs => k_extra "my sub"))); (case qz => omega); (case qt => (intro r' ta' tm' nt' ca' u1' u2' u3' nc' I' oI' C' oC' D' ys' m' g' h' tk' E' hr' ht' hca' hC' hx' hy' F' N'; k_extra "my steps"; k_extra "my same"))); intro ys' g' hI' hl'; k_extra "my steps"; k_extra "my same")); (focus (k_extra "my steps"; k_dflt (refine' rows_ints (fun r => prt 2 r.1) ?qh ?qF ?qN ?qm ?qr ?qz ?qt ?_; (case qh => with_unfolding_all rfl); (case qF => k_asm); (case qN => k_asm); (case qm => k_mem); (case qr => first | assumption | (refine' RowsAre.mono ?qs ?qt2; (case qt2 => assumption); (case qs => k_extra "my sub"))); (case qz => omega); (case qt => (intro r' ta' tm' nt' ca' u1' u2' u3' nc' I' oI' C' oC' D' ys' m' g' h' tk' E' hr' ht' hca' hC' hx' hy' F' N'; k_extra "my steps"; k_extra "my same"))); intro ys' g' hI' hl'; k_extra "my steps"; k_extra "my same"))))); intro ys' g' hI'
  have hlow := hI'
  clear hI'
  k_extra "my steps"
  k_dflt (refine' cell_ints (highOf 0 rows) (highOf 1 rows) (highOf 2 rows) ?qh ?qF ?qN ?qr ?qb ?qt ?_; (case qh => with_unfolding_all rfl); (case qF => k_asm); (case qN => k_asm); (case qr => assumption); (case qb => rfl); (case qt => (intro i' f' hif' ti' I' oI' C' oC' X' oX' D' ys' m' g' h' tk' E' hC' hX' F' N'; rcases hif' with ⟨rfl, rfl⟩ | ⟨rfl, rfl⟩ | ⟨rfl, rfl⟩; (focus (k_extra "my steps"; k_dflt (refine' rows_ints (fun r => prt 0 r.1) ?qh ?qF ?qN ?qm ?qr ?qz ?qt ?_; (case qh => with_unfolding_all rfl); (case qF => k_asm); (case qN => k_asm); (case qm => k_mem); (case qr => first | assumption | (refine' RowsAre.mono ?qs ?qt2; (case qt2 => assumption); (case qs => k_extra "my sub"))); (case qz => omega); (case qt => (intro r' ta' tm' nt' ca' u1' u2' u3' nc' I' oI' C' oC' D' ys' m' g' h' tk' E' hr' ht' hca' hC' hx' hy' F' N'; k_extra "my steps"; k_extra "my same"))); intro ys' g' hI' hl'; k_extra "my steps"; k_extra "my same")); (focus (k_extra "my steps"; k_dflt (refine' rows_ints (fun r => prt 1 r.1) ?qh ?qF ?qN ?qm ?qr ?qz ?qt ?_; (case qh => with_unfolding_all rfl); (case qF => k_asm); (case qN => k_asm); (case qm => k_mem); (case qr => first | assumption | (refine' RowsAre.mono ?qs ?qt2; (case qt2 => assumption); (case qs => k_extra "my sub"))); (case qz => omega); (case qt => (intro r' ta' tm' nt' ca' u1' u2' u3' nc' I' oI' C' oC' D' ys' m' g' h' tk' E' hr' ht' hca' hC' hx' hy' F' N'; k_extra "my steps"; k_extra "my same"))); intro ys' g' hI' hl'; k_extra "my steps"; k_extra "my same")); (focus (k_extra "my steps"; k_dflt (refine' rows_ints (fun r => prt 2 r.1) ?qh ?qF ?qN ?qm ?qr ?qz ?qt ?_; (case qh => with_unfolding_all rfl); (case qF => k_asm); (case qN => k_asm); (case qm => k_mem); (case qr => first | assumption | (refine' RowsAre.mono ?qs ?qt2; (case qt2 => assumption); (case qs => k_extra "my sub"))); (case qz => omega); (case qt => (intro r' ta' tm' nt' ca' u1' u2' u3' nc' I' oI' C' oC' D' ys' m' g' h' tk' E' hr' ht' hca' hC' hx' hy' F' N'; k_extra "my steps"; k_extra "my same"))); intro ys' g' hI' hl'; k_extra "my steps"; k_extra "my same"))))); intro ys' g' hI'
  k_extra "my steps"
  obtain ⟨u0, u1, u2, rfl⟩ := ints3 hlow
  obtain ⟨u3, u4, u5, rfl⟩ := ints3 hI'
  (rename News h₀ _ _ _ => kN); (rename Fr h₀ _ _ _ => kF)
  (rename _ ∧ _ ∧ _ ∧ _ ∧ Off1 _ news => o2); (rename _ ∧ _ ∧ _ ∧ Off1 _ news => o1)
  refine hret x' d' _ _ _ _ _ _ u0 u1 u2 u3 u4 u5 _ _ kF (news_box kN) ?_
  · intro q hq
    have b := b1 q hq
    exact ⟨Nat.ne_of_lt (Nat.lt_trans b b2), Nat.ne_of_lt b, off1_out o1.2.2.2 q hq, off1_out o2.2.2.2.2 q hq⟩
end
end
section
theorem reg_P6 : True := by
  w_top off
  trivial
section
variable {w : World} {p : Program} {loose : List Str} {mean : ExcName → Option Value} {mg mb : Str → Option Value} {dp un : Nat} {gd : Option (List Code)} {cn : Str} {cs : Scope} {a : Addr} {ccd : Value} {cl : List (Str × Addr)} {outer : List Env} {A₀ : Around} {base h₀ : Heap} {L : Addr} {m : Str → Option Value} {s : Shared} {Q E : Value → Shared → Prop} {news : Led}
theorem box_many {al : Addr} {vs : List Value} {k : Nat} {rows : List Row} {x dx la ha : Addr} {b1 b2 b3 c0 c1 c2 c3 c4 c5 : Tok} {bn : Nat} (B : Below A₀ base outer h₀) (F : Fr h₀ L s.heap m) (X : (Mine.hd.heap_39 w.params).In h₀) (N : News h₀ L s.heap news) (T : Top p loose mean mg mb h₀) (hkind : cs.kind = .function) (hdp : dp + 30 < recursionLimit) (hun : un + 300 < cLine) (hm : (al, listOf vs.toArray k) ∈ news) (hR : RowsAre news vs rows) (G : GoodLot rows) (hx : (x, instObj 96 dx) ∈ news) (hdx : (dx, boxD w al la ha b1 b2 b3 bn) ∈ news) (hla : (la, int3 (lowOf 0 rows) (lowOf 1 rows) (lowOf 2 rows) c0 c1 c2) ∈ news) (hha : (ha, int3 (highOf 0 rows) (highOf 1 rows) (highOf 2 rows) c3 c4 c5) ∈ news)
    (hret : ∀ h' tk' t', Fr h₀ L h' m → News h₀ L h' news → Q (.int (manyOf rows) t') { s with heap := h', toks := tk' }) :
    wpAny (model PR w) (ktrTop dp un gd cn cs L a ccd cl outer) (call (.ref 76) [.ref x]) Q E s := by
  have hlen := G.len
  refine wpAny_call ?_
  k_extra "my enter"
  k_extra "my steps"
  k_dflt (refine' rows_ints (fun r => r.2) ?qh ?qF ?qN ?qm ?qr ?qz ?qt ?_; (case qh => with_unfolding_all rfl); (case qF => k_asm); (case qN => k_asm); (case qm => k_mem); (case qr => first | assumption | (refine' RowsAre.mono ?qs ?qt2; (case qt2 => assumption); (case qs => k_extra "my sub"))); (case qz => omega); (case qt => (intro r' ta' tm' nt' ca' u1' u2' u3' nc' I' oI' C' oC' D' ys' m' g' h' tk' E' hr' ht' hca' hC' hx' hy' F' N'; k_extra "my steps"; k_extra "my same"))); intro ys' g' hI' hl'
  k_extra "my steps"
  exact hret _ _ _ (by k_asm) (news_sub (by k_asm) (by k_extra "my sub"))
theorem box_spread {al : Addr} {vs : List Value} {k : Nat} {rows : List Row} {x dx la ha : Addr} {b1 b2 b3 c0 c1 c2 c3 c4 c5 : Tok} {bn : Nat} (B : Below A₀ base outer h₀) (F : Fr h₀ L s.heap m) (X : (Mine.hd.heap_39 w.params).In h₀) (N : News h₀ L s.heap news) (T : Top p loose mean mg mb h₀) (hkind : cs.kind = .function) (hdp : dp + 30 < recursionLimit) (hun : un + 300 < cLine) (hm : (al, listOf vs.toArray k) ∈ news) (hR : RowsAre news vs rows) (G : GoodLot rows) (hx : (x, instObj 96 dx) ∈ news) (hdx : (dx, boxD w al la ha b1 b2 b3 bn) ∈ news) (hla : (la, int3 (lowOf 0 rows) (lowOf 1 rows) (lowOf 2 rows) c0 c1 c2) ∈ news) (hha : (ha, int3 (highOf 0 rows) (highOf 1 rows) (highOf 2 rows) c3 c4 c5) ∈ news)
    (hret : ∀ h' tk' t', Fr h₀ L h' m → News h₀ L h' news → Q (.int ((2 * (highOf 0 rows - lowOf 0 rows)) ^ 2 + ((3 * (highOf 1 rows - lowOf 1 rows)) ^ 2 + ((1 * (highOf 2 rows - lowOf 2 rows)) ^ 2 + 0))) t') { s with heap := h', toks := tk' }) :
    wpAny (model PR w) (ktrTop dp un gd cn cs L a ccd cl outer) (call (.ref 81) [.ref x]) Q E s := by
  have hlen := G.len
  have hb0 := low_ok G 0
  have hb1 := low_ok G 1
  have hb2 := low_ok G 2
  refine wpAny_call ?_
  k_extra "my enterC"
  k_extra "my steps"
  k_dflt (refine' rng_ints ((2 * (highOf 0 rows - lowOf 0 rows)) ^ 2) ((3 * (highOf 1 rows - lowOf 1 rows)) ^ 2) ((1 * (highOf 2 rows - lowOf 2 rows)) ^ 2) ?qh ?qF ?qN ?qr ?qb ?qt ?_; (case qh => with_unfolding_all rfl); (case qF => k_asm); (case qN => k_asm); (case qr => assumption); (case qb => rfl); (case qt => (intro i' f' hif' ti' I' oI' C' oC' D' ys' m' g' h' tk' E' hC' hX' F' N'; rcases hif' with ⟨rfl, rfl⟩ | ⟨rfl, rfl⟩ | ⟨rfl, rfl⟩; (focus (k_extra "my steps"; k_extra "my same")); (focus (k_extra "my steps"; k_extra "my same")); (focus (k_extra "my steps"; k_extra "my same"))))); intro ys' g' hI'
  k_extra "my steps"
  exact hret _ _ _ (by k_asm) (news_sub (by k_asm) (by k_extra "my sub"))
end
end
section
theorem reg_P7 : True := by
  w_top off
  k_with "P7 my tail" =>
    first | assumption | (refine off1_out ?_; k_extra "my dig") | (refine allLt_out ?_; k_extra "my dig") | (refine allLt_out1 ?_; k_extra "my dig") | (refine allLt_out2 ?_; k_extra "my dig") | (refine allLt_out3 ?_; k_extra "my dig")
  k_with "P7 k_all" =>
    k_extra "P7 my tail"
  k_with "P7 my all" =>
    first | exact List.forall_mem_nil _ | (refine' List.forall_mem_cons.mpr ⟨?aa, ?bb⟩; (case aa => k_ne); (case bb => k_extra "P7 my all")) | k_extra "P7 my tail"
  k_with "P7 my tupT" =>
    (k_dflt (refine' iter_tupTurns (vs := [_, _]) ?qh ?qF ?qN ?qm ?qc ?qd ?_; (case qh => with_unfolding_all rfl); (case qF => k_asm); (case qN => k_asm); (case qm => k_mem); (case qc => rfl); (case qd => rfl)); intro i' l1; (try k_lt l1))
  k_with "P7 my rngT" =>
    (k_dflt (refine' iter_rng3 ?qh ?qF ?qN ?qr ?qb ?_; (case qh => with_unfolding_all rfl); (case qF => k_asm); (case qN => k_asm); (case qr => assumption); (case qb => rfl)); intro i' l1; (try k_lt l1))
  k_with "P7 pyIter ref" =>
    (k_here; (with_reducible show wpAny _ _ (pyIter (Value.ref _)) (fun it s₂ => TurnsAt _ _ _ _ _ _ _ _ _ it s₂) _ _); first | k_extra "P7 my rngT" | k_extra "P7 my tupT")
  k_with "P7 UnrEndW" =>
    (k_dflt (refine' unrEnd_my ?qF ?qN ?qm ?qo ?_; (case qF => k_asm); (case qN => k_asm); (case qm => k_extra "my minus"); (case qo => k_extra "P7 my all")); refine' And.intro ?qK ?_; (case qK => first | exact trivial | exact ⟨by k_mem, trivial⟩))
  k_with "P7 exec For Name Call cons nil" =>
    (k_here; (rename Fr _ _ _ _ => lF'); (with_unfolding_all refine' For_turns lF' ?_; k_whole))
  k_with "P7 my tail" =>
    first | assumption | (refine fLt_out ?_; assumption) | (refine fLt_out1 ?_; assumption) | (refine fLt_out2 ?_; assumption) | (refine fLt_out3 ?_; assumption)
  trivial
local macro_rules | `(tactic| k_all) => `(tactic| k_extra "P7 k_all")
local macro_rules | `(tactic| k_extra "own pyIter ref") => `(tactic| k_extra "P7 pyIter ref")
local macro_rules | `(tactic| k_extra "own UnrEndW") => `(tactic| k_extra "P7 UnrEndW")
local macro_rules | `(tactic| k_extra "own exec For Name Call cons nil") => `(tactic| k_extra "P7 exec For Name Call cons nil")
section
variable {w : World} {p : Program} {loose : List Str} {mean : ExcName → Option Value} {mg mb : Str → Option Value} {dp un : Nat} {gd : Option (List Code)} {cn : Str} {cs : Scope} {a : Addr} {ccd : Value} {cl : List (Str × Addr)} {outer : List Env} {A₀ : Around} {base h₀ : Heap} {L : Addr} {m : Str → Option Value} {s : Shared} {Q E : Value → Shared → Prop} {news : Led}
theorem box_longest {al : Addr} {vs : List Value} {k : Nat} {rows : List Row} {x dx la ha : Addr} {b1 b2 b3 c0 c1 c2 c3 c4 c5 : Tok} {bn : Nat} (B : Below A₀ base outer h₀) (F : Fr h₀ L s.heap m) (X : (Mine.hd.heap_39 w.params).In h₀) (N : News h₀ L s.heap news) (T : Top p loose mean mg mb h₀) (hkind : cs.kind = .function) (hdp : dp + 30 < recursionLimit) (hun : un + 300 < cLine) (hm : (al, listOf vs.toArray k) ∈ news) (hR : RowsAre news vs rows) (G : GoodLot rows) (hx : (x, instObj 96 dx) ∈ news) (hdx : (dx, boxD w al la ha b1 b2 b3 bn) ∈ news) (hla : (la, int3 (lowOf 0 rows) (lowOf 1 rows) (lowOf 2 rows) c0 c1 c2) ∈ news) (hha : (ha, int3 (highOf 0 rows) (highOf 1 rows) (highOf 2 rows) c3 c4 c5) ∈ news)
    (hret : ∀ h' tk' t', Fr h₀ L h' m → News h₀ L h' news → Q (.int ((longOf rows : Nat)) t') { s with heap := h', toks := tk' }) :
    wpAny (model PR w) (ktrTop dp un gd cn cs L a ccd cl outer) (call (.ref 88) [.ref x]) Q E s := by
  have hlen := G.len
  have hb0 := low_ok G 0
  have hb1 := low_ok G 1
  have hb2 := low_ok G 2
  refine wpAny_call ?_
  k_extra "my enter"
  k_extra "my steps"
  all_goals (first | (have e : ((longOf rows : Nat) : Int) = 0 := (by simp only [longOf, sideOf]; (repeat' split) <;> omega); rw [e] at hret; exact hret _ _ _ (by k_asm) (news_sub (by k_asm) (by k_extra "my sub"))) | (have e : ((longOf rows : Nat) : Int) = 1 := (by simp only [longOf, sideOf]; (repeat' split) <;> omega); rw [e] at hret; exact hret _ _ _ (by k_asm) (news_sub (by k_asm) (by k_extra "my sub"))) | (have e : ((longOf rows : Nat) : Int) = 2 := (by simp only [longOf, sideOf]; (repeat' split) <;> omega); rw [e] at hret; exact hret _ _ _ (by k_asm) (news_sub (by k_asm) (by k_extra "my sub"))))
end
end
section
theorem reg_P8 : True := by
  w_top off
  k_with "P8 my tail" =>
    first | assumption | (refine off1_out ?_; k_extra "my dig") | (refine allLt_out ?_; k_extra "my dig") | (refine allLt_out1 ?_; k_extra "my dig") | (refine allLt_out2 ?_; k_extra "my dig") | (refine allLt_out3 ?_; k_extra "my dig")
  k_with "P8 k_all" =>
    k_extra "P8 my tail"
  k_with "P8 my all" =>
    first | exact List.forall_mem_nil _ | (refine' List.forall_mem_cons.mpr ⟨?aa, ?bb⟩; (case aa => k_ne); (case bb => k_extra "P8 my all")) | k_extra "P8 my tail"
  k_with "P8 my tupT" =>
    (k_dflt (refine' iter_tupTurns (vs := [_, _]) ?qh ?qF ?qN ?qm ?qc ?qd ?_; (case qh => with_unfolding_all rfl); (case qF => k_asm); (case qN => k_asm); (case qm => k_mem); (case qc => rfl); (case qd => rfl)); intro i' l1; (try k_lt l1))
  k_with "P8 my rngT" =>
    (k_dflt (refine' iter_rng3 ?qh ?qF ?qN ?qr ?qb ?_; (case qh => with_unfolding_all rfl); (case qF => k_asm); (case qN => k_asm); (case qr => assumption); (case qb => rfl)); intro i' l1; (try k_lt l1))
  k_with "P8 pyIter ref" =>
    (k_here; (with_reducible show wpAny _ _ (pyIter (Value.ref _)) (fun it s₂ => TurnsAt _ _ _ _ _ _ _ _ _ it s₂) _ _); first | k_extra "P8 my rngT" | k_extra "P8 my tupT")
  k_with "P8 UnrEndW" =>
    (k_dflt (refine' unrEnd_my ?qF ?qN ?qm ?qo ?_; (case qF => k_asm); (case qN => k_asm); (case qm => k_extra "my minus"); (case qo => k_extra "P8 my all")); refine' And.intro ?qK ?_; (case qK => first | exact trivial | exact ⟨by k_mem, trivial⟩))
  k_with "P8 exec For Name Call cons nil" =>
    (k_here; (rename Fr _ _ _ _ => lF'); (with_unfolding_all refine' For_turns lF' ?_; k_whole))
  k_with "P8 my tail" =>
    first | assumption | (refine fLt_out ?_; assumption) | (refine fLt_out1 ?_; assumption) | (refine fLt_out2 ?_; assumption) | (refine fLt_out3 ?_; assumption)
  k_with "P8 call ref" =>
    (k_here; k_dflt (refine' box_many ?B ?F ?X ?N ?T ?kk ?dp ?un ?qm ?qr ?qG ?qx ?qd ?ql ?qh ?_; k_extra "my sit"; (case qx => k_mem); (case qd => k_mem); (case ql => k_mem); (case qh => k_mem); (case qm => k_mem); (case qr => first | assumption | (refine' RowsAre.mono ?qs ?qt2; (case qt2 => assumption); (case qs => k_extra "my sub"))); (case qG => assumption); k_whole); intro h' tk' t' F' N'; (try k_sweep); (try k_fold))
  trivial
local macro_rules | `(tactic| k_all) => `(tactic| k_extra "P8 k_all")
local macro_rules | `(tactic| k_extra "own pyIter ref") => `(tactic| k_extra "P8 pyIter ref")
local macro_rules | `(tactic| k_extra "own UnrEndW") => `(tactic| k_extra "P8 UnrEndW")
local macro_rules | `(tactic| k_extra "own exec For Name Call cons nil") => `(tactic| k_extra "P8 exec For Name Call cons nil")
local macro_rules | `(tactic| k_extra "own call ref") => `(tactic| k_extra "P8 call ref")
section
variable {w : World} {p : Program} {loose : List Str} {mean : ExcName → Option Value} {mg mb : Str → Option Value} {dp un : Nat} {gd : Option (List Code)} {cn : Str} {cs : Scope} {a : Addr} {ccd : Value} {cl : List (Str × Addr)} {outer : List Env} {A₀ : Around} {base h₀ : Heap} {L : Addr} {m : Str → Option Value} {s : Shared} {Q E : Value → Shared → Prop} {news : Led}
theorem box_mean {al : Addr} {vs : List Value} {k : Nat} {rows : List Row} {x dx la ha : Addr} {b1 b2 b3 c0 c1 c2 c3 c4 c5 : Tok} {bn : Nat} (B : Below A₀ base outer h₀) (F : Fr h₀ L s.heap m) (X : (Mine.hd.heap_39 w.params).In h₀) (N : News h₀ L s.heap news) (T : Top p loose mean mg mb h₀) (hkind : cs.kind = .function) (hdp : dp + 50 < recursionLimit) (hun : un + 500 < cLine) (hm : (al, listOf vs.toArray k) ∈ news) (hR : RowsAre news vs rows) (G : GoodLot rows) (hx : (x, instObj 96 dx) ∈ news) (hdx : (dx, boxD w al la ha b1 b2 b3 bn) ∈ news) (hla : (la, int3 (lowOf 0 rows) (lowOf 1 rows) (lowOf 2 rows) c0 c1 c2) ∈ news) (hha : (ha, int3 (highOf 0 rows) (highOf 1 rows) (highOf 2 rows) c3 c4 c5) ∈ news)
    (hret : ∀ t n u0 u1 u2 h' tk', Fr h₀ L h' m → News h₀ L h' ((t, tupObj #[.int (meanOf 0 rows) u0, .int (meanOf 1 rows) u1, .int (meanOf 2 rows) u2] n) :: news) → (∀ q ∈ news, q.1 ≠ t) → Q (.ref t) { s with heap := h', toks := tk' }) :
    wpAny (model PR w) (ktrTop dp un gd cn cs L a ccd cl outer) (call (.ref 93) [.ref x]) Q E s := by
  have hlen := G.len
  have hb0 := low_ok G 0
  have hb1 := low_ok G 1
  have hb2 := low_ok G 2
  have hmany := many_ok G
  refine wpAny_call ?_
  k_extra "my enterC"
  k_extra "my steps"
  k_dflt (refine' rows_ints (fun r => prt 0 r.1 * r.2) ?qh ?qF ?qN ?qm ?qr ?qz ?qt ?_; (case qh => with_unfolding_all rfl); (case qF => k_asm); (case qN => k_asm); (case qm => k_mem); (case qr => first | assumption | (refine' RowsAre.mono ?qs ?qt2; (case qt2 => assumption); (case qs => k_extra "my sub"))); (case qz => omega); (case qt => (intro r' ta' tm' nt' ca' u1' u2' u3' nc' I' oI' C' oC' D' ys' m' g' h' tk' E' hr' ht' hca' hC' hx' hy' F' N'; obtain ⟨⟨⟨e1, e2⟩, ⟨e3, e4⟩, ⟨e5, e6⟩⟩, e7, e8⟩ := G.ok r' hr'; k_extra "my steps"; k_extra "my same"))); intro ys' g' hI' hl'
  k_extra "my steps"
  k_dflt (refine' rows_ints (fun r => prt 1 r.1 * r.2) ?qh ?qF ?qN ?qm ?qr ?qz ?qt ?_; (case qh => with_unfolding_all rfl); (case qF => k_asm); (case qN => k_asm); (case qm => k_mem); (case qr => first | assumption | (refine' RowsAre.mono ?qs ?qt2; (case qt2 => assumption); (case qs => k_extra "my sub"))); (case qz => omega); (case qt => (intro r' ta' tm' nt' ca' u1' u2' u3' nc' I' oI' C' oC' D' ys' m' g' h' tk' E' hr' ht' hca' hC' hx' hy' F' N'; obtain ⟨⟨⟨e1, e2⟩, ⟨e3, e4⟩, ⟨e5, e6⟩⟩, e7, e8⟩ := G.ok r' hr'; k_extra "my steps"; k_extra "my same"))); intro ys' g' hI' hl'
  k_extra "my steps"
  k_dflt (refine' rows_ints (fun r => prt 2 r.1 * r.2) ?qh ?qF ?qN ?qm ?qr ?qz ?qt ?_; (case qh => with_unfolding_all rfl); (case qF => k_asm); (case qN => k_asm); (case qm => k_mem); (case qr => first | assumption | (refine' RowsAre.mono ?qs ?qt2; (case qt2 => assumption); (case qs => k_extra "my sub"))); (case qz => omega); (case qt => (intro r' ta' tm' nt' ca' u1' u2' u3' nc' I' oI' C' oC' D' ys' m' g' h' tk' E' hr' ht' hca' hC' hx' hy' F' N'; obtain ⟨⟨⟨e1, e2⟩, ⟨e3, e4⟩, ⟨e5, e6⟩⟩, e7, e8⟩ := G.ok r' hr'; k_extra "my steps"; k_extra "my same"))); intro ys' g' hI' hl'
  k_extra "my steps"
  (rename News h₀ _ _ _ => kN); (rename Fr h₀ _ _ _ => kF)
  refine hret _ _ _ _ _ _ _ kF (news_put kN (.head _) (by k_extra "my sub")) (by k_extra "P8 my tail")
end
end
section
theorem reg_P9 : True := by
  w_top off
  k_with "P9 my tail" =>
    first | assumption | (refine off1_out ?_; k_extra "my dig") | (refine allLt_out ?_; k_extra "my dig") | (refine allLt_out1 ?_; k_extra "my dig") | (refine allLt_out2 ?_; k_extra "my dig") | (refine allLt_out3 ?_; k_extra "my dig")
  k_with "P9 k_all" =>
    k_extra "P9 my tail"
  k_with "P9 my all" =>
    first | exact List.forall_mem_nil _ | (refine' List.forall_mem_cons.mpr ⟨?aa, ?bb⟩; (case aa => k_ne); (case bb => k_extra "P9 my all")) | k_extra "P9 my tail"
  k_with "P9 my tupT" =>
    (k_dflt (refine' iter_tupTurns (vs := [_, _]) ?qh ?qF ?qN ?qm ?qc ?qd ?_; (case qh => with_unfolding_all rfl); (case qF => k_asm); (case qN => k_asm); (case qm => k_mem); (case qc => rfl); (case qd => rfl)); intro i' l1; (try k_lt l1))
  k_with "P9 my rngT" =>
    (k_dflt (refine' iter_rng3 ?qh ?qF ?qN ?qr ?qb ?_; (case qh => with_unfolding_all rfl); (case qF => k_asm); (case qN => k_asm); (case qr => assumption); (case qb => rfl)); intro i' l1; (try k_lt l1))
  k_with "P9 pyIter ref" =>
    (k_here; (with_reducible show wpAny _ _ (pyIter (Value.ref _)) (fun it s₂ => TurnsAt _ _ _ _ _ _ _ _ _ it s₂) _ _); first | k_extra "P9 my rngT" | k_extra "P9 my tupT")
  k_with "P9 UnrEndW" =>
    (k_dflt (refine' unrEnd_my ?qF ?qN ?qm ?qo ?_; (case qF => k_asm); (case qN => k_asm); (case qm => k_extra "my minus"); (case qo => k_extra "P9 my all")); refine' And.intro ?qK ?_; (case qK => first | exact trivial | exact ⟨by k_mem, trivial⟩))
  k_with "P9 exec For Name Call cons nil" =>
    (k_here; (rename Fr _ _ _ _ => lF'); (with_unfolding_all refine' For_turns lF' ?_; k_whole))
  k_with "P9 my tail" =>
    first | assumption | (refine fLt_out ?_; assumption) | (refine fLt_out1 ?_; assumption) | (refine fLt_out2 ?_; assumption) | (refine fLt_out3 ?_; assumption)
  k_with "P9 call ref" =>
    (k_here; k_dflt (refine' places ?B ?F ?X ?N ?T ?kk ?dp ?un ?qm ?qr ?qG ?_; k_extra "my sit"; (case qm => k_mem); (case qr => first | assumption | (refine' RowsAre.mono ?qs ?qt2; (case qt2 => assumption); (case qs => k_extra "my sub"))); (case qG => assumption); k_whole); intro h' tk' t' F' N'; (try k_sweep); (try k_fold))
  trivial
local macro_rules | `(tactic| k_all) => `(tactic| k_extra "P9 k_all")
local macro_rules | `(tactic| k_extra "own pyIter ref") => `(tactic| k_extra "P9 pyIter ref")
local macro_rules | `(tactic| k_extra "own UnrEndW") => `(tactic| k_extra "P9 UnrEndW")
local macro_rules | `(tactic| k_extra "own exec For Name Call cons nil") => `(tactic| k_extra "P9 exec For Name Call cons nil")
local macro_rules | `(tactic| k_extra "own call ref") => `(tactic| k_extra "P9 call ref")
section
variable {w : World} {p : Program} {loose : List Str} {mean : ExcName → Option Value} {mg mb : Str → Option Value} {dp un : Nat} {gd : Option (List Code)} {cn : Str} {cs : Scope} {a : Addr} {ccd : Value} {cl : List (Str × Addr)} {outer : List Env} {A₀ : Around} {base h₀ : Heap} {L : Addr} {m : Str → Option Value} {s : Shared} {Q E : Value → Shared → Prop} {news : Led}
theorem law_mean {al : Addr} {vs : List Value} {k : Nat} {rows : List Row} (B : Below A₀ base outer h₀) (F : Fr h₀ L s.heap m) (X : (Mine.hd.heap_39 w.params).In h₀) (N : News h₀ L s.heap news) (T : Top p loose mean mg mb h₀) (hkind : cs.kind = .function) (hdp : dp + 50 < recursionLimit) (hun : un + 500 < cLine) (hm : (al, listOf vs.toArray k) ∈ news) (hR : RowsAre news vs rows) (G : GoodLot rows)
    (hret : ∀ t n u0 u1 u2 h' tk', Fr h₀ L h' m → News h₀ L h' ((t, tupObj #[.int ((2 * (rows.map fun r => prt 0 r.1 * r.2).sum + manyOf rows).fdiv (2 * manyOf rows)) u0, .int ((2 * (rows.map fun r => prt 1 r.1 * r.2).sum + manyOf rows).fdiv (2 * manyOf rows)) u1, .int ((2 * (rows.map fun r => prt 2 r.1 * r.2).sum + manyOf rows).fdiv (2 * manyOf rows)) u2] n) :: news) → (∀ q ∈ news, q.1 ≠ t) → Q (.ref t) { s with heap := h', toks := tk' }) :
    wpAny (model PR w) (ktrTop dp un gd cn cs L a ccd cl outer) (call (.ref 220) [.ref al]) Q E s := by
  have hlen := G.len
  have hb0 := low_ok G 0
  have hb1 := low_ok G 1
  have hb2 := low_ok G 2
  have hmany := many_ok G
  refine wpAny_call ?_
  k_extra "my enterC"
  k_extra "my steps"
  k_dflt (refine' rows_ints (fun r => prt 0 r.1 * r.2) ?qh ?qF ?qN ?qm ?qr ?qz ?qt ?_; (case qh => with_unfolding_all rfl); (case qF => k_asm); (case qN => k_asm); (case qm => k_mem); (case qr => first | assumption | (refine' RowsAre.mono ?qs ?qt2; (case qt2 => assumption); (case qs => k_extra "my sub"))); (case qz => omega); (case qt => (intro r' ta' tm' nt' ca' u1' u2' u3' nc' I' oI' C' oC' D' ys' m' g' h' tk' E' hr' ht' hca' hC' hx' hy' F' N'; obtain ⟨⟨⟨e1, e2⟩, ⟨e3, e4⟩, ⟨e5, e6⟩⟩, e7, e8⟩ := G.ok r' hr'; k_extra "my steps"; k_extra "my same"))); intro ys' g' hI' hl'
  k_extra "my steps"
  k_dflt (refine' rows_ints (fun r => prt 1 r.1 * r.2) ?qh ?qF ?qN ?qm ?qr ?qz ?qt ?_; (case qh => with_unfolding_all rfl); (case qF => k_asm); (case qN => k_asm); (case qm => k_mem); (case qr => first | assumption | (refine' RowsAre.mono ?qs ?qt2; (case qt2 => assumption); (case qs => k_extra "my sub"))); (case qz => omega); (case qt => (intro r' ta' tm' nt' ca' u1' u2' u3' nc' I' oI' C' oC' D' ys' m' g' h' tk' E' hr' ht' hca' hC' hx' hy' F' N'; obtain ⟨⟨⟨e1, e2⟩, ⟨e3, e4⟩, ⟨e5, e6⟩⟩, e7, e8⟩ := G.ok r' hr'; k_extra "my steps"; k_extra "my same"))); intro ys' g' hI' hl'
  k_extra "my steps"
  k_dflt (refine' rows_ints (fun r => prt 2 r.1 * r.2) ?qh ?qF ?qN ?qm ?qr ?qz ?qt ?_; (case qh => with_unfolding_all rfl); (case qF => k_asm); (case qN => k_asm); (case qm => k_mem); (case qr => first | assumption | (refine' RowsAre.mono ?qs ?qt2; (case qt2 => assumption); (case qs => k_extra "my sub"))); (case qz => omega); (case qt => (intro r' ta' tm' nt' ca' u1' u2' u3' nc' I' oI' C' oC' D' ys' m' g' h' tk' E' hr' ht' hca' hC' hx' hy' F' N'; obtain ⟨⟨⟨e1, e2⟩, ⟨e3, e4⟩, ⟨e5, e6⟩⟩, e7, e8⟩ := G.ok r' hr'; k_extra "my steps"; k_extra "my same"))); intro ys' g' hI' hl'
  k_extra "my steps"
  (rename News h₀ _ _ _ => kN); (rename Fr h₀ _ _ _ => kF)
  refine hret _ _ _ _ _ _ _ kF (news_put kN (.head _) (by k_extra "my sub")) (by k_extra "P9 my tail")
end
end
section
theorem reg_P10 : True := by
  w_top off
  k_with "P10 my tail" =>
    first | assumption | (refine off1_out ?_; k_extra "my dig") | (refine allLt_out ?_; k_extra "my dig") | (refine allLt_out1 ?_; k_extra "my dig") | (refine allLt_out2 ?_; k_extra "my dig") | (refine allLt_out3 ?_; k_extra "my dig")
  k_with "P10 k_all" =>
    k_extra "P10 my tail"
  k_with "P10 my steps" =>
    repeat' ((fail_if_success (k_extra "P10 my stop")); (first | (k_unfold; (try dsimp only)) | (k_end; wrow_close) | walk1 | (dsimp only; walk1) | (leave1; walk_say "STEP leave1"; try dsimp only) | fail "no step"))
  k_with "P10 my all" =>
    first | exact List.forall_mem_nil _ | (refine' List.forall_mem_cons.mpr ⟨?aa, ?bb⟩; (case aa => k_ne); (case bb => k_extra "P10 my all")) | k_extra "P10 my tail"
  k_with "P10 my stop" =>
    with_reducible show LCp.SrcLP _ _ _ _ _ _ _ _ _ _ _ _ _ _ _
  k_with "P10 my stop" =>
    with_reducible show LCt.CompSrcT _ _ _ _ _ _ _ _ _ _ _ _ _ _ _
  k_with "P10 my stop" =>
    with_reducible show CompSrc _ _ _ _ _ _ _ _ _ _ _ _ _ _
  k_with "P10 my stop" =>
    with_reducible show CellSrc _ _ _ _ _ _ _ _ _ _ _ _ _ _
  k_with "P10 my pair" =>
    (k_here; k_dflt (refine LCp.ListComp_P (F₀ := by k_asm) (by with_unfolding_all rfl) (by decide) (by rfl) (by decide) (by rfl) (by rfl) (by decide) ?_))
  k_with "P10 eval ListComp" =>
    first | (lcp_look; k_extra "P10 my pair") | (lct_look; k_extra "my test") | ((fail_if_success lcp_look); (fail_if_success lct_look); k_extra "my cell") | ((fail_if_success lcp_look); (fail_if_success lct_look); k_extra "my plain")
  k_with "P10 my tupT" =>
    (k_dflt (refine' iter_tupTurns (vs := [_, _]) ?qh ?qF ?qN ?qm ?qc ?qd ?_; (case qh => with_unfolding_all rfl); (case qF => k_asm); (case qN => k_asm); (case qm => k_mem); (case qc => rfl); (case qd => rfl)); intro i' l1; (try k_lt l1))
  k_with "P10 my rngT" =>
    (k_dflt (refine' iter_rng3 ?qh ?qF ?qN ?qr ?qb ?_; (case qh => with_unfolding_all rfl); (case qF => k_asm); (case qN => k_asm); (case qr => assumption); (case qb => rfl)); intro i' l1; (try k_lt l1))
  k_with "P10 pyIter ref" =>
    (k_here; (with_reducible show wpAny _ _ (pyIter (Value.ref _)) (fun it s₂ => TurnsAt _ _ _ _ _ _ _ _ _ it s₂) _ _); first | k_extra "P10 my rngT" | k_extra "P10 my tupT")
  k_with "P10 UnrEndW" =>
    (k_dflt (refine' unrEnd_my ?qF ?qN ?qm ?qo ?_; (case qF => k_asm); (case qN => k_asm); (case qm => k_extra "my minus"); (case qo => k_extra "P10 my all")); refine' And.intro ?qK ?_; (case qK => first | exact trivial | exact ⟨by k_mem, trivial⟩))
  k_with "P10 exec For Name Call cons nil" =>
    (k_here; (rename Fr _ _ _ _ => lF'); (with_unfolding_all refine' For_turns lF' ?_; k_whole))
  k_with "P10 my tail" =>
    first | assumption | (refine fLt_out ?_; assumption) | (refine fLt_out1 ?_; assumption) | (refine fLt_out2 ?_; assumption) | (refine fLt_out3 ?_; assumption)
  k_with "P10 my stop" =>
    with_reducible show wpAny _ _ (call (Value.builtin "sorted") _) _ _ _
  k_with "P10 my stop" =>
    with_reducible show wpAny _ _ (call (Value.type "zip") _) _ _ _
  k_with "P10 my pair" =>
    (k_here; (with_reducible show wpAny _ _ (eval (PySem.Expr.ListComp _ [⟨_, PySem.Expr.Call _ _ _ _, _, _⟩] _ _) _) _ _ _); k_dflt (refine ListComp_pairs (by k_asm) (by with_unfolding_all rfl) (by decide) (by rfl) (by decide) (by rfl) (by rfl) (by decide) ?_))
  k_with "P10 subscriptTail" =>
    (k_here; (with_reducible show wpAny _ _ (subscriptTail _ _ (Value.ref _) (Value.int 0 _)) _ _ _); k_dflt (refine' my_first ?qN ?qm ?qi ?ql ?qe ?_ ?qs; (case qN => k_asm); (case qm => k_mem); (case qi => assumption); (case qe => assumption); (case ql => omega); (case qs => with_unfolding_all rfl)); intro _)
  k_with "P10 subscriptTail" =>
    (k_here; (with_reducible show wpAny _ _ (subscriptTail _ _ (Value.ref _) (Value.int (-1) _)) _ _ _); k_dflt (refine' my_last ?qN ?qm ?qi ?qn ?ql ?qe ?_ ?qs; (case qN => k_asm); (case qm => k_mem); (case qi => assumption); (case qn => assumption); (case qe => assumption); (case ql => assumption); (case qs => with_unfolding_all rfl)); intro _)
  trivial
local macro_rules | `(tactic| k_all) => `(tactic| k_extra "P10 k_all")
local macro_rules | `(tactic| k_extra "own eval ListComp") => `(tactic| k_extra "P10 eval ListComp")
local macro_rules | `(tactic| k_extra "own pyIter ref") => `(tactic| k_extra "P10 pyIter ref")
local macro_rules | `(tactic| k_extra "own UnrEndW") => `(tactic| k_extra "P10 UnrEndW")
local macro_rules | `(tactic| k_extra "own exec For Name Call cons nil") => `(tactic| k_extra "P10 exec For Name Call cons nil")
local macro_rules | `(tactic| k_extra "own subscriptTail") => `(tactic| k_extra "P10 subscriptTail")
section
variable {w : World} {p : Program} {loose : List Str} {mean : ExcName → Option Value} {mg mb : Str → Option Value} {dp un : Nat} {gd : Option (List Code)} {cn : Str} {cs : Scope} {a : Addr} {ccd : Value} {cl : List (Str × Addr)} {outer : List Env} {A₀ : Around} {base h₀ : Heap} {L : Addr} {m : Str → Option Value} {s : Shared} {Q E : Value → Shared → Prop} {news : Led}
theorem law_sides {al : Addr} {vs : List Value} {k : Nat} {rows : List Row} (B : Below A₀ base outer h₀) (F : Fr h₀ L s.heap m) (X : (Mine.hd.heap_39 w.params).In h₀) (N : News h₀ L s.heap news) (T : Top p loose mean mg mb h₀) (hkind : cs.kind = .function) (hdp : dp + 50 < recursionLimit) (hun : un + 500 < cLine) (hm : (al, listOf vs.toArray k) ∈ news) (hR : RowsAre news vs rows) (G : GoodLot rows)
    (hret : ∀ S u0 u1 u2 h' tk', Fr h₀ L h' m → News h₀ L h' ((S, int3 (sideOf 0 rows) (sideOf 1 rows) (sideOf 2 rows) u0 u1 u2) :: news) → (∀ q ∈ news, q.1 ≠ S) → Q (.ref S) { s with heap := h', toks := tk' }) :
    wpAny (model PR w) (ktrTop dp un gd cn cs L a ccd cl outer) (call (.ref 200) [.ref al]) Q E s := by
  have hlen := G.len
  have hb0 := low_ok G 0
  have hb1 := low_ok G 1
  have hb2 := low_ok G 2
  have hpos : 0 < rows.length := List.length_pos_iff.mpr G.ne
  refine wpAny_call ?_
  k_extra "my enterC"
  k_extra "P10 my steps"
  k_dflt (refine' cell_sorted (rows.length) (fun i => lowOf i rows) (fun i => highOf i rows) ?qh ?qF ?qN ?qr ?qb ?qt ?_; (case qh => with_unfolding_all rfl); (case qF => k_asm); (case qN => k_asm); (case qr => assumption); (case qb => rfl); (case qt => (intro i' j' hif' nw' hnw' ti' I' oI' C' oC' X' oX' D' ys' m' g' h' tk' E' hC' hX' F' N'; rcases hif' with ⟨rfl, rfl⟩ | ⟨rfl, rfl⟩ | ⟨rfl, rfl⟩; (focus (have hRn := hR.mono (fun q hq => hnw' q (.tail _ hq)); have hmn := hnw' _ (.tail _ hm); have hcn := hnw' _ (.head _); k_extra "P10 my steps"; k_dflt (refine' rows_ints (fun r => prt 0 r.1) ?qh ?qF ?qN ?qm ?qr ?qz ?qt ?_; (case qh => with_unfolding_all rfl); (case qF => k_asm); (case qN => k_asm); (case qm => k_mem); (case qr => first | assumption | (refine' RowsAre.mono ?qs ?qt2; (case qt2 => assumption); (case qs => k_extra "my sub"))); (case qz => omega); (case qt => (intro r' ta' tm' nt' ca' u1' u2' u3' nc' I' oI' C' oC' D' ys' m' g' h' tk' E' hr' ht' hca' hC' hx' hy' F' N'; k_extra "P10 my steps"; k_extra "my same"))); intro ys' g' hI' hl'; k_extra "P10 my steps"; refine my_sorted (by k_asm) (by k_asm) (by k_mem) hI' (by rw [List.length_map]; omega) (by rw [List.length_map]; omega) ?_; (rename IntsAre _ _ => hI9); intro Bz vz nz cz hz Fz Nz lz iz dz az bz; exact ⟨Bz, vz, nz, cz, rfl, fun q hq => Nat.ne_of_lt (lz q (.tail _ hq)), iz, by rw [dz, List.length_map], az, by rw [dz, List.length_map] at bz; exact bz, _, _, rfl, Fz, news_put Nz (.head _) (fun q hq => .tail _ (.tail _ hq))⟩)); (focus (have hRn := hR.mono (fun q hq => hnw' q (.tail _ hq)); have hmn := hnw' _ (.tail _ hm); have hcn := hnw' _ (.head _); k_extra "P10 my steps"; k_dflt (refine' rows_ints (fun r => prt 1 r.1) ?qh ?qF ?qN ?qm ?qr ?qz ?qt ?_; (case qh => with_unfolding_all rfl); (case qF => k_asm); (case qN => k_asm); (case qm => k_mem); (case qr => first | assumption | (refine' RowsAre.mono ?qs ?qt2; (case qt2 => assumption); (case qs => k_extra "my sub"))); (case qz => omega); (case qt => (intro r' ta' tm' nt' ca' u1' u2' u3' nc' I' oI' C' oC' D' ys' m' g' h' tk' E' hr' ht' hca' hC' hx' hy' F' N'; k_extra "P10 my steps"; k_extra "my same"))); intro ys' g' hI' hl'; k_extra "P10 my steps"; refine my_sorted (by k_asm) (by k_asm) (by k_mem) hI' (by rw [List.length_map]; omega) (by rw [List.length_map]; omega) ?_; (rename IntsAre _ _ => hI9); intro Bz vz nz cz hz Fz Nz lz iz dz az bz; exact ⟨Bz, vz, nz, cz, rfl, fun q hq => Nat.ne_of_lt (lz q (.tail _ hq)), iz, by rw [dz, List.length_map], az, by rw [dz, List.length_map] at bz; exact bz, _, _, rfl, Fz, news_put Nz (.head _) (fun q hq => .tail _ (.tail _ hq))⟩)); (focus (have hRn := hR.mono (fun q hq => hnw' q (.tail _ hq)); have hmn := hnw' _ (.tail _ hm); have hcn := hnw' _ (.head _); k_extra "P10 my steps"; k_dflt (refine' rows_ints (fun r => prt 2 r.1) ?qh ?qF ?qN ?qm ?qr ?qz ?qt ?_; (case qh => with_unfolding_all rfl); (case qF => k_asm); (case qN => k_asm); (case qm => k_mem); (case qr => first | assumption | (refine' RowsAre.mono ?qs ?qt2; (case qt2 => assumption); (case qs => k_extra "my sub"))); (case qz => omega); (case qt => (intro r' ta' tm' nt' ca' u1' u2' u3' nc' I' oI' C' oC' D' ys' m' g' h' tk' E' hr' ht' hca' hC' hx' hy' F' N'; k_extra "P10 my steps"; k_extra "my same"))); intro ys' g' hI' hl'; k_extra "P10 my steps"; refine my_sorted (by k_asm) (by k_asm) (by k_mem) hI' (by rw [List.length_map]; omega) (by rw [List.length_map]; omega) ?_; (rename IntsAre _ _ => hI9); intro Bz vz nz cz hz Fz Nz lz iz dz az bz; exact ⟨Bz, vz, nz, cz, rfl, fun q hq => Nat.ne_of_lt (lz q (.tail _ hq)), iz, by rw [dz, List.length_map], az, by rw [dz, List.length_map] at bz; exact bz, _, _, rfl, Fz, news_put Nz (.head _) (fun q hq => .tail _ (.tail _ hq))⟩))))); intro B0 vs0 ns0 c0 B1 vs1 ns1 c1 B2 vs2 ns2 c2 g' i0 n0 a0 z0 i1 n1 a1 z1 i2 n2 a2 z2
  k_extra "P10 my steps"
  k_dflt (refine' src_zip (xs := [_, _, _]) (fun i => sideOf i rows) ?qh ?qF ?qN ?qm1 ?qm2 ?ql ?qs ?qt ?_)
  case qh => with_unfolding_all rfl
  case qF => k_asm
  case qN => k_asm
  case qm1 => k_mem
  case qm2 => k_mem
  case ql => rfl
  case qs => exact Nat.le_of_ble_eq_true rfl
  case qt =>
    intro i' x' y' C' oC' D' zs' m' g' h' tk' E' hi' hx' hy' hC' ha' hb' F' N'
    rcases i' with _ | _ | _ | i'
    · (cases hx'; cases hy'; k_extra "P10 my steps"; have e9 : (-1 + (ns0.length : Int)).toNat = rows.length - 1 := (by omega); exact ⟨_, _, congrArg (fun k => Value.int k _) (by rw [e9, z0]; (try rw [show Int.toNat 0 = 0 from rfl, a0]); rfl), rfl⟩)
    · (cases hx'; cases hy'; k_extra "P10 my steps"; have e9 : (-1 + (ns1.length : Int)).toNat = rows.length - 1 := (by omega); exact ⟨_, _, congrArg (fun k => Value.int k _) (by rw [e9, z1]; (try rw [show Int.toNat 0 = 0 from rfl, a1]); rfl), rfl⟩)
    · (cases hx'; cases hy'; k_extra "P10 my steps"; have e9 : (-1 + (ns2.length : Int)).toNat = rows.length - 1 := (by omega); exact ⟨_, _, congrArg (fun k => Value.int k _) (by rw [e9, z2]; (try rw [show Int.toNat 0 = 0 from rfl, a2]); rfl), rfl⟩)
    · exact absurd hi' (by simp)
  intro zs gz hI
  have hI3 : IntsAre zs [sideOf 0 rows, sideOf 1 rows, sideOf 2 rows] := hI
  obtain ⟨u0, u1, u2, rfl⟩ := ints3 hI3
  k_extra "P10 my steps"
  (rename News h₀ _ _ _ => kN); (rename Fr h₀ _ _ _ => kF)
  refine hret _ _ _ _ _ _ kF (news_put kN (.head _) (by k_extra "my sub")) (by k_extra "P10 my tail")
end
end
section
theorem reg_P11 : True := by
  w_top off
  k_with "P11 my tail" =>
    first | assumption | (refine off1_out ?_; k_extra "my dig") | (refine allLt_out ?_; k_extra "my dig") | (refine allLt_out1 ?_; k_extra "my dig") | (refine allLt_out2 ?_; k_extra "my dig") | (refine allLt_out3 ?_; k_extra "my dig")
  k_with "P11 k_all" =>
    k_extra "P11 my tail"
  k_with "P11 my all" =>
    first | exact List.forall_mem_nil _ | (refine' List.forall_mem_cons.mpr ⟨?aa, ?bb⟩; (case aa => k_ne); (case bb => k_extra "P11 my all")) | k_extra "P11 my tail"
  k_with "P11 my tupT" =>
    (k_dflt (refine' iter_tupTurns (vs := [_, _]) ?qh ?qF ?qN ?qm ?qc ?qd ?_; (case qh => with_unfolding_all rfl); (case qF => k_asm); (case qN => k_asm); (case qm => k_mem); (case qc => rfl); (case qd => rfl)); intro i' l1; (try k_lt l1))
  k_with "P11 my rngT" =>
    (k_dflt (refine' iter_rng3 ?qh ?qF ?qN ?qr ?qb ?_; (case qh => with_unfolding_all rfl); (case qF => k_asm); (case qN => k_asm); (case qr => assumption); (case qb => rfl)); intro i' l1; (try k_lt l1))
  k_with "P11 pyIter ref" =>
    (k_here; (with_reducible show wpAny _ _ (pyIter (Value.ref _)) (fun it s₂ => TurnsAt _ _ _ _ _ _ _ _ _ it s₂) _ _); first | k_extra "P11 my rngT" | k_extra "P11 my tupT")
  k_with "P11 UnrEndW" =>
    (k_dflt (refine' unrEnd_my ?qF ?qN ?qm ?qo ?_; (case qF => k_asm); (case qN => k_asm); (case qm => k_extra "my minus"); (case qo => k_extra "P11 my all")); refine' And.intro ?qK ?_; (case qK => first | exact trivial | exact ⟨by k_mem, trivial⟩))
  k_with "P11 exec For Name Call cons nil" =>
    (k_here; (rename Fr _ _ _ _ => lF'); (with_unfolding_all refine' For_turns lF' ?_; k_whole))
  k_with "P11 my tail" =>
    first | assumption | (refine fLt_out ?_; assumption) | (refine fLt_out1 ?_; assumption) | (refine fLt_out2 ?_; assumption) | (refine fLt_out3 ?_; assumption)
  k_with "P11 call ref" =>
    (k_here; k_dflt (refine' law_sides ?B ?F ?X ?N ?T ?kk ?dp ?un ?qm ?qr ?qG ?_; k_extra "my sit"; (case qm => k_mem); (case qr => first | assumption | (refine' RowsAre.mono ?qs ?qt2; (case qt2 => assumption); (case qs => k_extra "my sub"))); (case qG => assumption); k_whole); intro S' u0' u1' u2' h' tk' F' N' l1; (try k_sweep); (try k_fold))
  trivial
local macro_rules | `(tactic| k_all) => `(tactic| k_extra "P11 k_all")
local macro_rules | `(tactic| k_extra "own pyIter ref") => `(tactic| k_extra "P11 pyIter ref")
local macro_rules | `(tactic| k_extra "own UnrEndW") => `(tactic| k_extra "P11 UnrEndW")
local macro_rules | `(tactic| k_extra "own exec For Name Call cons nil") => `(tactic| k_extra "P11 exec For Name Call cons nil")
local macro_rules | `(tactic| k_extra "own call ref") => `(tactic| k_extra "P11 call ref")
section
variable {w : World} {p : Program} {loose : List Str} {mean : ExcName → Option Value} {mg mb : Str → Option Value} {dp un : Nat} {gd : Option (List Code)} {cn : Str} {cs : Scope} {a : Addr} {ccd : Value} {cl : List (Str × Addr)} {outer : List Env} {A₀ : Around} {base h₀ : Heap} {L : Addr} {m : Str → Option Value} {s : Shared} {Q E : Value → Shared → Prop} {news : Led}
theorem law_spread {al : Addr} {vs : List Value} {k : Nat} {rows : List Row} (B : Below A₀ base outer h₀) (F : Fr h₀ L s.heap m) (X : (Mine.hd.heap_39 w.params).In h₀) (N : News h₀ L s.heap news) (T : Top p loose mean mg mb h₀) (hkind : cs.kind = .function) (hdp : dp + 70 < recursionLimit) (hun : un + 700 < cLine) (hm : (al, listOf vs.toArray k) ∈ news) (hR : RowsAre news vs rows) (G : GoodLot rows)
    (hret : ∀ h' tk' t', Fr h₀ L h' m → News h₀ L h' news → Q (.int (spreadOf rows) t') { s with heap := h', toks := tk' }) :
    wpAny (model PR w) (ktrTop dp un gd cn cs L a ccd cl outer) (call (.ref 205) [.ref al]) Q E s := by
  have hlen := G.len
  have hb0 := low_ok G 0
  have hb1 := low_ok G 1
  have hb2 := low_ok G 2
  refine wpAny_call ?_
  k_extra "my enter"
  k_extra "my steps"
  k_dflt (refine' ints_ints (ns := [sideOf 0 rows, sideOf 1 rows, sideOf 2 rows]) (fun n => n * n) ?qh ?qF ?qN ?qm ?qi ?qs ?qt ?_)
  case qh => with_unfolding_all rfl
  case qF => k_asm
  case qN => k_asm
  case qm => k_mem
  case qi => exact .cons _ _ (.cons _ _ (.cons _ _ .nil))
  case qs => exact Nat.le_of_ble_eq_true rfl
  case qt =>
    intro n' t' I' oI' C' oC' D' ys' m' g' h' tk' E' hn' hC' hx' F' N'
    have hb' : 0 ≤ n' ∧ n' ≤ 750 := by
      simp only [List.mem_cons, List.not_mem_nil, or_false] at hn'
      rcases hn' with rfl | rfl | rfl <;> exact side_ok G _
    k_extra "my steps"; k_extra "my same"
  intro ys' g' hI'
  k_extra "my steps"
  rw [← spread_mul] at hret
  exact hret _ _ _ (by k_asm) (news_sub (by k_asm) (by k_extra "my sub"))
end
end
section
theorem reg_P12 : True := by
  w_top off
  k_with "P12 my tail" =>
    first | assumption | (refine off1_out ?_; k_extra "my dig") | (refine allLt_out ?_; k_extra "my dig") | (refine allLt_out1 ?_; k_extra "my dig") | (refine allLt_out2 ?_; k_extra "my dig") | (refine allLt_out3 ?_; k_extra "my dig")
  k_with "P12 k_all" =>
    k_extra "P12 my tail"
  k_with "P12 my steps" =>
    repeat' ((fail_if_success (k_extra "P12 my stop")); (first | (k_unfold; (try dsimp only)) | (k_end; wrow_close) | walk1 | (dsimp only; walk1) | (leave1; walk_say "STEP leave1"; try dsimp only) | fail "no step"))
  k_with "P12 my all" =>
    first | exact List.forall_mem_nil _ | (refine' List.forall_mem_cons.mpr ⟨?aa, ?bb⟩; (case aa => k_ne); (case bb => k_extra "P12 my all")) | k_extra "P12 my tail"
  k_with "P12 my stop" =>
    with_reducible show LCp.SrcLP _ _ _ _ _ _ _ _ _ _ _ _ _ _ _
  k_with "P12 my stop" =>
    with_reducible show LCt.CompSrcT _ _ _ _ _ _ _ _ _ _ _ _ _ _ _
  k_with "P12 my stop" =>
    with_reducible show CompSrc _ _ _ _ _ _ _ _ _ _ _ _ _ _
  k_with "P12 my stop" =>
    with_reducible show CellSrc _ _ _ _ _ _ _ _ _ _ _ _ _ _
  k_with "P12 my test" =>
    (k_here; k_dflt (refine LCt.ListComp_T (F₀ := by k_asm) (by with_unfolding_all rfl) (by decide) (by rfl) (by decide) (by rfl) ?_))
  k_with "P12 eval ListComp" =>
    first | (lcp_look; k_extra "my pair") | (lct_look; k_extra "P12 my test") | ((fail_if_success lcp_look); (fail_if_success lct_look); k_extra "my cell") | ((fail_if_success lcp_look); (fail_if_success lct_look); k_extra "my plain")
  k_with "P12 my tupT" =>
    (k_dflt (refine' iter_tupTurns (vs := [_, _]) ?qh ?qF ?qN ?qm ?qc ?qd ?_; (case qh => with_unfolding_all rfl); (case qF => k_asm); (case qN => k_asm); (case qm => k_mem); (case qc => rfl); (case qd => rfl)); intro i' l1; (try k_lt l1))
  k_with "P12 my rngT" =>
    (k_dflt (refine' iter_rng3 ?qh ?qF ?qN ?qr ?qb ?_; (case qh => with_unfolding_all rfl); (case qF => k_asm); (case qN => k_asm); (case qr => assumption); (case qb => rfl)); intro i' l1; (try k_lt l1))
  k_with "P12 pyIter ref" =>
    (k_here; (with_reducible show wpAny _ _ (pyIter (Value.ref _)) (fun it s₂ => TurnsAt _ _ _ _ _ _ _ _ _ it s₂) _ _); first | k_extra "P12 my rngT" | k_extra "P12 my tupT")
  k_with "P12 UnrEndW" =>
    (k_dflt (refine' unrEnd_my ?qF ?qN ?qm ?qo ?_; (case qF => k_asm); (case qN => k_asm); (case qm => k_extra "my minus"); (case qo => k_extra "P12 my all")); refine' And.intro ?qK ?_; (case qK => first | exact trivial | exact ⟨by k_mem, trivial⟩))
  k_with "P12 exec For Name Call cons nil" =>
    (k_here; (rename Fr _ _ _ _ => lF'); (with_unfolding_all refine' For_turns lF' ?_; k_whole))
  k_with "P12 my tail" =>
    first | assumption | (refine fLt_out ?_; assumption) | (refine fLt_out1 ?_; assumption) | (refine fLt_out2 ?_; assumption) | (refine fLt_out3 ?_; assumption)
  k_with "P12 call ref" =>
    (k_here; k_dflt (refine' law_sides ?B ?F ?X ?N ?T ?kk ?dp ?un ?qm ?qr ?qG ?_; k_extra "my sit"; (case qm => k_mem); (case qr => first | assumption | (refine' RowsAre.mono ?qs ?qt2; (case qt2 => assumption); (case qs => k_extra "my sub"))); (case qG => assumption); k_whole); intro S' u0' u1' u2' h' tk' F' N' l1; (replace l1 := off1_in l1); (try simp only [Off1, and_true] at l1); (try k_sweep); (try k_fold))
  k_with "P12 my test" =>
    (k_here; (with_reducible show wpAny _ _ (eval (PySem.Expr.ListComp _ [⟨_, PySem.Expr.Tuple _ _ _, _, _⟩] _ _) _) _ _ _); k_dflt (refine ListComp_tupT (by k_asm) (by with_unfolding_all rfl) (by decide) (by rfl) (by decide) (by rfl) ?_))
  k_with "P12 my stop" =>
    with_reducible show TupSrcT _ _ _ _ _ _ _ _ _ _ _ _ _ _ _
  trivial
local macro_rules | `(tactic| k_all) => `(tactic| k_extra "P12 k_all")
local macro_rules | `(tactic| k_extra "own eval ListComp") => `(tactic| k_extra "P12 eval ListComp")
local macro_rules | `(tactic| k_extra "own pyIter ref") => `(tactic| k_extra "P12 pyIter ref")
local macro_rules | `(tactic| k_extra "own UnrEndW") => `(tactic| k_extra "P12 UnrEndW")
local macro_rules | `(tactic| k_extra "own exec For Name Call cons nil") => `(tactic| k_extra "P12 exec For Name Call cons nil")
local macro_rules | `(tactic| k_extra "own call ref") => `(tactic| k_extra "P12 call ref")
section
variable {w : World} {p : Program} {loose : List Str} {mean : ExcName → Option Value} {mg mb : Str → Option Value} {dp un : Nat} {gd : Option (List Code)} {cn : Str} {cs : Scope} {a : Addr} {ccd : Value} {cl : List (Str × Addr)} {outer : List Env} {A₀ : Around} {base h₀ : Heap} {L : Addr} {m : Str → Option Value} {s : Shared} {Q E : Value → Shared → Prop} {news : Led}
theorem law_longest {al : Addr} {vs : List Value} {k : Nat} {rows : List Row} (B : Below A₀ base outer h₀) (F : Fr h₀ L s.heap m) (X : (Mine.hd.heap_39 w.params).In h₀) (N : News h₀ L s.heap news) (T : Top p loose mean mg mb h₀) (hkind : cs.kind = .function) (hdp : dp + 70 < recursionLimit) (hun : un + 700 < cLine) (hm : (al, listOf vs.toArray k) ∈ news) (hR : RowsAre news vs rows) (G : GoodLot rows)
    (hret : ∀ h' tk' t', Fr h₀ L h' m → News h₀ L h' news → Q (.int ((longOf rows : Nat)) t') { s with heap := h', toks := tk' }) :
    wpAny (model PR w) (ktrTop dp un gd cn cs L a ccd cl outer) (call (.ref 210) [.ref al]) Q E s := by
  have hlen := G.len
  have hb0 := low_ok G 0
  have hb1 := low_ok G 1
  have hb2 := low_ok G 2
  refine wpAny_call ?_
  k_extra "my enterC"
  k_extra "P12 my steps"
  have hIS : ∀ a b c, IntsAre [.int (sideOf 0 rows) a, .int (sideOf 1 rows) b, .int (sideOf 2 rows) c] [sideOf 0 rows, sideOf 1 rows, sideOf 2 rows] := fun _ _ _ => .cons _ _ (.cons _ _ (.cons _ _ .nil))
  k_dflt (refine' ⟨_, [_, _, _], [1, 0, 2], _, _, longP rows, rfl, ?qh, ?qF, ?qN, ?qm, .cons _ _ (.cons _ _ (.cons _ _ .nil)), Nat.le_of_ble_eq_true rfl, ?qt, ?qv, ?_⟩)
  case qh => with_unfolding_all rfl
  case qF => k_asm
  case qN => k_asm
  case qm => k_mem
  case qv =>
    intro n' t' I' oI' C' oC' D' ys' m' g' h' tk' E' hn' hC' hx' F' N'
    k_extra "P12 my steps"; k_extra "my same"
  case qt =>
    intro n' t' I' oI' C' oC' D' ys' m' g' h' tk' E' hn' hC' hx' F' N'
    simp only [List.mem_cons, List.not_mem_nil, or_false] at hn'
    rcases hn' with rfl | rfl | rfl
    · k_extra "P12 my steps"
      exact ⟨rfl, Same.mk (by k_asm) (news_keep (by k_asm) (by k_extra "my sub"))⟩
    · k_extra "P12 my steps"
      exact ⟨rfl, Same.mk (by k_asm) (news_keep (by k_asm) (by k_extra "my sub"))⟩
    · k_extra "P12 my steps"
      exact ⟨rfl, Same.mk (by k_asm) (news_keep (by k_asm) (by k_extra "my sub"))⟩
  intro ys' g' hI'
  have hlf := longest_first rows
  k_extra "P12 my steps"
  rw [show Int.toNat 0 = 0 from rfl, hlf.1]
  exact hret _ _ _ (by k_asm) (news_sub (by k_asm) (by k_extra "my sub"))
end
end
section
theorem reg_P14 : True := by
  w_top off
  k_with "P14 my tail" =>
    first | assumption | (refine off1_out ?_; k_extra "my dig") | (refine allLt_out ?_; k_extra "my dig") | (refine allLt_out1 ?_; k_extra "my dig") | (refine allLt_out2 ?_; k_extra "my dig") | (refine allLt_out3 ?_; k_extra "my dig")
  k_with "P14 k_all" =>
    k_extra "P14 my tail"
  k_with "P14 my all" =>
    first | exact List.forall_mem_nil _ | (refine' List.forall_mem_cons.mpr ⟨?aa, ?bb⟩; (case aa => k_ne); (case bb => k_extra "P14 my all")) | k_extra "P14 my tail"
  k_with "P14 my tupT" =>
    (k_dflt (refine' iter_tupTurns (vs := [_, _]) ?qh ?qF ?qN ?qm ?qc ?qd ?_; (case qh => with_unfolding_all rfl); (case qF => k_asm); (case qN => k_asm); (case qm => k_mem); (case qc => rfl); (case qd => rfl)); intro i' l1; (try k_lt l1))
  k_with "P14 my rngT" =>
    (k_dflt (refine' iter_rng3 ?qh ?qF ?qN ?qr ?qb ?_; (case qh => with_unfolding_all rfl); (case qF => k_asm); (case qN => k_asm); (case qr => assumption); (case qb => rfl)); intro i' l1; (try k_lt l1))
  k_with "P14 pyIter ref" =>
    (k_here; (with_reducible show wpAny _ _ (pyIter (Value.ref _)) (fun it s₂ => TurnsAt _ _ _ _ _ _ _ _ _ it s₂) _ _); first | k_extra "P14 my rngT" | k_extra "P14 my tupT")
  k_with "P14 UnrEndW" =>
    (k_dflt (refine' unrEnd_my ?qF ?qN ?qm ?qo ?_; (case qF => k_asm); (case qN => k_asm); (case qm => k_extra "my minus"); (case qo => k_extra "P14 my all")); refine' And.intro ?qK ?_; (case qK => first | exact trivial | exact ⟨by k_mem, trivial⟩))
  k_with "P14 exec For Name Call cons nil" =>
    (k_here; (rename Fr _ _ _ _ => lF'); (with_unfolding_all refine' For_turns lF' ?_; k_whole))
  k_with "P14 my tail" =>
    first | assumption | (refine fLt_out ?_; assumption) | (refine fLt_out1 ?_; assumption) | (refine fLt_out2 ?_; assumption) | (refine fLt_out3 ?_; assumption)
  k_with "P14 call ref" =>
    (k_here; k_dflt (refine' box_longest ?B ?F ?X ?N ?T ?kk ?dp ?un ?qm ?qr ?qG ?qx ?qd ?ql ?qh ?_; k_extra "my sit"; (case qx => k_mem); (case qd => k_mem); (case ql => k_mem); (case qh => k_mem); (case qm => k_mem); (case qr => first | assumption | (refine' RowsAre.mono ?qs ?qt2; (case qt2 => assumption); (case qs => k_extra "my sub"))); (case qG => assumption); k_whole); intro h' tk' t' F' N'; (try k_sweep); (try k_fold))
  k_with "P14 call ref" =>
    (k_here; k_dflt (refine' box ?B ?F ?X ?N ?T ?kk ?dp ?un ?qm ?qr ?qG ?_; k_extra "my sit"; (case qm => k_mem); (case qr => first | assumption | (refine' RowsAre.mono ?qs ?qt2; (case qt2 => assumption); (case qs => k_extra "my sub"))); (case qG => assumption); k_whole); intro x' dx' la' ha' t1' t2' t3' n' u0' u1' u2' u3' u4' u5' h' tk' F' N' l1; (obtain ⟨l1, l2, l3, l4⟩ := box_off l1); (try simp only [Off1, and_true] at l1 l2 l3 l4); (try k_sweep); (try k_fold))
  k_with "P14 subscriptTail" =>
    (k_here; (with_reducible show wpAny _ _ (subscriptTail _ _ (Value.ref _) (Value.int (Nat.cast (longOf _)) _)) _ _ _); k_dflt (first | (refine' my_col ?qN ?qm ?qj ?_ ?qs; (case qN => k_asm); (case qm => k_mem); (case qj => exact long_lt _); (case qs => with_unfolding_all rfl)) | (refine' my_low ?qN ?qm ?qj ?_ ?qs; (case qN => k_asm); (case qm => k_mem); (case qj => exact long_lt _); (case qs => with_unfolding_all rfl)) | (refine' my_high ?qN ?qm ?qj ?_ ?qs; (case qN => k_asm); (case qm => k_mem); (case qj => exact long_lt _); (case qs => with_unfolding_all rfl))))
  trivial
local macro_rules | `(tactic| k_all) => `(tactic| k_extra "P14 k_all")
local macro_rules | `(tactic| k_extra "own pyIter ref") => `(tactic| k_extra "P14 pyIter ref")
local macro_rules | `(tactic| k_extra "own UnrEndW") => `(tactic| k_extra "P14 UnrEndW")
local macro_rules | `(tactic| k_extra "own exec For Name Call cons nil") => `(tactic| k_extra "P14 exec For Name Call cons nil")
local macro_rules | `(tactic| k_extra "own call ref") => `(tactic| k_extra "P14 call ref")
local macro_rules | `(tactic| k_extra "own subscriptTail") => `(tactic| k_extra "P14 subscriptTail")
section
variable {w : World} {p : Program} {loose : List Str} {mean : ExcName → Option Value} {mg mb : Str → Option Value} {dp un : Nat} {gd : Option (List Code)} {cn : Str} {cs : Scope} {a : Addr} {ccd : Value} {cl : List (Str × Addr)} {outer : List Env} {A₀ : Around} {base h₀ : Heap} {L : Addr} {m : Str → Option Value} {s : Shared} {Q E : Value → Shared → Prop} {news : Led}
theorem halves {al : Addr} {vs : List Value} {k : Nat} {rows : List Row} {x dx la ha : Addr} {b1 b2 b3 c0 c1 c2 c3 c4 c5 : Tok} {bn : Nat} (B : Below A₀ base outer h₀) (F : Fr h₀ L s.heap m) (X : (Mine.hd.heap_39 w.params).In h₀) (N : News h₀ L s.heap news) (T : Top p loose mean mg mb h₀) (hkind : cs.kind = .function) (hdp : dp + 70 < recursionLimit) (hun : un + 700 < cLine) (hm : (al, listOf vs.toArray k) ∈ news) (hR : RowsAre news vs rows) (G : GoodLot rows) (hx : (x, instObj 96 dx) ∈ news) (hdx : (dx, boxD w al la ha b1 b2 b3 bn) ∈ news) (hla : (la, int3 (lowOf 0 rows) (lowOf 1 rows) (lowOf 2 rows) c0 c1 c2) ∈ news) (hha : (ha, int3 (highOf 0 rows) (highOf 1 rows) (highOf 2 rows) c3 c4 c5) ∈ news) (GA : GoodLot (lowRows (longOf rows) rows)) (GB : GoodLot (uppRows (longOf rows) rows))
    (hret : ∀ nw S n x1 x2 al1 al2 h' tk', (S, listOf #[.ref x1, .ref x2] n) ∈ nw → BoxAt w nw x1 al1 (lowRows (longOf rows) rows) → BoxAt w nw x2 al2 (uppRows (longOf rows) rows) → (∀ q ∈ news, q ∈ nw) → Fr h₀ L h' m → News h₀ L h' nw → Q (.ref S) { s with heap := h', toks := tk' }) :
    wpAny (model PR w) (ktrTop dp un gd cn cs L a ccd cl outer) (call (.ref 105) [.ref x]) Q E s := by
  have hlen := G.len
  have hb0 := low_ok G 0
  have hb1 := low_ok G 1
  have hb2 := low_ok G 2
  refine wpAny_call ?_
  k_extra "my enterC"
  k_extra "my steps"
  k_dflt (refine' rows_filter (fun r => decide (prt (longOf rows) r.1 ≤ midOf (longOf rows) rows)) ?qh ?qF ?qN ?qm ?qr ?qz ?qt ?qv ?_; (case qh => with_unfolding_all rfl); (case qF => k_asm); (case qN => k_asm); (case qm => k_mem); (case qr => first | assumption | (refine' RowsAre.mono ?qs ?qt2; (case qt2 => assumption); (case qs => k_extra "my sub"))); (case qz => omega); (case qt => (intro r' ta' tm' nt' ca' u1' u2' u3' nc' I' oI' C' oC' D' ys' m' g' h' tk' E' hr' ht' hca' hC' hx' F' N'; k_extra "my steps"; exact ⟨rfl, Same.mk (by k_asm) (news_keep (by k_asm) (by k_extra "my sub"))⟩)); (case qv => (intro v' I' oI' C' oC' D' ys' m' g' h' tk' E' hC' hx' F' N'; k_extra "my steps"; exact ⟨rfl, Same.mk (by k_asm) (news_keep (by k_asm) (by k_extra "my sub"))⟩))); intro ys' g' hRy
  have hR1 := hRy
  clear hRy
  k_extra "my steps"
  k_dflt (refine' rows_filter (fun r => decide (midOf (longOf rows) rows < prt (longOf rows) r.1)) ?qh ?qF ?qN ?qm ?qr ?qz ?qt ?qv ?_; (case qh => with_unfolding_all rfl); (case qF => k_asm); (case qN => k_asm); (case qm => k_mem); (case qr => first | assumption | (refine' RowsAre.mono ?qs ?qt2; (case qt2 => assumption); (case qs => k_extra "my sub"))); (case qz => omega); (case qt => (intro r' ta' tm' nt' ca' u1' u2' u3' nc' I' oI' C' oC' D' ys' m' g' h' tk' E' hr' ht' hca' hC' hx' F' N'; k_extra "my steps"; exact ⟨rfl, Same.mk (by k_asm) (news_keep (by k_asm) (by k_extra "my sub"))⟩)); (case qv => (intro v' I' oI' C' oC' D' ys' m' g' h' tk' E' hC' hx' F' N'; k_extra "my steps"; exact ⟨rfl, Same.mk (by k_asm) (news_keep (by k_asm) (by k_extra "my sub"))⟩))); intro ys' g' hRy
  k_extra "my steps"
  (rename News h₀ _ _ _ => kN); (rename Fr h₀ _ _ _ => kF)
  refine hret _ _ _ _ _ _ _ _ _ (.head _) ⟨_, _, _, _, _, _, _, _, _, _, _, _, _, _, _, by k_mem, by k_mem, by k_mem, by k_mem, by k_mem, hR1.mono (by k_extra "my sub")⟩ ⟨_, _, _, _, _, _, _, _, _, _, _, _, _, _, _, by k_mem, by k_mem, by k_mem, by k_mem, by k_mem, hRy.mono (by k_extra "my sub")⟩ (by k_extra "my sub") kF kN
end
end
section
theorem reg_P15 : True := by
  w_top off
  k_with "P15 my tail" =>
    first | assumption | (refine off1_out ?_; k_extra "my dig") | (refine allLt_out ?_; k_extra "my dig") | (refine allLt_out1 ?_; k_extra "my dig") | (refine allLt_out2 ?_; k_extra "my dig") | (refine allLt_out3 ?_; k_extra "my dig")
  k_with "P15 k_all" =>
    k_extra "P15 my tail"
  k_with "P15 my steps" =>
    repeat' ((fail_if_success (k_extra "P15 my stop")); (first | (k_unfold; (try dsimp only)) | (k_end; wrow_close) | walk1 | (dsimp only; walk1) | (leave1; walk_say "STEP leave1"; try dsimp only) | fail "no step"))
  k_with "P15 my all" =>
    first | exact List.forall_mem_nil _ | (refine' List.forall_mem_cons.mpr ⟨?aa, ?bb⟩; (case aa => k_ne); (case bb => k_extra "P15 my all")) | k_extra "P15 my tail"
  k_with "P15 my sub1" =>
    first | assumption | (apply List.Mem.tail; k_extra "P15 my sub1")
  k_with "P15 my sub" =>
    first | exact fun q' hq' => hq' | (intro q' hq'; k_extra "P15 my sub1")
  k_with "P15 my same" =>
    refine IntSame.mk (by k_asm) (news_keep (by k_asm) (by k_extra "P15 my sub"))
  k_with "P15 my stop" =>
    with_reducible show LCp.SrcLP _ _ _ _ _ _ _ _ _ _ _ _ _ _ _
  k_with "P15 my stop" =>
    with_reducible show LCt.CompSrcT _ _ _ _ _ _ _ _ _ _ _ _ _ _ _
  k_with "P15 my stop" =>
    with_reducible show CompSrc _ _ _ _ _ _ _ _ _ _ _ _ _ _
  k_with "P15 my stop" =>
    with_reducible show CellSrc _ _ _ _ _ _ _ _ _ _ _ _ _ _
  k_with "P15 my tupT" =>
    (k_dflt (refine' iter_tupTurns (vs := [_, _]) ?qh ?qF ?qN ?qm ?qc ?qd ?_; (case qh => with_unfolding_all rfl); (case qF => k_asm); (case qN => k_asm); (case qm => k_mem); (case qc => rfl); (case qd => rfl)); intro i' l1; (try k_lt l1))
  k_with "P15 my rngT" =>
    (k_dflt (refine' iter_rng3 ?qh ?qF ?qN ?qr ?qb ?_; (case qh => with_unfolding_all rfl); (case qF => k_asm); (case qN => k_asm); (case qr => assumption); (case qb => rfl)); intro i' l1; (try k_lt l1))
  k_with "P15 pyIter ref" =>
    (k_here; (with_reducible show wpAny _ _ (pyIter (Value.ref _)) (fun it s₂ => TurnsAt _ _ _ _ _ _ _ _ _ it s₂) _ _); first | k_extra "P15 my rngT" | k_extra "P15 my tupT")
  k_with "P15 UnrEndW" =>
    (k_dflt (refine' unrEnd_my ?qF ?qN ?qm ?qo ?_; (case qF => k_asm); (case qN => k_asm); (case qm => k_extra "my minus"); (case qo => k_extra "P15 my all")); refine' And.intro ?qK ?_; (case qK => first | exact trivial | exact ⟨by k_mem, trivial⟩))
  k_with "P15 exec For Name Call cons nil" =>
    (k_here; (rename Fr _ _ _ _ => lF'); (with_unfolding_all refine' For_turns lF' ?_; k_whole))
  k_with "P15 my tail" =>
    first | assumption | (refine fLt_out ?_; assumption) | (refine fLt_out1 ?_; assumption) | (refine fLt_out2 ?_; assumption) | (refine fLt_out3 ?_; assumption)
  k_with "P15 call ref" =>
    (k_here; k_dflt (refine' box ?B ?F ?X ?N ?T ?kk ?dp ?un ?qm ?qr ?qG ?_; k_extra "my sit"; (case qm => k_mem); (case qr => first | assumption | (refine' RowsAre.mono ?qs ?qt2; (case qt2 => assumption); (case qs => k_extra "P15 my sub"))); (case qG => assumption); k_whole); intro x' dx' la' ha' t1' t2' t3' n' u0' u1' u2' u3' u4' u5' h' tk' F' N' l1; (obtain ⟨l1, l2, l3, l4⟩ := box_off l1); (try simp only [Off1, and_true] at l1 l2 l3 l4); (try k_sweep); (try k_fold))
  k_with "P15 call ref" =>
    (k_here; k_dflt (refine' box_longest ?B ?F ?X ?N ?T ?kk ?dp ?un ?qm ?qr ?qG ?qx ?qd ?ql ?qh ?_; k_extra "my sit"; (case qx => k_mem); (case qd => k_mem); (case ql => k_mem); (case qh => k_mem); (case qm => k_mem); (case qr => first | assumption | (refine' RowsAre.mono ?qs ?qt2; (case qt2 => assumption); (case qs => k_extra "P15 my sub"))); (case qG => assumption); k_whole); intro h' tk' t' F' N'; (try k_sweep); (try k_fold))
  k_with "P15 call ref" =>
    (k_here; k_dflt (refine' box_many ?B ?F ?X ?N ?T ?kk ?dp ?un ?qm ?qr ?qG ?qx ?qd ?ql ?qh ?_; k_extra "my sit"; (case qx => k_mem); (case qd => k_mem); (case ql => k_mem); (case qh => k_mem); (case qm => k_mem); (case qr => first | assumption | (refine' RowsAre.mono ?qs ?qt2; (case qt2 => assumption); (case qs => k_extra "P15 my sub"))); (case qG => assumption); k_whole); intro h' tk' t' F' N'; (try k_sweep); (try k_fold))
  k_with "P15 call ref" =>
    (k_here; k_dflt (refine' box_spread ?B ?F ?X ?N ?T ?kk ?dp ?un ?qm ?qr ?qG ?qx ?qd ?ql ?qh ?_; k_extra "my sit"; (case qx => k_mem); (case qd => k_mem); (case ql => k_mem); (case qh => k_mem); (case qm => k_mem); (case qr => first | assumption | (refine' RowsAre.mono ?qs ?qt2; (case qt2 => assumption); (case qs => k_extra "P15 my sub"))); (case qG => assumption); k_whole); intro h' tk' t' F' N'; (try k_sweep); (try k_fold))
  k_with "P15 call ref" =>
    (k_here; k_dflt (refine' box_mean ?B ?F ?X ?N ?T ?kk ?dp ?un ?qm ?qr ?qG ?qx ?qd ?ql ?qh ?_; k_extra "my sit"; (case qx => k_mem); (case qd => k_mem); (case ql => k_mem); (case qh => k_mem); (case qm => k_mem); (case qr => first | assumption | (refine' RowsAre.mono ?qs ?qt2; (case qt2 => assumption); (case qs => k_extra "P15 my sub"))); (case qG => assumption); k_whole); intro t' n' u0' u1' u2' h' tk' F' N' l1; (replace l1 := off1_in l1); (try simp only [Off1, and_true] at l1); (try k_sweep); (try k_fold))
  k_with "P15 call ref" =>
    (k_here; k_dflt (refine' places ?B ?F ?X ?N ?T ?kk ?dp ?un ?qm ?qr ?qG ?_; k_extra "my sit"; (case qm => k_mem); (case qr => first | assumption | (refine' RowsAre.mono ?qs ?qt2; (case qt2 => assumption); (case qs => k_extra "P15 my sub"))); (case qG => assumption); k_whole); intro h' tk' t' F' N'; (try k_sweep); (try k_fold))
  k_with "P15 call ref" =>
    (k_here; k_dflt (refine' law_spread ?B ?F ?X ?N ?T ?kk ?dp ?un ?qm ?qr ?qG ?_; k_extra "my sit"; (case qm => k_mem); (case qr => first | assumption | (refine' RowsAre.mono ?qs ?qt2; (case qt2 => assumption); (case qs => k_extra "P15 my sub"))); (case qG => assumption); k_whole); intro h' tk' t' F' N'; (try k_sweep); (try k_fold))
  k_with "P15 call ref" =>
    (k_here; k_dflt (refine' law_mean ?B ?F ?X ?N ?T ?kk ?dp ?un ?qm ?qr ?qG  ?_; k_extra "my sit"; (case qm => k_mem); (case qr => first | assumption | (refine' RowsAre.mono ?qs ?qt2; (case qt2 => assumption); (case qs => k_extra "P15 my sub"))); (case qG => assumption); k_whole); intro t' n' u0' u1' u2' h' tk' F' N' l1; (replace l1 := off1_in l1); (try simp only [Off1, and_true] at l1); (try k_sweep); (try k_fold))
  k_with "P15 call ref" =>
    (k_here; k_dflt (refine' law_longest ?B ?F ?X ?N ?T ?kk ?dp ?un ?qm ?qr ?qG ?_; k_extra "my sit"; (case qm => k_mem); (case qr => first | assumption | (refine' RowsAre.mono ?qs ?qt2; (case qt2 => assumption); (case qs => k_extra "P15 my sub"))); (case qG => assumption); k_whole); intro h' tk' t' F' N'; (try k_sweep); (try k_fold))
  k_with "P15 compareOp NotEq ref ref" =>
    (k_here; (with_reducible show wpAny _ _ (compareOp _ (Value.ref _) (Value.ref _)) _ _ _); k_dflt (refine' ints_same_ne ?qN ?qa ?qb ?q1 ?q2 ?qe ?qu ?_; (case qN => k_asm); (case qa => k_mem); (case qb => k_mem); (case q1 => first | exact .cons _ _ (.cons _ _ (.cons _ _ .nil)) | assumption); (case q2 => first | assumption | exact .cons _ _ (.cons _ _ (.cons _ _ .nil))); (case qe => rfl); (case qu => ktr_units)))
  k_with "P15 my stop" =>
    with_reducible show wpAny _ _ (call (Value.builtin "len") [Value.ref _]) _ _ _
  k_with "P15 subscriptTail" =>
    (k_here; (with_reducible show wpAny _ _ (subscriptTail _ _ (Value.ref _) (Value.int (Nat.cast (longOf _)) _)) _ _ _); k_dflt (first | (refine' my_col ?qN ?qm ?qj ?_ ?qs; (case qN => k_asm); (case qm => k_mem); (case qj => exact long_lt _); (case qs => with_unfolding_all rfl)) | (refine' my_low ?qN ?qm ?qj ?_ ?qs; (case qN => k_asm); (case qm => k_mem); (case qj => exact long_lt _); (case qs => with_unfolding_all rfl)) | (refine' my_high ?qN ?qm ?qj ?_ ?qs; (case qN => k_asm); (case qm => k_mem); (case qj => exact long_lt _); (case qs => with_unfolding_all rfl)) | (refine' my_r3 ?qN ?qm ?qj ?qb ?_ ?qs; (case qN => k_asm); (case qm => k_mem); (case qj => exact long_lt _); (case qb => assumption); (case qs => with_unfolding_all rfl))))
  k_with "P15 k_mem" =>
    first | (refine' Pick.mem ?pp ?p0 ?p1 ?p2; (case pp => with_reducible assumption); (case p0 => k_mem); (case p1 => k_mem); (case p2 => k_mem)) | fail "no"
  k_with "P15 k_mem" =>
    first | (refine' kd_use ?hm2 ?hs2; (case hs2 => with_reducible assumption); (case hm2 => k_mem)) | fail "no"
  k_with "P15 my sub1" =>
    first | (refine' kd_use ?hm2 ?hs2; (case hs2 => with_reducible assumption); (case hm2 => k_extra "P15 my sub1")) | fail "no"
  k_with "P15 call ref" =>
    (k_here; k_dflt (refine' halves ?B ?F ?X ?N ?T ?kk ?dp ?un ?qm ?qr ?qG ?qx ?qd ?ql ?qh ?qga ?qgb ?_; k_extra "my sit"; (case qga => assumption); (case qgb => assumption); (case qx => k_mem); (case qd => k_mem); (case ql => k_mem); (case qh => k_mem); (case qm => k_mem); (case qr => first | assumption | (refine' RowsAre.mono ?qs ?qt2; (case qt2 => assumption); (case qs => k_extra "P15 my sub"))); (case qG => assumption); k_whole); intro nw' S' n' x1' x2' al1' al2' h' tk' hS' b1' b2' hs' F' N'; obtain ⟨dx1', la1', ha1', t11', t12', t13', nn1', u10', u11', u12', u13', u14', u15', vs1', kk1', b11', b12', b13', b14', b15', b16'⟩ := b1'; obtain ⟨dx2', la2', ha2', t21', t22', t23', nn2', u20', u21', u22', u23', u24', u25', vs2', kk2', b21', b22', b23', b24', b25', b26'⟩ := b2'; (try k_sweep); (try k_fold))
  k_with "P15 compareOp NotEq ref ref" =>
    (k_here; (with_reducible show wpAny _ _ (compareOp _ (Value.ref _) (Value.ref _)) _ _ _); k_dflt (first | (refine' rows_nil_ne ?qN ?qa ?qb ?qr1 ?qu ?qe ?_; (case qN => k_asm); (case qa => k_mem); (case qb => k_mem); (case qu => ktr_units); (case qr1 => first | assumption | (refine' RowsAre.mono ?qs ?qt2; (case qt2 => assumption); (case qs => k_extra "P15 my sub"))); (case qe => exact GoodLot.ne (by assumption))) | (refine' rows_same_ne ?qN ?qa ?qb ?qr1 ?qr2 ?qu ?qe ?_; (case qN => k_asm); (case qa => k_mem); (case qb => k_mem); (case qu => ktr_units); (case qr1 => first | assumption | (refine' RowsAre.mono ?qs ?qt2; (case qt2 => assumption); (case qs => k_extra "P15 my sub"))); (case qr2 => first | assumption | (refine' RowsAre.mono ?qs ?qt2; (case qt2 => assumption); (case qs => k_extra "P15 my sub"))); (case qe => rfl))))
  k_with "P15 compareOp Eq ref ref" =>
    (k_here; (with_reducible show wpAny _ _ (compareOp _ (Value.ref _) (Value.ref _)) _ _ _); k_dflt (first | (refine' rows_nil_eq ?qN ?qa ?qb ?qr1 ?qu ?qe ?_; (case qN => k_asm); (case qa => k_mem); (case qb => k_mem); (case qu => ktr_units); (case qr1 => first | assumption | (refine' RowsAre.mono ?qs ?qt2; (case qt2 => assumption); (case qs => k_extra "P15 my sub"))); (case qe => exact GoodLot.ne (by assumption))) | (refine' rows_same_eq ?qN ?qa ?qb ?qr1 ?qr2 ?qu ?qe ?_; (case qN => k_asm); (case qa => k_mem); (case qb => k_mem); (case qu => ktr_units); (case qr1 => first | assumption | (refine' RowsAre.mono ?qs ?qt2; (case qt2 => assumption); (case qs => k_extra "P15 my sub"))); (case qr2 => first | assumption | (refine' RowsAre.mono ?qs ?qt2; (case qt2 => assumption); (case qs => k_extra "P15 my sub"))); (case qe => rfl))))
  k_with "P15 my stop" =>
    with_reducible show wpAny _ _ (call (Value.ref 105) _) _ _ _
  trivial
local macro_rules | `(tactic| k_all) => `(tactic| k_extra "P15 k_all")
local macro_rules | `(tactic| k_extra "own pyIter ref") => `(tactic| k_extra "P15 pyIter ref")
local macro_rules | `(tactic| k_extra "own UnrEndW") => `(tactic| k_extra "P15 UnrEndW")
local macro_rules | `(tactic| k_extra "own exec For Name Call cons nil") => `(tactic| k_extra "P15 exec For Name Call cons nil")
local macro_rules | `(tactic| k_extra "own call ref") => `(tactic| k_extra "P15 call ref")
local macro_rules | `(tactic| k_extra "own compareOp NotEq ref ref") => `(tactic| k_extra "P15 compareOp NotEq ref ref")
local macro_rules | `(tactic| k_extra "own subscriptTail") => `(tactic| k_extra "P15 subscriptTail")
local macro_rules | `(tactic| k_mem) => `(tactic| k_extra "P15 k_mem")
local macro_rules | `(tactic| k_extra "own compareOp Eq ref ref") => `(tactic| k_extra "P15 compareOp Eq ref ref")
section
variable {w : World} {p : Program} {loose : List Str} {mean : ExcName → Option Value} {mg mb : Str → Option Value} {dp un : Nat} {gd : Option (List Code)} {cn : Str} {cs : Scope} {a : Addr} {ccd : Value} {cl : List (Str × Addr)} {outer : List Env} {A₀ : Around} {base h₀ : Heap} {L : Addr} {m : Str → Option Value} {s : Shared} {Q E : Value → Shared → Prop} {news : Led}
theorem law_box_right {al : Addr} {vs : List Value} {k : Nat} {rows : List Row} (B : Below A₀ base outer h₀) (F : Fr h₀ L s.heap m) (X : (Mine.hd.heap_39 w.params).In h₀) (N : News h₀ L s.heap news) (T : Top p loose mean mg mb h₀) (hkind : cs.kind = .function) (hdp : dp + 100 < recursionLimit) (hun : un + 1000 < cLine) (hm : (al, listOf vs.toArray k) ∈ news) (hR : RowsAre news vs rows) (G : GoodLot rows)
    (hret : ∀ h' tk', Fr h₀ L h' m → News h₀ L h' news → Q (.bool true) { s with heap := h', toks := tk' }) :
    wpAny (model PR w) (ktrTop dp un gd cn cs L a ccd cl outer) (call (.ref 225) [.ref al]) Q E s := by
  have hlen := G.len
  have hb0 := low_ok G 0
  have hb1 := low_ok G 1
  have hb2 := low_ok G 2
  have hpos : 0 < rows.length := List.length_pos_iff.mpr G.ne
  refine wpAny_call ?_
  k_extra "my enterC"
  k_extra "P15 my steps"
  k_dflt (refine' cell_lists (fun i => ends i rows) ?qh ?qF ?qN ?qr ?qb ?qt ?_; (case qh => with_unfolding_all rfl); (case qF => k_asm); (case qN => k_asm); (case qr => assumption); (case qb => rfl); (case qt => (intro i' j' hif' nw' hnw' ti' I' oI' C' oC' X' oX' D' ys' m' g' h' tk' E' hC' hX' F' N'; rcases hif' with ⟨rfl, rfl⟩ | ⟨rfl, rfl⟩ | ⟨rfl, rfl⟩; (focus (have hRn := hR.mono (fun q hq => hnw' q (by k_extra "P15 my sub1")); have hmn := hnw' _ (by k_extra "P15 my sub1" : (al, listOf vs.toArray k) ∈ _); have hc1 := hnw' _ (.tail _ (.tail _ (.tail _ (.tail _ (.head _))))); have hc2 := hnw' _ (.tail _ (.tail _ (.tail _ (.tail _ (.tail _ (.head _)))))); have hc3 := hnw' _ (.tail _ (.tail _ (.tail _ (.tail _ (.tail _ (.tail _ (.head _))))))); (show wpAny _ _ (eval _ _) _ _ _); k_extra "P15 my steps"; k_dflt (refine' rows_ints (fun r => prt 0 r.1) ?qh ?qF ?qN ?qm ?qr ?qz ?qt ?_; (case qh => with_unfolding_all rfl); (case qF => k_asm); (case qN => k_asm); (case qm => k_mem); (case qr => first | assumption | (refine' RowsAre.mono ?qs ?qt2; (case qt2 => assumption); (case qs => k_extra "P15 my sub"))); (case qz => omega); (case qt => (intro r' ta' tm' nt' ca' u1' u2' u3' nc' I' oI' C' oC' D' ys' m' g' h' tk' E' hr' ht' hca' hC' hx' hy' F' N'; k_extra "P15 my steps"; k_extra "P15 my same"))); intro ys' g' hI' hl'; k_extra "P15 my steps"; exact ⟨_, _, _, rfl, by k_extra "P15 my all", hI', Same.mk (by k_asm) (by k_asm)⟩)); (focus (have hRn := hR.mono (fun q hq => hnw' q (by k_extra "P15 my sub1")); have hmn := hnw' _ (by k_extra "P15 my sub1" : (al, listOf vs.toArray k) ∈ _); have hc1 := hnw' _ (.tail _ (.tail _ (.tail _ (.tail _ (.head _))))); have hc2 := hnw' _ (.tail _ (.tail _ (.tail _ (.tail _ (.tail _ (.head _)))))); have hc3 := hnw' _ (.tail _ (.tail _ (.tail _ (.tail _ (.tail _ (.tail _ (.head _))))))); (show wpAny _ _ (eval _ _) _ _ _); k_extra "P15 my steps"; k_dflt (refine' rows_ints (fun r => prt 1 r.1) ?qh ?qF ?qN ?qm ?qr ?qz ?qt ?_; (case qh => with_unfolding_all rfl); (case qF => k_asm); (case qN => k_asm); (case qm => k_mem); (case qr => first | assumption | (refine' RowsAre.mono ?qs ?qt2; (case qt2 => assumption); (case qs => k_extra "P15 my sub"))); (case qz => omega); (case qt => (intro r' ta' tm' nt' ca' u1' u2' u3' nc' I' oI' C' oC' D' ys' m' g' h' tk' E' hr' ht' hca' hC' hx' hy' F' N'; k_extra "P15 my steps"; k_extra "P15 my same"))); intro ys' g' hI' hl'; k_extra "P15 my steps"; exact ⟨_, _, _, rfl, by k_extra "P15 my all", hI', Same.mk (by k_asm) (by k_asm)⟩)); (focus (have hRn := hR.mono (fun q hq => hnw' q (by k_extra "P15 my sub1")); have hmn := hnw' _ (by k_extra "P15 my sub1" : (al, listOf vs.toArray k) ∈ _); have hc1 := hnw' _ (.tail _ (.tail _ (.tail _ (.tail _ (.head _))))); have hc2 := hnw' _ (.tail _ (.tail _ (.tail _ (.tail _ (.tail _ (.head _)))))); have hc3 := hnw' _ (.tail _ (.tail _ (.tail _ (.tail _ (.tail _ (.tail _ (.head _))))))); (show wpAny _ _ (eval _ _) _ _ _); k_extra "P15 my steps"; k_dflt (refine' rows_ints (fun r => prt 2 r.1) ?qh ?qF ?qN ?qm ?qr ?qz ?qt ?_; (case qh => with_unfolding_all rfl); (case qF => k_asm); (case qN => k_asm); (case qm => k_mem); (case qr => first | assumption | (refine' RowsAre.mono ?qs ?qt2; (case qt2 => assumption); (case qs => k_extra "P15 my sub"))); (case qz => omega); (case qt => (intro r' ta' tm' nt' ca' u1' u2' u3' nc' I' oI' C' oC' D' ys' m' g' h' tk' E' hr' ht' hca' hC' hx' hy' F' N'; k_extra "P15 my steps"; k_extra "P15 my same"))); intro ys' g' hI' hl'; k_extra "P15 my steps"; exact ⟨_, _, _, rfl, by k_extra "P15 my all", hI', Same.mk (by k_asm) (by k_asm)⟩))))); intro B0 vs0 c0 B1 vs1 c1 B2 vs2 c2 g' i0 i1 i2 k0 k1 k2; simp only [Off1, and_true] at k0 k1 k2
  have hE0 : 0 < (ends 0 rows).length := by rw [ends_length]; exact hpos
  have hE1 : 0 < (ends 1 rows).length := by rw [ends_length]; exact hpos
  have hE2 : 0 < (ends 2 rows).length := by rw [ends_length]; exact hpos
  k_extra "P15 my steps"
  k_dflt (refine' vals_ints (fun i => lowOf i rows) ?qh ?qF ?qN ?qm ?qz ?qt ?_; (case qh => with_unfolding_all rfl); (case qF => k_asm); (case qN => k_asm); (case qm => k_mem); (case qz => exact Nat.le_of_ble_eq_true rfl); (case qt => (intro i' v' I' oI' C' oC' D' ys' m' g' h' tk' E' hi' hv' hC' hx' F' N'; obtain ⟨Bz, vz, cz, hBz, hPz, hiz⟩ := pick_of (B0 := B0) (B1 := B1) (B2 := B2) (c0 := c0) (c1 := c1) (c2 := c2) (fun i => ends i rows) i0 i1 i2 i' hi'; obtain rfl := pick_val hv' hBz; have hEz : 0 < (ends i' rows).length := (by rw [ends_length]; exact hpos); (show wpAny _ _ (eval _ _) _ _ _); k_extra "P15 my steps"; k_extra "P15 my same"))); intro ys' g' hI'
  k_extra "P15 my steps"
  k_dflt (refine' vals_ints (fun i => highOf i rows) ?qh ?qF ?qN ?qm ?qz ?qt ?_; (case qh => with_unfolding_all rfl); (case qF => k_asm); (case qN => k_asm); (case qm => k_mem); (case qz => exact Nat.le_of_ble_eq_true rfl); (case qt => (intro i' v' I' oI' C' oC' D' ys' m' g' h' tk' E' hi' hv' hC' hx' F' N'; obtain ⟨Bz, vz, cz, hBz, hPz, hiz⟩ := pick_of (B0 := B0) (B1 := B1) (B2 := B2) (c0 := c0) (c1 := c1) (c2 := c2) (fun i => ends i rows) i0 i1 i2 i' hi'; obtain rfl := pick_val hv' hBz; have hEz : 0 < (ends i' rows).length := (by rw [ends_length]; exact hpos); (show wpAny _ _ (eval _ _) _ _ _); k_extra "P15 my steps"; k_extra "P15 my same"))); intro ys' g' hI'
  k_extra "P15 my steps"
  all_goals try ((rename (_ && _) = false => qx); exact absurd ((right_all G).symm.trans qx) (by decide))
  all_goals try ((rename (Nat.cast (longOf rows) : Int) ≠ _ => qx); exact absurd rfl qx)
  (rename (_ && _) = true => qx); clear qx
  (rename News _ _ _ _ => kN); replace kN := news_sub kN (fun q h => .tail _ (.tail _ (.tail _ (.tail _ (.tail _ (.tail _ h))))))
  k_dflt (refine' my_len ?qN ?qm ?qr ?ql ?_; (case qN => k_asm); (case qm => k_mem); (case qr => first | assumption | (refine' RowsAre.mono ?qs ?qt2; (case qt2 => assumption); (case qs => k_extra "P15 my sub"))); (case ql => assumption)); intro t' tk'
  iterate 6 (all_goals ((fail_if_success (k_extra "P15 my stop")); (first | (k_unfold; (try dsimp only)) | (k_end; wrow_close) | walk1 | (dsimp only; walk1) | (leave1; walk_say "STEP leave1"; try dsimp only) | fail "no step")))
  · (rename _ = (1 : Int) => q1)
    k_extra "P15 my steps"
    (rename News h₀ _ _ _ => kN); (rename Fr h₀ _ _ _ => kF)
    rw [right_one q1]
    exact hret _ _ kF (news_sub kN (by k_extra "P15 my sub"))
  · (rename ¬ _ = (1 : Int) => q1)
    obtain ⟨ga, gb⟩ := right_two G q1
    obtain ⟨Bp, vp, cp, hBp, hPk, hip⟩ := pick_of (B0 := B0) (B1 := B1) (B2 := B2) (c0 := c0) (c1 := c1) (c2 := c2) (fun i => ends i rows) i0 i1 i2 (longOf rows) (long_lt rows)
    have hEp : 0 < (ends (longOf rows) rows).length := by rw [ends_length]; exact hpos
    k_extra "P15 my steps"
    refine' halves ?B ?F ?X ?N ?T ?kk ?dp ?un ?qm ?qr ?qG ?qx ?qd ?ql ?qh ?qga ?qgb ?_
    k_extra "my sit"
    case qga => assumption
    case qgb => assumption
    case qx => k_mem
    case qd => k_mem
    case ql => k_mem
    case qh => k_mem
    case qm => k_mem
    case qG => assumption
    case qr => first | assumption | (refine' RowsAre.mono ?qs ?qt2; (case qt2 => assumption); (case qs => k_extra "P15 my sub"))
    intro nw' S' n' x1' x2' al1' al2' h' tk' hS' b1' b2' hs' F' N'
    obtain ⟨dx1', la1', ha1', t11', t12', t13', nn1', u10', u11', u12', u13', u14', u15', vs1', kk1', b11', b12', b13', b14', b15', b16'⟩ := b1'
    obtain ⟨dx2', la2', ha2', t21', t22', t23', nn2', u20', u21', u22', u23', u24', u25', vs2', kk2', b21', b22', b23', b24', b25', b26'⟩ := b2'
    (try k_sweep); (try k_fold)
    k_extra "P15 my steps"
    k_dflt (refine' rows_filter (fun r => decide (prt (longOf rows) r.1 ≤ midOf (longOf rows) rows)) ?qh ?qF ?qN ?qm ?qr ?qz ?qt ?qv ?_; (case qh => with_unfolding_all rfl); (case qF => k_asm); (case qN => k_asm); (case qm => k_mem); (case qr => first | assumption | (refine' RowsAre.mono ?qs ?qt2; (case qt2 => assumption); (case qs => k_extra "P15 my sub"))); (case qz => omega); (case qt => (intro r' ta' tm' nt' ca' u1' u2' u3' nc' I' oI' C' oC' D' ys' m' g' h' tk' E' hr' ht' hca' hC' hx' F' N'; k_extra "P15 my steps"; exact ⟨rfl, Same.mk (by k_asm) (news_keep (by k_asm) (by k_extra "P15 my sub"))⟩)); (case qv => (intro v' I' oI' C' oC' D' ys' m' g' h' tk' E' hC' hx' F' N'; k_extra "P15 my steps"; exact ⟨rfl, Same.mk (by k_asm) (news_keep (by k_asm) (by k_extra "P15 my sub"))⟩))); intro ys' g' hRy
    k_extra "P15 my steps"
    k_dflt (refine' rows_filter (fun r => decide (midOf (longOf rows) rows < prt (longOf rows) r.1)) ?qh ?qF ?qN ?qm ?qr ?qz ?qt ?qv ?_; (case qh => with_unfolding_all rfl); (case qF => k_asm); (case qN => k_asm); (case qm => k_mem); (case qr => first | assumption | (refine' RowsAre.mono ?qs ?qt2; (case qt2 => assumption); (case qs => k_extra "P15 my sub"))); (case qz => omega); (case qt => (intro r' ta' tm' nt' ca' u1' u2' u3' nc' I' oI' C' oC' D' ys' m' g' h' tk' E' hr' ht' hca' hC' hx' F' N'; k_extra "P15 my steps"; exact ⟨rfl, Same.mk (by k_asm) (news_keep (by k_asm) (by k_extra "P15 my sub"))⟩)); (case qv => (intro v' I' oI' C' oC' D' ys' m' g' h' tk' E' hC' hx' F' N'; k_extra "P15 my steps"; exact ⟨rfl, Same.mk (by k_asm) (news_keep (by k_asm) (by k_extra "P15 my sub"))⟩))); intro ys' g' hRy
    k_extra "P15 my steps"
    (rename News h₀ _ _ _ => kN); (rename Fr h₀ _ _ _ => kF)
    exact hret _ _ kF (news_sub kN (by k_extra "P15 my sub"))
end
end
section
theorem reg_P16 : True := by
  w_top off
  trivial
section
variable {w : World} {p : Program} {loose : List Str} {mean : ExcName → Option Value} {mg mb : Str → Option Value} {dp un : Nat} {gd : Option (List Code)} {cn : Str} {cs : Scope} {a : Addr} {ccd : Value} {cl : List (Str × Addr)} {outer : List Env} {A₀ : Around} {base h₀ : Heap} {L : Addr} {m : Str → Option Value} {s : Shared} {Q E : Value → Shared → Prop} {news : Led}
theorem apart {ca da : Addr} {c d : Col} {t0 t1 t2 u0 u1 u2 : Tok} {n1 n2 : Nat} (B : Below A₀ base outer h₀) (F : Fr h₀ L s.heap m) (X : (Mine.hd.heap_39 w.params).In h₀) (N : News h₀ L s.heap news) (T : Top p loose mean mg mb h₀) (hkind : cs.kind = .function) (hdp : dp + 30 < recursionLimit) (hun : un + 300 < cLine) (okc : c.ok) (okd : d.ok) (hc : (ca, tupObj #[.int c.1 t0, .int c.2.1 t1, .int c.2.2 t2] n1) ∈ news) (hd : (da, tupObj #[.int d.1 u0, .int d.2.1 u1, .int d.2.2 u2] n2) ∈ news)
    (hret : ∀ h' tk' t', Fr h₀ L h' m → News h₀ L h' news → Q (.int ((2 * (c.1 - d.1)) ^ 2 + ((3 * (c.2.1 - d.2.1)) ^ 2 + ((1 * (c.2.2 - d.2.2)) ^ 2 + 0))) t') { s with heap := h', toks := tk' }) :
    wpAny (model PR w) (ktrTop dp un gd cn cs L a ccd cl outer) (call (.ref 129) [.ref ca, .ref da]) Q E s := by
  obtain ⟨c0, c1, c2⟩ := c
  obtain ⟨d0, d1, d2⟩ := d
  obtain ⟨⟨o1, o2⟩, ⟨o3, o4⟩, ⟨o5, o6⟩⟩ := okc
  obtain ⟨⟨p1, p2⟩, ⟨p3, p4⟩, ⟨p5, p6⟩⟩ := okd
  dsimp only at o1 o2 o3 o4 o5 o6 p1 p2 p3 p4 p5 p6 hc hd hret
  refine wpAny_call ?_
  k_extra "my enterC"
  k_extra "my steps"
  k_dflt (refine' rng_ints ((2 * (c0 - d0)) ^ 2) ((3 * (c1 - d1)) ^ 2) ((1 * (c2 - d2)) ^ 2) ?qh ?qF ?qN ?qr ?qb ?qt ?_; (case qh => with_unfolding_all rfl); (case qF => k_asm); (case qN => k_asm); (case qr => assumption); (case qb => rfl); (case qt => (intro i' f' hif' ti' I' oI' C' oC' D' ys' m' g' h' tk' E' hC' hX' F' N'; rcases hif' with ⟨rfl, rfl⟩ | ⟨rfl, rfl⟩ | ⟨rfl, rfl⟩; (focus (k_extra "my steps"; k_extra "my same")); (focus (k_extra "my steps"; k_extra "my same")); (focus (k_extra "my steps"; k_extra "my same"))))); intro ys' g' hI'
  k_extra "my steps"
  exact hret _ _ _ (by k_asm) (news_sub (by k_asm) (by k_extra "my sub"))
theorem law_far {ca da : Addr} {c d : Col} {t0 t1 t2 u0 u1 u2 : Tok} {n1 n2 : Nat} (B : Below A₀ base outer h₀) (F : Fr h₀ L s.heap m) (X : (Mine.hd.heap_39 w.params).In h₀) (N : News h₀ L s.heap news) (T : Top p loose mean mg mb h₀) (hkind : cs.kind = .function) (hdp : dp + 30 < recursionLimit) (hun : un + 300 < cLine) (okc : c.ok) (okd : d.ok) (hc : (ca, tupObj #[.int c.1 t0, .int c.2.1 t1, .int c.2.2 t2] n1) ∈ news) (hd : (da, tupObj #[.int d.1 u0, .int d.2.1 u1, .int d.2.2 u2] n2) ∈ news)
    (hret : ∀ h' tk' t', Fr h₀ L h' m → News h₀ L h' news → Q (.int (4 * (c.1 - d.1) ^ 2 + 9 * (c.2.1 - d.2.1) ^ 2 + (c.2.2 - d.2.2) ^ 2) t') { s with heap := h', toks := tk' }) :
    wpAny (model PR w) (ktrTop dp un gd cn cs L a ccd cl outer) (call (.ref 237) [.ref ca, .ref da]) Q E s := by
  obtain ⟨c0, c1, c2⟩ := c
  obtain ⟨d0, d1, d2⟩ := d
  obtain ⟨⟨o1, o2⟩, ⟨o3, o4⟩, ⟨o5, o6⟩⟩ := okc
  obtain ⟨⟨p1, p2⟩, ⟨p3, p4⟩, ⟨p5, p6⟩⟩ := okd
  dsimp only at o1 o2 o3 o4 o5 o6 p1 p2 p3 p4 p5 p6 hc hd hret
  refine wpAny_call ?_
  k_extra "my enter"
  iterate 35 (all_goals ((fail_if_success (k_extra "my stop")); (first | (k_unfold; (try dsimp only)) | (k_end; wrow_close) | walk1 | (dsimp only; walk1) | (leave1; walk_say "STEP leave1"; try dsimp only) | fail "no step")))
  (try dsimp only)
  k_extra "my steps"
  exact hret _ _ _ (by k_asm) (news_sub (by k_asm) (by k_extra "my sub"))
end
end
section
theorem reg_P17 : True := by
  w_top off
  k_with "P17 my steps" =>
    repeat' ((fail_if_success (k_extra "P17 my stop")); (first | (k_unfold; (try dsimp only)) | (k_end; wrow_close) | walk1 | (dsimp only; walk1) | (leave1; walk_say "STEP leave1"; try dsimp only) | fail "no step"))
  k_with "P17 my stop" =>
    with_reducible show LCp.SrcLP _ _ _ _ _ _ _ _ _ _ _ _ _ _ _
  k_with "P17 my stop" =>
    with_reducible show LCt.CompSrcT _ _ _ _ _ _ _ _ _ _ _ _ _ _ _
  k_with "P17 my stop" =>
    with_reducible show CompSrc _ _ _ _ _ _ _ _ _ _ _ _ _ _
  k_with "P17 my stop" =>
    with_reducible show CellSrc _ _ _ _ _ _ _ _ _ _ _ _ _ _
  k_with "P17 my stop" =>
    with_reducible show wpAny _ _ (pyIter (Value.ref _)) _ _ _
  k_with "P17 my stop" =>
    with_reducible show wpAny _ _ (setItem (Value.ref _) (Value.ref _) _) _ _ _
  k_with "P17 my stop" =>
    with_reducible show wpAny _ _ (call (Value.builtin "sorted") _) _ _ _
  k_with "P17 eval Dict nil nil" =>
    (k_here; k_dflt (refine' newDict_my ?k1 ?k2 (Top.nolimit (by k_asm)) ?_; (case k1 => k_asm); (case k2 => k_asm); k_whole); intro d' h' F' N' l1 lo'; (try k_lt l1); (try k_sweep))
  k_with "P17 my stop" =>
    with_reducible show wpAny _ _ (eval (PySem.Expr.ListComp _ _ _ _) _) _ _ _
  k_with "P17 my stop" =>
    with_reducible show wpAny _ _ (call (Value.builtin "len") [Value.ref _]) _ _ _
  k_with "P17 call ref" =>
    (k_here; k_dflt (refine' apart ?B ?F ?X ?N ?T ?kk ?dp ?un ?oc ?od ?hc ?hd ?_; k_extra "my sit"; (case hc => k_mem); (case hd => k_mem); (case oc => assumption); (case od => assumption); k_whole); intro h' tk' t' F' N'; (try k_sweep); (try k_fold))
  k_with "P17 subscriptTail" =>
    (k_here; (with_reducible show wpAny _ _ (subscriptTail _ _ (Value.ref _) (Value.int _ _)) _ _ _); k_dflt (refine' my_item ?qN ?qm ?q0 ?q1 ?qv ?_ ?qs; (case qN => k_asm); (case qm => k_mem); (case q0 => omega); (case q1 => omega); (case qv => assumption); (case qs => with_unfolding_all rfl)))
  trivial
local macro_rules | `(tactic| k_extra "own eval Dict nil nil") => `(tactic| k_extra "P17 eval Dict nil nil")
local macro_rules | `(tactic| k_extra "own call ref") => `(tactic| k_extra "P17 call ref")
local macro_rules | `(tactic| k_extra "own subscriptTail") => `(tactic| k_extra "P17 subscriptTail")
section
variable {w : World} {p : Program} {loose : List Str} {mean : ExcName → Option Value} {mg mb : Str → Option Value} {dp un : Nat} {gd : Option (List Code)} {cn : Str} {cs : Scope} {a : Addr} {ccd : Value} {cl : List (Str × Addr)} {outer : List Env} {A₀ : Around} {base h₀ : Heap} {L : Addr} {m : Str → Option Value} {s : Shared} {Q E : Value → Shared → Prop} {news : Led}
theorem nearest {pa da : Addr} {vs : List Value} {k : Nat} {cols : List Col} {d : Col} {u0 u1 u2 : Tok} {n2 : Nat} (B : Below A₀ base outer h₀) (F : Fr h₀ L s.heap m) (X : (Mine.hd.heap_39 w.params).In h₀) (N : News h₀ L s.heap news) (T : Top p loose mean mg mb h₀) (hkind : cs.kind = .function) (hdp : dp + 60 < recursionLimit) (hun : un + 500 < cLine) (hm : (pa, listOf vs.toArray k) ∈ news) (hC : ColsAre news vs cols) (h1 : 1 ≤ cols.length) (h5 : cols.length ≤ 5) (hok : ∀ c ∈ cols, c.ok) (okd : d.ok) (hd : (da, tupObj #[.int d.1 u0, .int d.2.1 u1, .int d.2.2 u2] n2) ∈ news)
    (hret : ∀ h' tk' t', Fr h₀ L h' m → News h₀ L h' news → Q (.int ((nearOf cols d : Nat)) t') { s with heap := h', toks := tk' }) :
    wpAny (model PR w) (ktrTop dp un gd cn cs L a ccd cl outer) (call (.ref 136) [.ref pa, .ref da]) Q E s := by
  refine wpAny_call ?_
  k_extra "my enter"
  k_extra "P17 my steps"
  k_dflt (refine' len_vals ?qN ?qm ?qv ?ql ?_; (case qN => k_asm); (case qm => k_mem); (case qv => exact hC.1); (case ql => omega))
  intro tl tkl
  k_extra "P17 my steps"
  (rename IsRange _ _ _ _ _ _ _ _ => kR)
  k_dflt (refine' quiet_range (n := cols.length - 1) (fun c : Nat × Tok => [("best", .int (c.1 : Nat) c.2)]) [] (fun i c => c.1 = nearN cols d i) (0, _) rfl rfl kR (small_one (by omega) (by omega) (by omega) (by omega)) (by rw [rangeSize_nat]; omega) ?qF ?qN ?qk ?qp ?_ ?_; (case qF => k_asm); (case qN => k_asm); (case qp => exact rfl); (case qk => exact fun q hq => (by (rcases List.mem_singleton.mp hq with rfl; rfl))))
  · rintro ⟨b, tb⟩ i ti u h tk nw hi hb hs F1 N1
    dsimp only at hb F1
    have hle := nearN_le cols d i
    have hi1 : i + 1 < cols.length := by omega
    have hbl : b < cols.length := by omega
    obtain ⟨v1, e1, a1, x1, x2, x3, nn1, rfl, hm1⟩ := hC.get (List.getElem?_eq_getElem hi1)
    obtain ⟨v2, e2, a2, y1, y2, y3, nn2, rfl, hm2⟩ := hC.get (List.getElem?_eq_getElem hbl)
    have ok1 := hok _ (List.getElem_mem hi1)
    have ok2 := hok _ (List.getElem_mem hbl)
    have g1 : cols.getD (i + 1) (0, 0, 0) = cols[i + 1] := by simp [List.getD, hi1]
    have g2 : cols.getD (nearN cols d i) (0, 0, 0) = cols[b] := by rw [← hb]; simp [List.getD, hbl]
    have hnx : nearN cols d (i + 1) = if far cols[i + 1] d < far cols[b] d then i + 1 else b := by (rw [nearN, g1, g2]; split <;> first | rfl | exact hb.symm)
    clear g1 g2
    generalize cols[i + 1] = c1 at hm1 ok1 hnx
    generalize cols[b] = c2 at hm2 ok2 hnx
    have e1' : vs[(1 + (i : Int)).toNat]? = some (.ref a1) := by rw [← e1]; congr 1; omega
    have e2' : vs[((b : Nat) : Int).toNat]? = some (.ref a2) := by rw [← e2]; congr 1
    replace hm1 := hs _ hm1
    replace hm2 := hs _ hm2
    replace hd := hs _ hd
    replace hm := hs _ hm
    clear hC
    k_extra "P17 my steps"
    · (rename _ < _ => hlt); (rename News _ _ _ _ => kN); (rename Fr _ _ _ _ => kF)
      rw [apart_far, apart_far] at hlt
      rw [if_pos hlt] at hnx
      exact ⟨.inl rfl, _, _, _, (i + 1, ti), rfl, kF, news_sub kN (by k_extra "my sub"), fun q hq => (by (rcases List.mem_singleton.mp hq with rfl; exact congrArg (fun z => some (Value.int z ti)) (by omega))), fun z hz hz2 _ => (by (have hz3 := hz2 _ (List.mem_singleton.mpr rfl); simp [kstB, hz, hz3])), hnx.symm⟩
    · (rename ¬ _ < _ => hlt); (rename News _ _ _ _ => kN); (rename Fr _ _ _ _ => kF)
      rw [apart_far, apart_far] at hlt
      rw [if_neg hlt] at hnx
      exact ⟨.inl rfl, _, _, _, (b, tb), rfl, kF, news_sub kN (by k_extra "my sub"), fun q hq => (by (rcases List.mem_singleton.mp hq with rfl; rfl)), fun z hz hz2 _ => (by (have hz3 := hz2 _ (List.mem_singleton.mpr rfl); simp [kstB, hz, hz3])), hnx.symm⟩
  · rintro ⟨b, tb⟩ u h tk hb F1 N1
    k_extra "P17 my steps"
    subst hb
    exact hret _ _ _ (by k_asm) (news_sub (by k_asm) (by k_extra "my sub"))
end
end
section
theorem reg_P18 : True := by
  w_top off
  k_with "P18 my steps" =>
    repeat' ((fail_if_success (k_extra "P18 my stop")); (first | (k_unfold; (try dsimp only)) | (k_end; wrow_close) | walk1 | (dsimp only; walk1) | (leave1; walk_say "STEP leave1"; try dsimp only) | fail "no step"))
  k_with "P18 my stop" =>
    with_reducible show LCp.SrcLP _ _ _ _ _ _ _ _ _ _ _ _ _ _ _
  k_with "P18 my stop" =>
    with_reducible show LCt.CompSrcT _ _ _ _ _ _ _ _ _ _ _ _ _ _ _
  k_with "P18 my stop" =>
    with_reducible show CompSrc _ _ _ _ _ _ _ _ _ _ _ _ _ _
  k_with "P18 my stop" =>
    with_reducible show CellSrc _ _ _ _ _ _ _ _ _ _ _ _ _ _
  k_with "P18 my stop" =>
    with_reducible show wpAny _ _ (pyIter (Value.ref _)) _ _ _
  k_with "P18 my stop" =>
    with_reducible show wpAny _ _ (setItem (Value.ref _) (Value.ref _) _) _ _ _
  k_with "P18 my stop" =>
    with_reducible show wpAny _ _ (call (Value.builtin "sorted") _) _ _ _
  k_with "P18 eval Dict nil nil" =>
    (k_here; k_dflt (refine' newDict_my ?k1 ?k2 (Top.nolimit (by k_asm)) ?_; (case k1 => k_asm); (case k2 => k_asm); k_whole); intro d' h' F' N' l1 lo'; (try k_lt l1); (try k_sweep))
  k_with "P18 my stop" =>
    with_reducible show wpAny _ _ (eval (PySem.Expr.ListComp _ _ _ _) _) _ _ _
  k_with "P18 call builtin:len" =>
    (k_here; (with_reducible show wpAny _ _ (call (Value.builtin "len") [Value.ref _]) _ _ _); k_dflt (refine' len_vals ?qN ?qm ?qv ?ql ?_; (case qN => k_asm); (case qm => k_mem); (case qv => assumption); (case ql => omega)); intro t' tk')
  k_with "P18 call ref" =>
    (k_here; k_dflt (refine' box_many ?B ?F ?X ?N ?T ?kk ?dp ?un ?qm ?qr ?qG ?qx ?qd ?ql ?qh ?_; k_extra "my sit"; (case qx => k_mem); (case qd => k_mem); (case ql => k_mem); (case qh => k_mem); (case qm => k_mem); (case qr => first | assumption | (refine' RowsAre.mono ?qs ?qt2; (case qt2 => assumption); (case qs => k_extra "my sub"))); (case qG => assumption); k_whole); intro h' tk' t' F' N'; (try k_sweep); (try k_fold))
  k_with "P18 call ref" =>
    (k_here; k_dflt (refine' box_spread ?B ?F ?X ?N ?T ?kk ?dp ?un ?qm ?qr ?qG ?qx ?qd ?ql ?qh ?_; k_extra "my sit"; (case qx => k_mem); (case qd => k_mem); (case ql => k_mem); (case qh => k_mem); (case qm => k_mem); (case qr => first | assumption | (refine' RowsAre.mono ?qs ?qt2; (case qt2 => assumption); (case qs => k_extra "my sub"))); (case qG => assumption); k_whole); intro h' tk' t' F' N'; (try k_sweep); (try k_fold))
  k_with "P18 subscriptTail" =>
    (k_here; (with_reducible show wpAny _ _ (subscriptTail _ _ (Value.ref _) (Value.int _ _)) _ _ _); k_dflt (refine' my_item ?qN ?qm ?q0 ?q1 ?qv ?_ ?qs; (case qN => k_asm); (case qm => k_mem); (case q0 => omega); (case q1 => omega); (case qv => assumption); (case qs => with_unfolding_all rfl)))
  trivial
local macro_rules | `(tactic| k_extra "own eval Dict nil nil") => `(tactic| k_extra "P18 eval Dict nil nil")
local macro_rules | `(tactic| k_extra "own call builtin:len") => `(tactic| k_extra "P18 call builtin:len")
local macro_rules | `(tactic| k_extra "own call ref") => `(tactic| k_extra "P18 call ref")
local macro_rules | `(tactic| k_extra "own subscriptTail") => `(tactic| k_extra "P18 subscriptTail")
section
variable {w : World} {p : Program} {loose : List Str} {mean : ExcName → Option Value} {mg mb : Str → Option Value} {dp un : Nat} {gd : Option (List Code)} {cn : Str} {cs : Scope} {a : Addr} {ccd : Value} {cl : List (Str × Addr)} {outer : List Env} {A₀ : Around} {base h₀ : Heap} {L : Addr} {m : Str → Option Value} {s : Shared} {Q E : Value → Shared → Prop} {news : Led}
theorem next_box {ba : Addr} {vs : List Value} {k : Nat} {lots : List (List Row)} {many : Int} {tm : Tok} (B : Below A₀ base outer h₀) (F : Fr h₀ L s.heap m) (X : (Mine.hd.heap_39 w.params).In h₀) (N : News h₀ L s.heap news) (T : Top p loose mean mg mb h₀) (hkind : cs.kind = .function) (hdp : dp + 70 < recursionLimit) (hun : un + 600 < cLine) (hm : (ba, listOf vs.toArray k) ∈ news) (hC : AllAt (IsBox w) news vs lots) (h4 : lots.length ≤ 4) (hG : ∀ r ∈ lots, GoodLot r)
    (hret : ∀ h' tk' t', Fr h₀ L h' m → News h₀ L h' news → Q (optV (nextOf lots many) t') { s with heap := h', toks := tk' }) :
    wpAny (model PR w) (ktrTop dp un gd cn cs L a ccd cl outer) (call (.ref 112) [.ref ba, .int many tm]) Q E s := by
  have hvl := hC.1
  refine wpAny_call ?_
  k_extra "my enter"
  k_extra "P18 my steps"
  (rename IsRange _ _ _ _ _ _ _ _ => kR)
  k_dflt (refine' quiet_range (n := lots.length) (fun c : (Option Nat × Int) × Tok × Tok => [("best", optV c.1.1 c.2.1), ("most", .int c.1.2 c.2.2)]) ["worth"] (fun i c => c.1 = nextN lots many i) ((none, 0), 0, _) rfl rfl kR (small_one (by omega) (by omega) (by omega) (by omega)) (by rw [rangeSize_nat]; omega) ?qF ?qN ?qk ?qp ?_ ?_; (case qF => k_asm); (case qN => k_asm); (case qp => exact rfl); (case qk => kst_all))
  · rintro ⟨⟨b, mo⟩, tb, tmo⟩ i ti u h tk nw hi hb hs F1 N1
    dsimp only at hb F1
    replace hs := fun q (hq : q ∈ news) => hs q (.tail _ hq)
    have hil : i < lots.length := hi
    obtain ⟨v1, e1, x, al, rfl, dx, la, ha, t1, t2, t3, bn, c0, c1, c2, c3, c4, c5, vb, kb, hx, hdx, hla, hha, hal, hR⟩ := hC.get (List.getElem?_eq_getElem hil)
    have G := hG _ (List.getElem_mem hil)
    have g1 : lots.getD i [] = lots[i] := by simp [List.getD, hil]
    generalize lots[i] = rows at hx hdx hla hha hal hR G g1
    have e1' : vs[(0 + (i : Int)).toNat]? = some (.ref x) := by rw [← e1]; congr 1; omega
    replace hx := hs _ hx
    replace hdx := hs _ hdx
    replace hla := hs _ hla
    replace hha := hs _ hha
    replace hal := hs _ hal
    replace hm := hs _ hm
    replace hR := hR.mono hs
    clear hC hG
    k_extra "P18 my steps"
    · (rename News _ _ _ _ => kN); (rename Fr _ _ _ _ => kF)
      exact ⟨.inl rfl, _, _, _, ((some i, _), ti, _), rfl, kF, news_sub kN (by k_extra "my sub"), fun q hq => (by (simp only [List.mem_cons, List.not_mem_nil, or_false] at hq; rcases hq with rfl | rfl; exact congrArg (fun z => some (Value.int z ti)) (by omega); rfl)), fun z hz hz2 hz3 => (by (have y1 : z ≠ "best" := hz2 _ (.head _)); (have y2 : z ≠ "most" := hz2 _ (.tail _ (.head _))); (have y3 : z ≠ "worth" := by (rintro rfl; exact absurd hz3 (by decide))); simp [kstB, hz, y1, y2, y3]), nextN_a g1 hb (by assumption) (by assumption) (by assumption)⟩
    · (rename News _ _ _ _ => kN); (rename Fr _ _ _ _ => kF)
      exact ⟨.inl rfl, _, _, _, ((b, mo), tb, tmo), rfl, kF, news_sub kN (by k_extra "my sub"), fun q hq => (by (simp only [List.mem_cons, List.not_mem_nil, or_false] at hq; rcases hq with rfl | rfl; rfl; rfl)), fun z hz hz2 hz3 => (by (have y1 : z ≠ "best" := hz2 _ (.head _)); (have y2 : z ≠ "most" := hz2 _ (.tail _ (.head _))); (have y3 : z ≠ "worth" := by (rintro rfl; exact absurd hz3 (by decide))); simp [kstB, hz, y1, y2, y3]), nextN_b g1 hb (by assumption) (by assumption) (by assumption)⟩
    · (rename News _ _ _ _ => kN); (rename Fr _ _ _ _ => kF)
      exact ⟨.inl rfl, _, _, _, ((some i, _), ti, _), rfl, kF, news_sub kN (by k_extra "my sub"), fun q hq => (by (simp only [List.mem_cons, List.not_mem_nil, or_false] at hq; rcases hq with rfl | rfl; exact congrArg (fun z => some (Value.int z ti)) (by omega); rfl)), fun z hz hz2 hz3 => (by (have y1 : z ≠ "best" := hz2 _ (.head _)); (have y2 : z ≠ "most" := hz2 _ (.tail _ (.head _))); (have y3 : z ≠ "worth" := by (rintro rfl; exact absurd hz3 (by decide))); simp [kstB, hz, y1, y2, y3]), nextN_c g1 hb (by assumption) (by assumption) (by assumption)⟩
    · (rename News _ _ _ _ => kN); (rename Fr _ _ _ _ => kF)
      exact ⟨.inl rfl, _, _, _, ((b, mo), tb, tmo), rfl, kF, news_sub kN (by k_extra "my sub"), fun q hq => (by (simp only [List.mem_cons, List.not_mem_nil, or_false] at hq; rcases hq with rfl | rfl; rfl; rfl)), fun z hz hz2 hz3 => (by (have y1 : z ≠ "best" := hz2 _ (.head _)); (have y2 : z ≠ "most" := hz2 _ (.tail _ (.head _))); (have y3 : z ≠ "worth" := by (rintro rfl; exact absurd hz3 (by decide))); simp [kstB, hz, y1, y2, y3]), nextN_d g1 hb (by assumption) (by assumption) (by assumption)⟩
    · (rename News _ _ _ _ => kN); (rename Fr _ _ _ _ => kF)
      exact ⟨.inl rfl, _, _, _, ((b, mo), tb, tmo), rfl, kF, news_sub kN (by k_extra "my sub"), fun q hq => (by (simp only [List.mem_cons, List.not_mem_nil, or_false] at hq; rcases hq with rfl | rfl; rfl; rfl)), fun z hz hz2 hz3 => (by (have y1 : z ≠ "best" := hz2 _ (.head _)); (have y2 : z ≠ "most" := hz2 _ (.tail _ (.head _))); (have y3 : z ≠ "worth" := by (rintro rfl; exact absurd hz3 (by decide))); simp [kstB, hz, y1, y2, y3]), nextN_e g1 hb (by assumption)⟩
  · rintro ⟨⟨b, mo⟩, tb, tmo⟩ u h tk hb F1 N1
    dsimp only at hb
    have e : b = nextOf lots many := congrArg Prod.fst hb
    k_extra "P18 my steps"
    rw [e]
    exact hret _ _ _ (by k_asm) (news_sub (by k_asm) (by k_extra "my sub"))
end
end
section
theorem reg_P19 : True := by
  w_top off
  k_with "P19 my tail" =>
    first | assumption | (refine off1_out ?_; k_extra "my dig") | (refine allLt_out ?_; k_extra "my dig") | (refine allLt_out1 ?_; k_extra "my dig") | (refine allLt_out2 ?_; k_extra "my dig") | (refine allLt_out3 ?_; k_extra "my dig")
  k_with "P19 k_all" =>
    k_extra "P19 my tail"
  k_with "P19 my steps" =>
    repeat' ((fail_if_success (k_extra "P19 my stop")); (first | (k_unfold; (try dsimp only)) | (k_end; wrow_close) | walk1 | (dsimp only; walk1) | (leave1; walk_say "STEP leave1"; try dsimp only) | fail "no step"))
  k_with "P19 my all" =>
    first | exact List.forall_mem_nil _ | (refine' List.forall_mem_cons.mpr ⟨?aa, ?bb⟩; (case aa => k_ne); (case bb => k_extra "P19 my all")) | k_extra "P19 my tail"
  k_with "P19 my stop" =>
    with_reducible show LCp.SrcLP _ _ _ _ _ _ _ _ _ _ _ _ _ _ _
  k_with "P19 my stop" =>
    with_reducible show LCt.CompSrcT _ _ _ _ _ _ _ _ _ _ _ _ _ _ _
  k_with "P19 my stop" =>
    with_reducible show CompSrc _ _ _ _ _ _ _ _ _ _ _ _ _ _
  k_with "P19 my stop" =>
    with_reducible show CellSrc _ _ _ _ _ _ _ _ _ _ _ _ _ _
  k_with "P19 my tupT" =>
    (k_dflt (refine' iter_tupTurns (vs := [_, _]) ?qh ?qF ?qN ?qm ?qc ?qd ?_; (case qh => with_unfolding_all rfl); (case qF => k_asm); (case qN => k_asm); (case qm => k_mem); (case qc => rfl); (case qd => rfl)); intro i' l1; (try k_lt l1))
  k_with "P19 my rngT" =>
    (k_dflt (refine' iter_rng3 ?qh ?qF ?qN ?qr ?qb ?_; (case qh => with_unfolding_all rfl); (case qF => k_asm); (case qN => k_asm); (case qr => assumption); (case qb => rfl)); intro i' l1; (try k_lt l1))
  k_with "P19 pyIter ref" =>
    (k_here; (with_reducible show wpAny _ _ (pyIter (Value.ref _)) (fun it s₂ => TurnsAt _ _ _ _ _ _ _ _ _ it s₂) _ _); first | k_extra "P19 my rngT" | k_extra "P19 my tupT")
  k_with "P19 UnrEndW" =>
    (k_dflt (refine' unrEnd_my ?qF ?qN ?qm ?qo ?_; (case qF => k_asm); (case qN => k_asm); (case qm => k_extra "my minus"); (case qo => k_extra "P19 my all")); refine' And.intro ?qK ?_; (case qK => first | exact trivial | exact ⟨by k_mem, trivial⟩))
  k_with "P19 exec For Name Call cons nil" =>
    (k_here; (rename Fr _ _ _ _ => lF'); (with_unfolding_all refine' For_turns lF' ?_; k_whole))
  k_with "P19 my tail" =>
    first | assumption | (refine fLt_out ?_; assumption) | (refine fLt_out1 ?_; assumption) | (refine fLt_out2 ?_; assumption) | (refine fLt_out3 ?_; assumption)
  k_with "P19 call builtin:len" =>
    (k_here; (with_reducible show wpAny _ _ (call (Value.builtin "len") [Value.ref _]) _ _ _); k_dflt (refine' len_vals ?qN ?qm ?qv ?ql ?_; (case qN => k_asm); (case qm => k_mem); (case qv => assumption); (case ql => omega)); intro t' tk')
  k_with "P19 my pairif" =>
    (k_here; k_dflt (refine ListComp_pairs_if (by k_asm) (by with_unfolding_all rfl) (by decide) (by rfl) (by decide) (by rfl) (by rfl) (by decide) ?_))
  k_with "P19 eval ListComp" =>
    ((with_reducible show wpAny _ _ (eval (PySem.Expr.ListComp _ [⟨PySem.Expr.Tuple _ _ _, PySem.Expr.Call _ _ _ _, [_], _⟩] _ _) _) _ _ _); k_extra "P19 my pairif")
  k_with "P19 exec Assign cons ListComp" =>
    ((with_reducible show wpAny _ _ (exec (PySem.Stmt.Assign _ (PySem.Expr.ListComp _ [⟨PySem.Expr.Tuple _ _ _, PySem.Expr.Call _ _ _ _, [_], _⟩] _ _) _) _) _ _ _); k_here; k_dflt (refine Assign_ListComp_pairs_if (by k_asm) (by rfl) (by with_unfolding_all rfl) (by with_unfolding_all rfl) (by decide) (by rfl) (by decide) (by rfl) (by rfl) (by decide) (by rfl) (by rfl) ?_))
  k_with "P19 my stop" =>
    with_reducible show wpAny _ _ (call (Value.type "enumerate") _) _ _ _
  k_with "P19 compareOp Eq ref ref" =>
    (k_here; (with_reducible show wpAny _ _ (compareOp _ (Value.ref _) (Value.ref _)) _ _ _); k_dflt (refine' ints_nil_eq ?qN ?qa ?qb ?qi ?qu ?_; (case qN => k_asm); (case qa => k_mem); (case qb => k_mem); (case qi => assumption); (case qu => ktr_units)))
  k_with "P19 my stop" =>
    with_reducible show wpAny _ _ (call (Value.builtin "list.index") _) _ _ _
  k_with "P19 call ref" =>
    (k_here; k_dflt (refine' places ?B ?F ?X ?N ?T ?kk ?dp ?un ?qm ?qr ?qG ?_; k_extra "my sit"; (case qm => k_mem); (case qr => first | assumption | (refine' RowsAre.mono ?qs ?qt2; (case qt2 => assumption); (case qs => k_extra "my sub"))); (case qG => assumption); k_whole); intro h' tk' t' F' N'; (try k_sweep); (try k_fold))
  k_with "P19 call ref" =>
    (k_here; k_dflt (refine' law_spread ?B ?F ?X ?N ?T ?kk ?dp ?un ?qm ?qr ?qG ?_; k_extra "my sit"; (case qm => k_mem); (case qr => first | assumption | (refine' RowsAre.mono ?qs ?qt2; (case qt2 => assumption); (case qs => k_extra "my sub"))); (case qG => assumption); k_whole); intro h' tk' t' F' N'; (try k_sweep); (try k_fold))
  k_with "P19 subscriptTail" =>
    (k_here; (with_reducible show wpAny _ _ (subscriptTail _ _ (Value.ref _) (Value.int _ _)) _ _ _); k_dflt (refine' my_item ?qN ?qm ?q0 ?q1 ?qv ?_ ?qs; (case qN => k_asm); (case qm => k_mem); (case q0 => omega); (case q1 => omega); (case qv => assumption); (case qs => with_unfolding_all rfl)))
  trivial
local macro_rules | `(tactic| k_all) => `(tactic| k_extra "P19 k_all")
local macro_rules | `(tactic| k_extra "own pyIter ref") => `(tactic| k_extra "P19 pyIter ref")
local macro_rules | `(tactic| k_extra "own UnrEndW") => `(tactic| k_extra "P19 UnrEndW")
local macro_rules | `(tactic| k_extra "own exec For Name Call cons nil") => `(tactic| k_extra "P19 exec For Name Call cons nil")
local macro_rules | `(tactic| k_extra "own call builtin:len") => `(tactic| k_extra "P19 call builtin:len")
local macro_rules | `(tactic| k_extra "own eval ListComp") => `(tactic| k_extra "P19 eval ListComp")
local macro_rules | `(tactic| k_extra "own exec Assign cons ListComp") => `(tactic| k_extra "P19 exec Assign cons ListComp")
local macro_rules | `(tactic| k_extra "own compareOp Eq ref ref") => `(tactic| k_extra "P19 compareOp Eq ref ref")
local macro_rules | `(tactic| k_extra "own call ref") => `(tactic| k_extra "P19 call ref")
local macro_rules | `(tactic| k_extra "own subscriptTail") => `(tactic| k_extra "P19 subscriptTail")
section
variable {w : World} {p : Program} {loose : List Str} {mean : ExcName → Option Value} {mg mb : Str → Option Value} {dp un : Nat} {gd : Option (List Code)} {cn : Str} {cs : Scope} {a : Addr} {ccd : Value} {cl : List (Str × Addr)} {outer : List Env} {A₀ : Around} {base h₀ : Heap} {L : Addr} {m : Str → Option Value} {s : Shared} {Q E : Value → Shared → Prop} {news : Led}
theorem law_next {la : Addr} {vs : List Value} {k : Nat} {lots : List (List Row)} {many : Int} {tm : Tok} (B : Below A₀ base outer h₀) (F : Fr h₀ L s.heap m) (X : (Mine.hd.heap_39 w.params).In h₀) (N : News h₀ L s.heap news) (T : Top p loose mean mg mb h₀) (hkind : cs.kind = .function) (hdp : dp + 100 < recursionLimit) (hun : un + 1000 < cLine) (hm : (la, listOf vs.toArray k) ∈ news) (hC : AllAt IsLot news vs lots) (h4 : lots.length ≤ 4) (hG : ∀ r ∈ lots, GoodLot r)
    (hret : ∀ h' tk' t', Fr h₀ L h' m → News h₀ L h' news → Q (optV (nextOf lots many) t') { s with heap := h', toks := tk' }) :
    wpAny (model PR w) (ktrTop dp un gd cn cs L a ccd cl outer) (call (.ref 230) [.ref la, .int many tm]) Q E s := by
  have hvl := hC.1
  refine wpAny_call ?_
  k_extra "my enterC"
  k_extra "P19 my steps"
  k_dflt (refine' src_enum_if (fun i => (i : Int)) (canCut lots) ?qh ?qF ?qN ?qm ?qs ?qx ?qt ?_)
  case qh => with_unfolding_all rfl
  case qF => k_asm
  case qN => k_asm
  case qm => k_mem
  case qs => omega
  case qx =>
    intro i' t' x' C' oC' D' zs' m' g' h' tk' E' hi' hx' hC' ha' hb' F' N'
    have hil : i' < lots.length := by omega
    obtain ⟨v1, e1, al, vl, kl, rfl, hal, hR⟩ := hC.get (List.getElem?_eq_getElem hil)
    obtain rfl : x' = .ref al := Option.some.inj (hx'.symm.trans e1)
    have G := hG _ (List.getElem_mem hil)
    have hcan : canCut lots i' = decide (1 < (lots[i'].length : Int)) := by (unfold canCut; rw [show lots.getD i' [] = lots[i'] from by simp [List.getD, hil]]; exact decide_eq_decide.mpr (by omega))
    have hll := hR.length
    have hl4 := G.len
    k_extra "P19 my steps"
    exact ⟨_, hcan.symm, rfl⟩
  case qt =>
    intro i' t' x' C' oC' D' zs' m' g' h' tk' E' hi' hx' hC' ha' hb' F' N'
    k_extra "P19 my steps"
    exact ⟨_, _, rfl, rfl⟩
  intro zs gz hI0
  have hI : IntsAre zs ((ableOf lots).map fun i : Nat => (i : Int)) := by rw [hvl] at hI0; exact hI0
  clear hI0
  k_extra "P19 my steps"
  · (rename List.map _ (ableOf lots) = [] => q1)
    have e := next_none hG many (List.map_eq_nil_iff.mp q1)
    rw [e] at hret
    exact hret _ _ 0 (by k_asm) (news_sub (by k_asm) (by k_extra "my sub"))
  (rename ¬ List.map _ (ableOf lots) = [] => q1)
  have hne : ableOf lots ≠ [] := fun e => q1 (by rw [e]; rfl)
  have hal4 := able_len lots
  k_dflt (refine' ints_ints (wtI lots many) ?qh ?qF ?qN ?qm ?qi ?qs ?qt ?_)
  case qh => with_unfolding_all rfl
  case qF => k_asm
  case qN => k_asm
  case qm => k_mem
  case qi => exact hI
  case qs => omega
  case qt =>
    intro n' t' I' oI' C' oC' D' ys' m' g' h' tk' E' hn' hC' hx' F' N'
    obtain ⟨i', rfl, hil⟩ := able_mem hn'
    obtain ⟨v1, e1, al, vl, kl, rfl, hal, hR⟩ := hC.get (List.getElem?_eq_getElem hil)
    have G := hG _ (List.getElem_mem hil)
    have e1' : vs[((i' : Nat) : Int).toNat]? = some (.ref al) := by rw [← e1]; congr 1
    have hw : wtI lots many i' = worthOf lots many lots[i'] := by (unfold wtI wtOf; rw [show lots.getD ((i' : Nat) : Int).toNat [] = lots[i'] from by simp [List.getD, hil]])
    k_extra "P19 my steps"
    · (rename 2 * _ ≤ many => qc)
      rw [show wtI lots many i' = manyOf lots[i'] from hw.trans (if_pos qc)]
      k_extra "my same"
    · (rename ¬ 2 * _ ≤ many => qc)
      rw [show wtI lots many i' = spreadOf lots[i'] from hw.trans (if_neg qc)]
      k_extra "my same"
  intro ys gy hY0
  have hY : IntsAre ys ((ableOf lots).map (wtOf lots many)) := by rw [wtI_map] at hY0; exact hY0
  have hwne : (ableOf lots).map (wtOf lots many) ≠ [] := fun e => hne (List.map_eq_nil_iff.mp e)
  have hwp : 0 < ((ableOf lots).map (wtOf lots many)).length := List.length_pos_iff.mpr hwne
  obtain ⟨hja, hnx⟩ := next_some hG many rfl (argN_ok hwne)
  obtain ⟨ta, e2⟩ := hI.get (argN ((ableOf lots).map (wtOf lots many))) _ (by rw [List.getElem?_map, List.getElem?_eq_getElem hja]; rfl)
  have e2' : zs[((argN ((ableOf lots).map (wtOf lots many)) : Nat) : Int).toNat]? = some (.int (((ableOf lots)[argN ((ableOf lots).map (wtOf lots many))] : Nat) : Int) ta) := e2
  have hja2 : argN ((ableOf lots).map (wtOf lots many)) < 1000 := by rw [List.length_map] at hal4; omega
  k_extra "P19 my steps"
  k_dflt (refine' my_index (j := argN ((ableOf lots).map (wtOf lots many))) ?qN ?qm ?qi ?qs ?qj ?_; (case qN => k_asm); (case qm => k_mem); (case qi => exact hY); (case qs => rw [List.length_map] at hal4 ⊢; omega); (case qj => exact argN_ok hwne))
  intro tj tkj
  k_extra "P19 my steps"
  rw [hnx] at hret
  exact hret _ _ ta (by k_asm) (news_sub (by k_asm) (by k_extra "my sub"))
end
end
section
theorem reg_P20 : True := by
  w_top off
  trivial
section
variable {w : World} {p : Program} {loose : List Str} {mean : ExcName → Option Value} {mg mb : Str → Option Value} {dp un : Nat} {gd : Option (List Code)} {cn : Str} {cs : Scope} {a : Addr} {ccd : Value} {cl : List (Str × Addr)} {outer : List Env} {A₀ : Around} {base h₀ : Heap} {L : Addr} {m : Str → Option Value} {s : Shared} {Q E : Value → Shared → Prop} {news : Led}
theorem law_paint {al : Addr} {vs : List Value} {ns : List Int} (B : Below A₀ base outer h₀) (F : Fr h₀ L s.heap m) (X : (Mine.hd.heap_39 w.params).In h₀) (N : News h₀ L s.heap news) (T : Top p loose mean mg mb h₀) (hkind : cs.kind = .function) (hdp : dp + 30 < recursionLimit) (hun : un + 300 < cLine) (hl : h₀.IsList al vs.toArray) (hi : IntsAre vs ns) (h63 : ns.length ≤ 63)
    (hret : ∀ pt o h' tk', Paint o → Off1 pt news → Fr h₀ L h' m → News h₀ L h' ((pt, o) :: news) → Q (.ref pt) { s with heap := h', toks := tk' }) :
    wpAny (model PR w) (ktrTop dp un gd cn cs L a ccd cl outer) (call (.ref 178) [.ref al]) Q E s := by
  have hlen := hi.length
  refine wpAny_call ?_
  k_extra "my enter"
  (rename Fr h₀ _ _ _ => FG)
  have hl' := hl.at fun o e => FG.keep _ o e
  k_extra "my steps"
  all_goals ((rename News h₀ _ _ _ => kN); (rename Fr h₀ _ _ _ => kF); (rename (∀ p, p ∈ news → _ < _) => hl9))
  all_goals refine hret _ _ _ _ ⟨_, _, _, _, _, rfl, ?_⟩ (off1_in fun q hq => Nat.ne_of_lt (hl9 q hq)) kF (news_sub kN (by k_extra "my sub"))
  all_goals (have e15 : (10 : Int) ^ Int.toNat 15 = 1000000000000000 := by decide)
  all_goals first | exact Int.le_refl 0 | omega
end
end
section
theorem reg_P21 : True := by
  w_top off
  k_with "P21 my steps" =>
    repeat' ((fail_if_success (k_extra "P21 my stop")); (first | (k_unfold; (try dsimp only)) | (k_end; wrow_close) | walk1 | (dsimp only; walk1) | (leave1; walk_say "STEP leave1"; try dsimp only) | fail "no step"))
  k_with "P21 my stop" =>
    with_reducible show LCp.SrcLP _ _ _ _ _ _ _ _ _ _ _ _ _ _ _
  k_with "P21 my stop" =>
    with_reducible show LCt.CompSrcT _ _ _ _ _ _ _ _ _ _ _ _ _ _ _
  k_with "P21 my stop" =>
    with_reducible show CompSrc _ _ _ _ _ _ _ _ _ _ _ _ _ _
  k_with "P21 my stop" =>
    with_reducible show CellSrc _ _ _ _ _ _ _ _ _ _ _ _ _ _
  k_with "P21 my stop" =>
    with_reducible show wpAny _ _ (call (Value.builtin "Exception.__init__") _) _ _ _
  k_with "P21 my stop" =>
    with_reducible show wpAny _ _ (setAttr (Value.ref _) _ _) _ _ _
  trivial
section
variable {w : World} {p : Program} {loose : List Str} {mean : ExcName → Option Value} {mg mb : Str → Option Value} {dp un : Nat} {gd : Option (List Code)} {cn : Str} {cs : Scope} {a : Addr} {ccd : Value} {cl : List (Str × Addr)} {outer : List Env} {A₀ : Around} {base h₀ : Heap} {L : Addr} {m : Str → Option Value} {s : Shared} {Q E : Value → Shared → Prop} {news : Led}
theorem range_error {msg : Str} {tm : Tok} (B : Below A₀ base outer h₀) (F : Fr h₀ L s.heap m) (X : (Mine.hd.heap_39 w.params).In h₀) (N : News h₀ L s.heap news) (T : Top p loose mean mg mb h₀) (hkind : cs.kind = .function) (hdp : dp + 20 < recursionLimit) (hun : un + 200 < cLine) (hmsg : msg.length ≤ 100)
    (hret : ∀ (e T dx : Addr) (t : Tok) (h' : Heap) (tk' : Nat), Fr h₀ L h' m → News h₀ L h' ((e, excObj 51 T (some dx)) :: (T, tupO [.str msg tm]) :: news) → (∀ q ∈ news, (@LT.lt Nat _ q.1 e)) → (@LT.lt Nat _ e T) → Q (.ref e) { s with heap := h', toks := tk' }) :
    wpAny (model PR w) (ktrTop dp un gd cn cs L a ccd cl outer) (call (.ref 51) [.str msg tm]) Q E s := by
  have XK := X.keeps F.keep
  obtain ⟨hp, gg, gd', tk, os⟩ := s
  refine wpAny_call ?_
  refine' make_excX (fI := 35) PySem.F.excBase_Exception ?hB ?hA ?hN ?hC ?hr (looks_specialIn XK ?c1) (looks_instIn XK ?c2) (looks_mroIn XK ?c3) (looks_findIn XK ?c4) (fun self => bind_fn XK self ?c5) ?_
  case hC => exact XK 51 _ rfl
  case hB => rfl
  case hA => rfl
  case hN => rfl
  case hr => exact Nat.le_of_ble_eq_true rfl
  case c1 => k_is
  case c2 => k_is
  case c3 => k_is
  case c4 => k_is
  case c5 => k_is
  have F2 := (F.push (tupO [.str msg tm])).push (excObj 51 hp.objs.size none)
  have N2 := (N.push F (tupO [.str msg tm])).push (F.push _) (excObj 51 hp.objs.size none)
  rw [Heap.size_push] at N2
  have lT : ∀ q ∈ news, q.1 < hp.objs.size := fun q hq => Heap.lt_size (N q hq).1
  have lE : (@LT.lt Nat _ hp.objs.size (hp.objs.size + 1)) := Nat.lt_succ_self _
  clear N F XK
  generalize hp.objs.size + 1 = ea at N2 lE ⊢
  generalize hp.objs.size = ta at N2 lE lT F2 ⊢
  k_extra "my enter"
  k_extra "P21 my steps"
  k_dflt (refine' method_type (v := .builtin "Exception.__init__") ?mF ?mX ?mt ?ms ?me ?mh ?_; (case mF => k_asm); (case mX => k_asm); (case mt => first | rfl | kernel_rfl); (case ms => decide +kernel); (case me => first | k_is | rfl | kernel_rfl); (case mh => first | rfl | decide +kernel))
  k_extra "P21 my steps"
  (rename Fr _ _ _ _ => kF); (rename News _ _ _ _ => kN); (rename Frag.In _ _ => kX)
  have XK := kX.keeps kF.keep
  have ne1 : ∀ q ∈ (ta, tupO [Value.str msg tm]) :: news, q.1 ≠ ea := fun q hq => by
    rcases List.mem_cons.mp hq with rfl | hq
    · exact Nat.ne_of_lt lE
    · exact Nat.ne_of_lt (Nat.lt_trans (lT q hq) lE)
  refine exc_init_K PySem.F.excBase_Exception rfl kF kN ne1 (XK 51 _ rfl) ?_
  intro T2 h2 F3 N3 l3 l4
  clear kN XK
  k_extra "P21 my steps"
  have ne2 : ∀ q ∈ (T2, tupO [Value.str msg tm]) :: (ta, tupO [Value.str msg tm]) :: news, q.1 ≠ ea := fun q hq => by
    rcases List.mem_cons.mp hq with rfl | hq
    · exact Nat.ne_of_gt l3
    · exact ne1 q hq
  refine exc_set_K (K := Mine.hd.heap_39 w.params) (l := [.ref 51, .ref 38, .type "Exception", .type "BaseException", .type "object"]) F3 kX N3 ne2 ?s1 ?s2 ?s3 ?s4 ?s5 ?s6 ?_
  case s1 => k_is
  case s2 => first | rfl | k_is
  case s3 => exact fun self => by rw [refuseLoop_ref, refuseLoop_ref]; exact refuse_exc self
  case s4 => k_is
  case s5 => k_is
  case s6 => first | rfl | k_is
  intro dx t4 h4 tk4 F4 N4 l5 l6
  clear N3 F3
  k_extra "P21 my steps"
  (rename Fr h₀ _ _ _ => kF); (rename News h₀ _ _ _ => kN)
  exact hret ea T2 dx t4 _ _ kF (news_sub kN (fun q hq => by
    rcases List.mem_cons.mp hq with rfl | hq
    · exact .head _
    · rcases List.mem_cons.mp hq with rfl | hq
      · exact .tail _ (.tail _ (.head _))
      · exact .tail _ (.tail _ (.tail _ (.tail _ hq))))) (fun q hq => Nat.lt_trans (lT q hq) lE) l3
end
end
section
theorem reg_P22 : True := by
  w_top off
  k_with "P22 my steps" =>
    repeat' ((fail_if_success (k_extra "P22 my stop")); (first | (k_unfold; (try dsimp only)) | (k_end; wrow_close) | walk1 | (dsimp only; walk1) | (leave1; walk_say "STEP leave1"; try dsimp only) | fail "no step"))
  k_with "P22 my stop" =>
    with_reducible show LCp.SrcLP _ _ _ _ _ _ _ _ _ _ _ _ _ _ _
  k_with "P22 my stop" =>
    with_reducible show LCt.CompSrcT _ _ _ _ _ _ _ _ _ _ _ _ _ _ _
  k_with "P22 my stop" =>
    with_reducible show CompSrc _ _ _ _ _ _ _ _ _ _ _ _ _ _
  k_with "P22 my stop" =>
    with_reducible show CellSrc _ _ _ _ _ _ _ _ _ _ _ _ _ _
  k_with "P22 my stop" =>
    with_reducible show wpAny _ _ (exec (PySem.Stmt.Raise _ _ _) _) _ _ _
  k_with "P22 my stop" =>
    with_reducible show wpAny _ _ (call (Value.ref 51) _) _ _ _
  k_with "P22 my stop" =>
    with_reducible show wpAny _ _ (compareOp CmpOp.Eq (Value.ref _) (Value.ref _)) _ _ _
  trivial
section
variable {w : World} {p : Program} {loose : List Str} {mean : ExcName → Option Value} {mg mb : Str → Option Value} {dp un : Nat} {gd : Option (List Code)} {cn : Str} {cs : Scope} {a : Addr} {ccd : Value} {cl : List (Str × Addr)} {outer : List Env} {A₀ : Around} {base h₀ : Heap} {L : Addr} {m : Str → Option Value} {s : Shared} {Q E : Value → Shared → Prop} {news : Led}
theorem cut_low {v : Value} {many : Int} {tm : Tok} (B : Below A₀ base outer h₀) (F : Fr h₀ L s.heap m) (X : (Mine.hd.heap_39 w.params).In h₀) (N : News h₀ L s.heap news) (T : Top p loose mean mg mb h₀) (hkind : cs.kind = .function) (hdp : dp + 40 < recursionLimit) (hun : un + 300 < cLine) (hlow : many < 1)
    (hexc : ∀ (e t : Addr) (vs' : List Value) (h₁ h' : Heap) (tk' : Nat), Fr h₀ L h₁ m → h₁.UpToSlots h' → RaisedS base h₁ (envX cn cs L a ccd cl :: outer) e (.ref 51) t vs' news h' → E (.ref e) { s with heap := h', toks := tk' }) :
    wpAny (model PR w) (ktrTop dp un gd cn cs L a ccd cl outer) (call (.ref 119) [v, .int many tm]) Q E s := by
  refine wpAny_call ?_
  k_extra "my enter"
  k_extra "P22 my steps"
  (rename Frag.In _ _ => kX)
  refine raise_XK (kX 51 _ rfl) rfl rfl ?_
  k_extra "P22 my steps"
  k_dflt (refine' range_error ?B ?F ?X ?N ?T ?kk ?dp ?un ?hmsg ?_; k_extra "my sit"; (case hmsg => exact Nat.le_of_ble_eq_true rfl); k_whole)
  intro e T dx t4 h4 tk4 F4 N4 l4 l5
  refine ⟨e, T, some dx, rfl, F4.keep, (N4 _ (.head _)).1, ?_⟩
  (try k_unfold); (try dsimp only)
  (rename Fr h₀ _ _ _ => FG)
  k_dflt (refine' leave_raiseD ?K F4 N4 ?ne ?hQ ?hk; (case K => k_asm); (case hk => exact rfl); (case ne => exact fun q hq => ⟨Nat.ne_of_lt (l4 q hq), Nat.ne_of_lt (Nat.lt_trans (l4 q hq) l5)⟩))
  intro h9 R9 U9
  exact hexc e T _ _ h9 _ FG U9 R9
theorem cut_empty {v : Addr} {k : Nat} {many : Int} {tm : Tok} (B : Below A₀ base outer h₀) (F : Fr h₀ L s.heap m) (X : (Mine.hd.heap_39 w.params).In h₀) (N : News h₀ L s.heap news) (T : Top p loose mean mg mb h₀) (hkind : cs.kind = .function) (hdp : dp + 40 < recursionLimit) (hun : un + 300 < cLine) (hm : (v, listOf #[] k) ∈ news) (hlow : 1 ≤ many)
    (hexc : ∀ (e t : Addr) (vs' : List Value) (h₁ h' : Heap) (tk' : Nat), Fr h₀ L h₁ m → h₁.UpToSlots h' → RaisedS base h₁ (envX cn cs L a ccd cl :: outer) e (.ref 51) t vs' news h' → E (.ref e) { s with heap := h', toks := tk' }) :
    wpAny (model PR w) (ktrTop dp un gd cn cs L a ccd cl outer) (call (.ref 119) [.ref v, .int many tm]) Q E s := by
  refine wpAny_call ?_
  k_extra "my enter"
  k_extra "P22 my steps"
  k_dflt (refine' ints_nil_eq (xs := []) (ns := []) ?qN ?qa ?qb .nil ?qu ?_; (case qN => k_asm); (case qa => k_mem); (case qb => k_mem); (case qu => ktr_units))
  k_extra "P22 my steps"
  (rename Frag.In _ _ => kX)
  refine raise_XK (kX 51 _ rfl) rfl rfl ?_
  k_extra "P22 my steps"
  k_dflt (refine' range_error ?B ?F ?X ?N ?T ?kk ?dp ?un ?hmsg ?_; k_extra "my sit"; (case hmsg => exact Nat.le_of_ble_eq_true rfl); k_whole)
  intro e T dx t4 h4 tk4 F4 N4 l4 l5
  refine ⟨e, T, some dx, rfl, F4.keep, (N4 _ (.head _)).1, ?_⟩
  (try k_unfold); (try dsimp only)
  (rename Fr h₀ _ _ _ => FG)
  k_dflt (refine' leave_raiseD ?K F4 N4 ?ne ?hQ ?hk; (case K => k_asm); (case hk => exact rfl); (case ne => exact fun q hq => ⟨Nat.ne_of_lt (l4 q hq), Nat.ne_of_lt (Nat.lt_trans (l4 q hq) l5)⟩))
  intro h9 R9 U9
  exact hexc e T _ _ h9 _ FG U9 (raised_less R9 (by k_extra "my sub"))
end
end
section
theorem reg_P23 : True := by
  w_top off
  k_with "P23 my steps" =>
    repeat' ((fail_if_success (k_extra "P23 my stop")); (first | (k_unfold; (try dsimp only)) | (k_end; wrow_close) | walk1 | (dsimp only; walk1) | (leave1; walk_say "STEP leave1"; try dsimp only) | fail "no step"))
  k_with "P23 my stop" =>
    with_reducible show LCp.SrcLP _ _ _ _ _ _ _ _ _ _ _ _ _ _ _
  k_with "P23 my stop" =>
    with_reducible show LCt.CompSrcT _ _ _ _ _ _ _ _ _ _ _ _ _ _ _
  k_with "P23 my stop" =>
    with_reducible show CompSrc _ _ _ _ _ _ _ _ _ _ _ _ _ _
  k_with "P23 my stop" =>
    with_reducible show CellSrc _ _ _ _ _ _ _ _ _ _ _ _ _ _
  k_with "P23 my stop" =>
    with_reducible show wpAny _ _ (exec (PySem.Stmt.While _ _ _ _) _) _ _ _
  k_with "P23 my stop" =>
    with_reducible show _ = false ∧ _
  k_with "P23 my stop" =>
    with_reducible show wpAny _ _ (call (Value.ref 96) _) _ _ _
  k_with "P23 my stop" =>
    with_reducible show wpAny _ _ (compareOp CmpOp.Eq (Value.ref _) (Value.ref _)) _ _ _
  trivial
section
variable {w : World} {p : Program} {loose : List Str} {mean : ExcName → Option Value} {mg mb : Str → Option Value} {dp un : Nat} {gd : Option (List Code)} {cn : Str} {cs : Scope} {a : Addr} {ccd : Value} {cl : List (Str × Addr)} {outer : List Env} {A₀ : Around} {base h₀ : Heap} {L : Addr} {m : Str → Option Value} {s : Shared} {Q E : Value → Shared → Prop} {news : Led}
theorem While_no {prog : Program} {A : Around} {Q : Flow → Shared → Prop} {env : Env} {test : PySem.Expr} {body : List Stmt} {pos : Pos} (F : Fr h₀ L s.heap m) (N : News h₀ L s.heap news)
    (turn : ∀ h₁ tk₁, Fr h₀ L h₁ m → News h₀ L h₁ news → wpAny (model prog w) A (isTrue test env (eval test env)) (fun b s₂ => b = false ∧ Q .next s₂) E { s with heap := h₁, toks := tk₁ })
    (hE : PassesOwn (model prog w) A env E := by passes_own) : wpAny (model prog w) A (exec (.While test body [] pos) env) Q E s := by
  refine While_inv (fun _ m₁ news₁ => m₁ = m ∧ news₁ = news) (n₀ := 0) F N ⟨rfl, rfl⟩ ?_ hE
  rintro n m₁ news₁ h₁ tk₁ F₁ N₁ ⟨rfl, rfl⟩
  refine wpAny_mono (turn h₁ tk₁ F₁ N₁) (fun b s₂ hb => ?_) fun _ _ e => e
  obtain ⟨rfl, hq⟩ := hb
  rw [if_neg (by decide)]
  exact hq
theorem cut_one {al : Addr} {vs : List Value} {k : Nat} {rows : List Row} {tm : Tok} (B : Below A₀ base outer h₀) (F : Fr h₀ L s.heap m) (X : (Mine.hd.heap_39 w.params).In h₀) (N : News h₀ L s.heap news) (T : Top p loose mean mg mb h₀) (hkind : cs.kind = .function) (hdp : dp + 60 < recursionLimit) (hun : un + 500 < cLine) (hm : (al, listOf vs.toArray k) ∈ news) (hR : RowsAre news vs rows) (G : GoodLot rows)
    (hret : ∀ S n x dx la ha t1 t2 t3 bn u0 u1 u2 u3 u4 u5 h' tk', Fr h₀ L h' m → News h₀ L h' ((S, listOf #[.ref x] n) :: (x, instObj 96 dx) :: (dx, boxD w al la ha t1 t2 t3 bn) :: (la, int3 (lowOf 0 rows) (lowOf 1 rows) (lowOf 2 rows) u0 u1 u2) :: (ha, int3 (highOf 0 rows) (highOf 1 rows) (highOf 2 rows) u3 u4 u5) :: news) →
      (∀ q ∈ news, q.1 ≠ S ∧ q.1 ≠ x ∧ q.1 ≠ dx ∧ q.1 ≠ la ∧ q.1 ≠ ha) → Q (.ref S) { s with heap := h', toks := tk' }) :
    wpAny (model PR w) (ktrTop dp un gd cn cs L a ccd cl outer) (call (.ref 119) [.ref al, .int 1 tm]) Q E s := by
  refine wpAny_call ?_
  k_extra "my enter"
  k_extra "P23 my steps"
  k_dflt (refine' rows_nil_eq ?qN ?qa ?qb ?qr1 ?qu ?qe ?_; (case qN => k_asm); (case qa => k_mem); (case qb => k_mem); (case qu => ktr_units); (case qr1 => exact hR.mono (by k_extra "my sub")); (case qe => exact G.ne))
  k_extra "P23 my steps"
  k_dflt (refine' box ?B ?F ?X ?N ?T ?kk ?dp ?un ?qm ?qr ?qG ?_; k_extra "my sit"; (case qm => k_mem); (case qr => first | assumption | (refine' RowsAre.mono ?qs ?qt2; (case qt2 => assumption); (case qs => k_extra "my sub"))); (case qG => assumption); k_whole)
  intro x2 dx2 la2 ha2 t1 t2 t3 n2 u0 u1 u2 u3 u4 u5 h2 tk2 F2 N2 q2
  k_extra "P23 my steps"
  (rename Fr _ _ _ _ => kF); (rename News _ _ _ _ => kN)
  k_dflt (refine' While_no kF kN ?_)
  intro h3 tk3 F3 N3
  clear kF kN
  k_extra "P23 my steps"
  refine ⟨rfl, ?_⟩
  k_extra "P23 my steps"
  (rename Fr h₀ _ _ _ => kF); (rename News h₀ _ _ _ => kN); (rename (_ < _ ∧ _ < _ ∧ _ < _ ∧ _ < _ ∧ _ < _ ∧ AllLt _ news) => lz)
  refine hret _ 0 x2 dx2 la2 ha2 t1 t2 t3 n2 u0 u1 u2 u3 u4 u5 _ _ kF (news_sub kN (fun q hq => ?_)) (fun q hq => ⟨allLt_out lz.2.2.2.2.2 q hq, q2 q (.tail _ hq)⟩)
  rcases List.mem_cons.mp hq with rfl | hq
  · exact .head _
  rcases List.mem_cons.mp hq with rfl | hq
  · exact .tail _ (.head _)
  rcases List.mem_cons.mp hq with rfl | hq
  · exact .tail _ (.tail _ (.head _))
  rcases List.mem_cons.mp hq with rfl | hq
  · exact .tail _ (.tail _ (.tail _ (.head _)))
  rcases List.mem_cons.mp hq with rfl | hq
  · exact .tail _ (.tail _ (.tail _ (.tail _ (.head _))))
  · exact .tail _ (.tail _ (.tail _ (.tail _ (.tail _ (.tail _ hq)))))
end
end
section
theorem reg_P24 : True := by
  w_top off
  k_with "P24 my tail" =>
    first | assumption | (refine off1_out ?_; k_extra "my dig") | (refine allLt_out ?_; k_extra "my dig") | (refine allLt_out1 ?_; k_extra "my dig") | (refine allLt_out2 ?_; k_extra "my dig") | (refine allLt_out3 ?_; k_extra "my dig")
  k_with "P24 k_all" =>
    k_extra "P24 my tail"
  k_with "P24 my steps" =>
    repeat' ((fail_if_success (k_extra "P24 my stop")); (first | (k_unfold; (try dsimp only)) | (k_end; wrow_close) | walk1 | (dsimp only; walk1) | (leave1; walk_say "STEP leave1"; try dsimp only) | fail "no step"))
  k_with "P24 my all" =>
    first | exact List.forall_mem_nil _ | (refine' List.forall_mem_cons.mpr ⟨?aa, ?bb⟩; (case aa => k_ne); (case bb => k_extra "P24 my all")) | k_extra "P24 my tail"
  k_with "P24 my stop" =>
    with_reducible show LCp.SrcLP _ _ _ _ _ _ _ _ _ _ _ _ _ _ _
  k_with "P24 my stop" =>
    with_reducible show LCt.CompSrcT _ _ _ _ _ _ _ _ _ _ _ _ _ _ _
  k_with "P24 my stop" =>
    with_reducible show CompSrc _ _ _ _ _ _ _ _ _ _ _ _ _ _
  k_with "P24 my stop" =>
    with_reducible show CellSrc _ _ _ _ _ _ _ _ _ _ _ _ _ _
  k_with "P24 my stop" =>
    with_reducible show wpAny _ _ (call (Value.ref 119) _) _ _ _
  k_with "P24 my stop" =>
    with_reducible show wpAny _ _ (call (Value.ref 59) _) _ _ _
  k_with "P24 my stop" =>
    with_reducible show wpAny _ _ (pyIter (Value.ref _)) _ _ _
  k_with "P24 my stop" =>
    with_reducible show wpAny _ _ (call (Value.builtin "sorted") _) _ _ _
  k_with "P24 my stop" =>
    with_reducible show wpAny _ _ (pyIter (Value.ref _)) _ _ _
  k_with "P24 my stop" =>
    with_reducible show wpAny _ _ (setItem (Value.ref _) (Value.ref _) _) _ _ _
  k_with "P24 my stop" =>
    with_reducible show wpAny _ _ (call (Value.builtin "sorted") _) _ _ _
  k_with "P24 eval Dict nil nil" =>
    (k_here; k_dflt (refine' newDict_my ?k1 ?k2 (Top.nolimit (by k_asm)) ?_; (case k1 => k_asm); (case k2 => k_asm); k_whole); intro d' h' F' N' l1 lo'; (try k_lt l1); (try k_sweep))
  k_with "P24 my stop" =>
    with_reducible show wpAny _ _ (eval (PySem.Expr.ListComp _ _ _ _) _) _ _ _
  k_with "P24 my tail" =>
    first | assumption | (refine fLt_out ?_; assumption) | (refine fLt_out1 ?_; assumption) | (refine fLt_out2 ?_; assumption) | (refine fLt_out3 ?_; assumption)
  trivial
local macro_rules | `(tactic| k_all) => `(tactic| k_extra "P24 k_all")
local macro_rules | `(tactic| k_extra "own eval Dict nil nil") => `(tactic| k_extra "P24 eval Dict nil nil")
section
variable {w : World} {p : Program} {loose : List Str} {mean : ExcName → Option Value} {mg mb : Str → Option Value} {dp un : Nat} {gd : Option (List Code)} {cn : Str} {cs : Scope} {a : Addr} {ccd : Value} {cl : List (Str × Addr)} {outer : List Env} {A₀ : Around} {base h₀ : Heap} {L : Addr} {m : Str → Option Value} {s : Shared} {Q E : Value → Shared → Prop} {news : Led}
theorem counted_none {pa x d l : Addr} {vs : List Value} {k : Nat} {t1 t2 t3 ta tb : Tok} (B : Below A₀ base outer h₀) (F : Fr h₀ L s.heap m) (X : (Mine.hd.heap_39 w.params).In h₀) (N : News h₀ L s.heap news) (T : Top p loose mean mg mb h₀) (hkind : cs.kind = .function) (hdp : dp + 40 < recursionLimit) (hun : un + 300 < cLine) (hp : (pa, listOf (.ref x :: vs).toArray k) ∈ news) (hx : (x, instObj 167 d) ∈ news) (hd : (d, planeD w l t1 t2 t3 ta tb) ∈ news)
    (hret : ∀ S h' tk', Fr h₀ L h' m → News h₀ L h' ((S, listOf #[] 0) :: news) → (∀ q ∈ news, q.1 ≠ S) → Q (.ref S) { s with heap := h', toks := tk' }) :
    wpAny (model PR w) (ktrTop dp un gd cn cs L a ccd cl outer) (call (.ref 59) [.ref pa]) Q E s := by
  refine wpAny_call ?_
  k_extra "my enterC"
  k_extra "P24 my steps"
  (rename IsRange _ _ _ _ _ _ _ _ => kR)
  k_dflt (refine' quiet_range (n := 0) (fun _ : Unit => []) [] (fun _ _ => True) () rfl rfl kR (small_one (by omega) (by omega) (by omega) (by omega)) rfl ?qF ?qN (fun _ h => nomatch h) trivial ?_ ?_; (case qF => k_asm); (case qN => k_asm))
  · intro c i t u h tk nw hi
    exact absurd hi (Nat.not_lt_zero _)
  · intro c u h tk _ F1 N1
    k_extra "P24 my steps"
    k_dflt (refine LCg.ListComp_U (F₀ := by k_asm) (by with_unfolding_all rfl) (by decide) (by rfl) (by decide) (by rfl) ?_)
    k_extra "P24 my steps"
    k_dflt (refine' sorted_empty ?sh ?sF ?sN ?sl ?sd ?_; (case sh => with_unfolding_all rfl); (case sF => k_asm); (case sN => k_asm); (case sd => k_mem); (case sl => assumption))
    intro Bq c2 h2 tk2 F2 N2 l2
    k_dflt (refine' vals_ints (vs := []) (k := c2) (fun _ => 0) ?sh F2 N2 (.head _) (Nat.zero_le _) ?qt ?_; (case sh => with_unfolding_all rfl))
    case qt =>
      intro i v I oI C oC D ys m2 g2 h3 tk3 E3 hi
      exact absurd hi (Nat.not_lt_zero _)
    intro zs g2 hZ
    obtain rfl : zs = [] := by cases hZ; rfl
    k_extra "P24 my steps"
    (rename Fr h₀ _ _ _ => kF); (rename News h₀ _ _ _ => kN); (rename _ ∧ _ ∧ _ ∧ Off1 _ news => ox)
    exact hret _ _ _ kF (news_put kN (.head _) (by k_extra "my sub")) (off1_out ox.2.2.2)
end
end
section
theorem reg_P25 : True := by
  w_top off
  k_with "P25 my steps" =>
    repeat' ((fail_if_success (k_extra "P25 my stop")); (first | (k_unfold; (try dsimp only)) | (k_end; wrow_close) | walk1 | (dsimp only; walk1) | (leave1; walk_say "STEP leave1"; try dsimp only) | fail "no step"))
  k_with "P25 my stop" =>
    with_reducible show LCp.SrcLP _ _ _ _ _ _ _ _ _ _ _ _ _ _ _
  k_with "P25 my stop" =>
    with_reducible show LCt.CompSrcT _ _ _ _ _ _ _ _ _ _ _ _ _ _ _
  k_with "P25 my stop" =>
    with_reducible show CompSrc _ _ _ _ _ _ _ _ _ _ _ _ _ _
  k_with "P25 my stop" =>
    with_reducible show CellSrc _ _ _ _ _ _ _ _ _ _ _ _ _ _
  k_with "P25 my stop" =>
    with_reducible show wpAny _ _ (call (Value.ref 119) _) _ _ _
  k_with "P25 my stop" =>
    with_reducible show wpAny _ _ (call (Value.ref 59) _) _ _ _
  k_with "P25 my stop" =>
    with_reducible show wpAny _ _ (pyIter (Value.ref _)) _ _ _
  k_with "P25 my stop" =>
    with_reducible show wpAny _ _ (call (Value.builtin "sorted") _) _ _ _
  trivial
section
variable {w : World} {p : Program} {loose : List Str} {mean : ExcName → Option Value} {mg mb : Str → Option Value} {dp un : Nat} {gd : Option (List Code)} {cn : Str} {cs : Scope} {a : Addr} {ccd : Value} {cl : List (Str × Addr)} {outer : List Env} {A₀ : Around} {base h₀ : Heap} {L : Addr} {m : Str → Option Value} {s : Shared} {Q E : Value → Shared → Prop} {news : Led}
theorem palette_none {pa x d l : Addr} {vs : List Value} {k : Nat} {t1 t2 t3 ta tb tm : Tok} {many : Int} (B : Below A₀ base outer h₀) (F : Fr h₀ L s.heap m) (X : (Mine.hd.heap_39 w.params).In h₀) (N : News h₀ L s.heap news) (T : Top p loose mean mg mb h₀) (hkind : cs.kind = .function) (hdp : dp + 60 < recursionLimit) (hun : un + 500 < cLine) (hp : (pa, listOf (.ref x :: vs).toArray k) ∈ news) (hx : (x, instObj 167 d) ∈ news) (hd : (d, planeD w l t1 t2 t3 ta tb) ∈ news) (hlow : 1 ≤ many)
    (hexc : ∀ (e t : Addr) (vs' : List Value) (h₁ h' : Heap) (tk' : Nat), Fr h₀ L h₁ m → h₁.UpToSlots h' → RaisedS base h₁ (envX cn cs L a ccd cl :: outer) e (.ref 51) t vs' news h' → E (.ref e) { s with heap := h', toks := tk' }) :
    wpAny (model PR w) (ktrTop dp un gd cn cs L a ccd cl outer) (call (.ref 124) [.ref pa, .int many tm]) Q E s := by
  refine wpAny_call ?_
  k_extra "my enter"
  k_extra "P25 my steps"
  k_dflt (refine' counted_none ?B ?F ?X ?N ?T ?kk ?dp ?un ?qp ?qx ?qd ?_; k_extra "my sit"; (case qp => k_mem); (case qx => k_mem); (case qd => k_mem); k_whole)
  intro S h2 tk2 F2 N2 l2
  k_extra "P25 my steps"
  k_dflt (refine' cut_empty ?B ?F ?X ?N ?T ?kk ?dp ?un ?qm ?ql ?_; k_extra "my sit"; (case qm => k_mem); (case ql => exact hlow); k_whole)
  intro e t vs' h4 h5 tk5 F4 U4 R4
  (try k_unfold); (try dsimp only)
  (rename Fr h₀ _ _ _ => FG)
  k_dflt (refine' leave_onS ?K F4 R4 U4 ?hQ; (case K => k_asm))
  intro h9 R9 _ U9
  exact hexc e _ _ _ h9 _ FG U9 (raised_less R9 (by k_extra "my sub"))
end
end
section
theorem reg_P26 : True := by
  w_top off
  k_with "P26 my steps" =>
    repeat' ((fail_if_success (k_extra "P26 my stop")); (first | (k_unfold; (try dsimp only)) | (k_end; wrow_close) | walk1 | (dsimp only; walk1) | (leave1; walk_say "STEP leave1"; try dsimp only) | fail "no step"))
  k_with "P26 my stop" =>
    with_reducible show LCp.SrcLP _ _ _ _ _ _ _ _ _ _ _ _ _ _ _
  k_with "P26 my stop" =>
    with_reducible show LCt.CompSrcT _ _ _ _ _ _ _ _ _ _ _ _ _ _ _
  k_with "P26 my stop" =>
    with_reducible show CompSrc _ _ _ _ _ _ _ _ _ _ _ _ _ _
  k_with "P26 my stop" =>
    with_reducible show CellSrc _ _ _ _ _ _ _ _ _ _ _ _ _ _
  k_with "P26 my stop" =>
    with_reducible show wpAny _ _ (callWith _ (Value.ref _) [] _ []) _ _ _
  k_with "P26 my stop" =>
    with_reducible show wpAny _ _ (noteFrame _ _) _ _ _
  trivial
section
variable {w : World} {p : Program} {loose : List Str} {mean : ExcName → Option Value} {mg mb : Str → Option Value} {dp un : Nat} {gd : Option (List Code)} {cn : Str} {cs : Scope} {a : Addr} {ccd : Value} {cl : List (Str × Addr)} {outer : List Env} {A₀ : Around} {base h₀ : Heap} {L : Addr} {m : Str → Option Value} {s : Shared} {Q E : Value → Shared → Prop} {news : Led}
theorem refused {f : Addr} {oc : Value} {od : Option Addr} {fd : FuncData} {sl : Array (Option Value)} (B : Below A₀ h₀ [] h₀) (F : Fr h₀ L s.heap m) (X : (Mine.hd.heap_39 w.params).In h₀) (N : News h₀ L s.heap news) (T : Top p loose mean mg mb h₀) (hkind : cs.kind = .function) (hdp : dp + 80 < recursionLimit) (hun : un + 700 < cLine) (hf : (f, (⟨oc, od, .func fd, sl⟩ : Obj)) ∈ news)
    (hdeed : ∀ {g : Heap} {L₁ a₁ : Addr} {h₁ : Heap} {m₁ : Str → Option Value} {tk₁ : Nat} {dp₁ un₁ : Nat} {gd₁ : Option (List Code)} {cn₁ : Str} {cs₁ : Scope} {ccd₁ : Value} {Q₁ E₁ : Value → Shared → Prop},
      Fr h₀ L g m → Fr g L₁ h₁ m₁ → News g L₁ h₁ news → Below (ktrTop dp un gd cn cs L a ccd cl []) h₀ [envX cn cs L a ccd cl] g → (Mine.hd.heap_39 w.params).In g → Top p loose mean mg mb g → cs₁.kind = .function → dp₁ ≤ dp + 1 → un₁ ≤ un + 20 →
      (∀ (e t : Addr) (vs' : List Value) (h₂ h' : Heap) (tk' : Nat), Fr g L₁ h₂ m₁ → h₂.UpToSlots h' → RaisedS h₀ h₂ [envX cn₁ cs₁ L₁ a₁ ccd₁ [], envX cn cs L a ccd cl] e (.ref 51) t vs' news h' → E₁ (.ref e) { s with heap := h', toks := tk' }) →
      wpAny (model PR w) (ktrTop dp₁ un₁ gd₁ cn₁ cs₁ L₁ a₁ ccd₁ [] [envX cn cs L a ccd cl]) (call (.ref f) []) Q₁ E₁ { s with heap := h₁, toks := tk₁ })
    (hret : ∀ h' tk', Fr h₀ L h' m → News h₀ L h' news → Q (.bool true) { s with heap := h', toks := tk' }) :
    wpAny (model PR w) (ktrTop dp un gd cn cs L a ccd cl []) (call (.ref 244) [.ref f]) Q E s := by
  refine wpAny_call ?_
  k_dflt (refine' code_defSX ?k1 ?k2 ?k3 ?k4 ?k5 ?kA ?kF ?kK ?k6 ?k7 ?k8 ?k9 ?kB ?_ ?c2 ?c3 ?c4 ?c5; (case kA => exact rfl); (case kF => exact rfl); (case kK => first | exact rfl | assumption); (case k1 => k_asm); (case k2 => k_asm); (case k3 => k_asm); (case k4 => k_asm); (case k5 => k_asm); (case k6 => k_is); (case k7 => k_is); (case k8 => ktr_room); (case k9 => exact BindsTo.of_eq rfl); (case c5 => decide); (case kB => exact locs rfl); (case c2 => exact rfl); (case c3 => exact rfl); (case c4 => exact rfl); k_whole; intro g' L' h' FG' F' N' B' X' T' D'; (try dsimp only); (try k_fold))
  k_extra "P26 my steps"
  refine callWith_F0 (FnAt.of (by k_asm) hf) ?_
  k_dflt (refine' hdeed ?q1 ?q2 ?q3 ?q4 ?q5 ?q6 ?q7 ?q8 ?q9 ?_; (case q1 => k_asm); (case q2 => k_asm); (case q3 => k_asm); (case q4 => k_asm); (case q5 => k_asm); (case q6 => k_asm); (case q7 => exact rfl); (case q8 => exact Nat.le_refl _); k_whole)
  case q9 => exact Nat.add_le_add_left (by decide) un
  intro e t vs' h₂ h₃ tk₃ F₂ U₂ R₂
  k_dflt (refine' caught_SO0 (KF := Mine.hd.heap_39 w.params) R₂ F₂ ?K U₂ X T ?D KtsTurn.refl ?ex ?q ?_; (case K => k_asm); (case D => assumption); (case ex => k_is); (case q => kts_isx); k_whole)
  intro h₄ g₄ n₄ T₄ F₄ N₄ G₄ N₅ B₄ X₄ P₄ D₄
  k_extra "P26 my steps"
  (rename Fr h₀ L _ _ => kF); (rename News h₀ L _ _ => kN)
  exact hret _ _ kF kN
end
end
section
theorem reg_P27 : True := by
  w_top off
  k_with "P27 my steps" =>
    repeat' ((fail_if_success (k_extra "P27 my stop")); (first | (k_unfold; (try dsimp only)) | (k_end; wrow_close) | walk1 | (dsimp only; walk1) | (leave1; walk_say "STEP leave1"; try dsimp only) | fail "no step"))
  k_with "P27 my stop" =>
    with_reducible show LCp.SrcLP _ _ _ _ _ _ _ _ _ _ _ _ _ _ _
  k_with "P27 my stop" =>
    with_reducible show LCt.CompSrcT _ _ _ _ _ _ _ _ _ _ _ _ _ _ _
  k_with "P27 my stop" =>
    with_reducible show CompSrc _ _ _ _ _ _ _ _ _ _ _ _ _ _
  k_with "P27 my stop" =>
    with_reducible show CellSrc _ _ _ _ _ _ _ _ _ _ _ _ _ _
  k_with "P27 my stop" =>
    with_reducible show wpAny _ _ (compareOp CmpOp.NotEq (Value.ref _) (Value.ref _)) _ _ _
  k_with "P27 my stop" =>
    with_reducible show wpAny _ _ (compareOp CmpOp.NotEq (optV _ _) (optV _ _)) _ _ _
  k_with "P27 my stop" =>
    with_reducible show wpAny _ _ (call (Value.ref 119) _) _ _ _
  k_with "P27 my stop" =>
    with_reducible show wpAny _ _ (call (Value.ref 124) _) _ _ _
  k_with "P27 my stop" =>
    with_reducible show wpAny _ _ (call (Value.ref 244) _) _ _ _
  k_with "P27 my stop" =>
    with_reducible show wpAny _ _ (call (Value.ref _) []) _ _ _
  k_with "P27 my stop" =>
    with_reducible show wpAny _ _ (compareOp CmpOp.Eq (Value.ref _) (Value.ref _)) _ _ _
  trivial
section
variable {w : World} {p : Program} {loose : List Str} {mean : ExcName → Option Value} {mg mb : Str → Option Value} {dp un : Nat} {gd : Option (List Code)} {cn : Str} {cs : Scope} {a : Addr} {ccd : Value} {cl : List (Str × Addr)} {outer : List Env} {A₀ : Around} {base h₀ : Heap} {L : Addr} {m : Str → Option Value} {s : Shared} {Q E : Value → Shared → Prop} {news : Led}
theorem law_tail2 : (fun {a : Arguments} {b : List Stmt} {sc : Scope} (_ : fnAt 30 = (a, b, sc)) =>
    ∀ {w : World} {p : Program} {loose : List Str} {mean : ExcName → Option Value} {mg mb : Str → Option Value} {h₀ : Heap} {L fa D5 D8 x0 d0 l0 : Addr} {o3 o4 o5 : Obj} {t5 : Led} {ys qs' : List Value} {xs : List (List Row)} {p1 p2 p3 pa pb tm : Tok} {mm : Int} {s : Shared} {m : Str → Option Value},
    Below callerA h₀ [] h₀ → (Mine.hd.heap_39 w.params).In h₀ → Top p loose mean mg mb h₀ → Hold (CodeHd h₀ 248 246) → (@LT.lt Nat _ 246 L) →
    Fr h₀ L s.heap m → News h₀ L s.heap ((D8, lst (.ref x0 :: qs')) :: (L + 1 + 1 + 1 + 1 + 1, o5) :: (L + 1 + 1 + 1 + 1, o4) :: (L + 1 + 1 + 1, o3) :: (246, tabObj #[]) :: t5) →
    o5.data = .cell (some (.ref D8)) → o4.data = .cell (some (.int mm tm)) → o3.data = .cell (some (.ref D5)) →
    Off1 (L + 1 + 1 + 1 + 1 + 1) t5 → Off1 (L + 1 + 1 + 1 + 1) t5 → Off1 (L + 1 + 1 + 1) t5 → Off1 246 t5 → Off1 D8 ((L + 1 + 1 + 1 + 1 + 1, o5) :: (L + 1 + 1 + 1 + 1, o4) :: (L + 1 + 1 + 1, o3) :: (246, tabObj #[]) :: t5) →
    qs'.length = 2 → (x0, instObj 167 d0) ∈ t5 → (d0, planeD w l0 p1 p2 p3 pa pb) ∈ t5 → (D5, lst ys) ∈ t5 → AllAt IsLot t5 ys xs → (∀ r ∈ xs, GoodLot r) → 2 ≤ xs.length → xs.length ≤ 4 → 1 ≤ mm →
    wpAny (model PR w) (callerA.deeper (envOfC "law" sc L fa (.ref 248))) (execs (b.drop 10) (envOfC "law" sc L fa (.ref 248))) (LawPost h₀ L s) (fun _ _ => False) s) rfl := by
  intro w p loose mean mg mb h₀ L fa D5 D8 x0 d0 l0 o3 o4 o5 t5 ys qs' xs p1 p2 p3 pa pb tm mm s m B X T hcode hL F N d5 d4 d3 oc5 oc4 oc3 ot q9 hql hx0 hd0 hm6 hLo hGx hx2 hx4 hmm1
  simp only [List.drop]
  have q9r := q9
  simp only [Off1] at q9
  have hyl := hLo.1
  have codeHd : CodeHd h₀ 248 246 := hcode

  k_extra "P27 my steps"
  obtain ⟨y0, ys', rfl⟩ : ∃ y0 ys', ys = y0 :: ys' := by
    cases ys with
    | nil => rw [← hyl] at hx2; exact absurd hx2 (by decide)
    | cons v r => exact ⟨v, r, rfl⟩
  obtain ⟨al0, vs0, k0, rfl, hal0, hR0⟩ := hLo.2 0 y0 xs[0] rfl (List.getElem?_eq_getElem (by omega))
  have G0 := hGx _ (List.getElem_mem (by omega : 0 < xs.length))
  generalize xs[0] = rows0 at hR0 G0

  k_dflt (refine' refused ?B ?F ?X ?N ?T ?kk ?dp ?un ?hf ?hdeed ?_; k_extra "my sit"; (case hf => k_mem); k_whole)
  case hdeed =>
    intro gR LR aR hR mR tkR dpR unR gdR cnR csR ccdR QR ER FG1 FR1 NR BR XR TR hkR hdR huR hexc
    refine wpAny_call ?_
    refine' kla_code ?k1 ?k2 ?k3 ?k4 ?k5 ?kA ?kF ?kK ?k6 ?k7 ?k8 ?k9 ?kB ?_ ?c2 ?c3 ?c4 ?c5; (case kA => exact rfl); (case kF => exact rfl); (case kK => first | exact rfl | assumption); (case k1 => k_asm); (case k2 => k_asm); (case k3 => k_asm); (case k4 => k_asm); (case k5 => k_asm); (case k6 => k_mem); (case k7 => exact codeRec_news (by k_asm) (by k_mem) (by assumption) (by assumption)); (case k8 => ktr_room); (case k9 => exact rfl); (case c5 => decide); (case kB => exact locs rfl); (case c2 => exact rfl); (case c3 => exact rfl); (case c4 => exact rfl); k_whole; intro g' L' h' FG' F' N' B' X' T'; (try dsimp only); (try k_fold)
    k_extra "P27 my steps"
    k_dflt (refine' palette_none ?B ?F ?X ?N ?T ?kk ?dp ?un ?qp ?qx ?qd ?ql ?_; k_extra "my sit"; (case qp => k_mem); (case qx => k_mem); (case qd => k_mem); (case ql => exact hmm1); k_whole)
    intro e9 t9 vs9 h9 h10 tk10 F9 U9 R9
    (try k_unfold); (try dsimp only)
    refine leave_onX rfl (by k_asm) F9 R9 U9 fun h11 R11 U11 => ?_
    exact hexc e9 _ _ _ h11 _ (by k_asm) U11 (raised_less R11 (by k_extra "my sub"))

  intro hA tkA FA NA
  k_extra "P27 my steps"

  k_dflt (refine' refused ?B ?F ?X ?N ?T ?kk ?dp ?un ?hf ?hdeed ?_; k_extra "my sit"; (case hf => k_mem); k_whole)
  case hdeed =>
    intro gR LR aR hR mR tkR dpR unR gdR cnR csR ccdR QR ER FG1 FR1 NR BR XR TR hkR hdR huR hexc
    refine wpAny_call ?_
    refine' kla_code ?k1 ?k2 ?k3 ?k4 ?k5 ?kA ?kF ?kK ?k6 ?k7 ?k8 ?k9 ?kB ?_ ?c2 ?c3 ?c4 ?c5; (case kA => exact rfl); (case kF => exact rfl); (case kK => first | exact rfl | assumption); (case k1 => k_asm); (case k2 => k_asm); (case k3 => k_asm); (case k4 => k_asm); (case k5 => k_asm); (case k6 => k_mem); (case k7 => exact codeRec_news (by k_asm) (by k_mem) (by assumption) (by assumption)); (case k8 => ktr_room); (case k9 => exact rfl); (case c5 => decide); (case kB => exact locs rfl); (case c2 => exact rfl); (case c3 => exact rfl); (case c4 => exact rfl); k_whole; intro g' L' h' FG' F' N' B' X' T'; (try dsimp only); (try k_fold)
    k_extra "P27 my steps"
    k_dflt (refine' cut_low ?B ?F ?X ?N ?T ?kk ?dp ?un ?ql ?_; k_extra "my sit"; (case ql => decide); k_whole)
    intro e9 t9 vs9 h9 h10 tk10 F9 U9 R9
    (try k_unfold); (try dsimp only)
    refine leave_onX rfl (by k_asm) F9 R9 U9 fun h11 R11 U11 => ?_
    exact hexc e9 _ _ _ h11 _ (by k_asm) U11 (raised_less R11 (by k_extra "my sub"))

  intro hB tkB FB NB
  k_extra "P27 my steps"

  k_dflt (refine' cut_one ?B ?F ?X ?N ?T ?kk ?dp ?un ?qm ?qr ?qG ?_; k_extra "my sit"; (case qm => k_mem); (case qr => exact hR0.mono (by k_extra "my sub")); (case qG => exact G0); k_whole)
  intro S nS x6 dx6 la6 ha6 t1 t2 t3 bn u0 u1 u2 u3 u4 u5 hC tkC FC NC qC
  have qS : Off1 S _ := off1_in fun q hq => (qC q hq).1
  have qx6 : Off1 x6 _ := off1_in fun q hq => (qC q hq).2.1
  have qdx : Off1 dx6 _ := off1_in fun q hq => (qC q hq).2.2.1
  have qla : Off1 la6 _ := off1_in fun q hq => (qC q hq).2.2.2.1
  have qha : Off1 ha6 _ := off1_in fun q hq => (qC q hq).2.2.2.2
  simp only [Off1] at qS qx6 qdx qla qha
  clear qC
  k_extra "P27 my steps"

  k_dflt (refine' comp_one (v := .ref x6) (y := .ref al0) (k := nS) ?qh ?qF ?qN ?qm ?qt ?_; (case qh => with_unfolding_all rfl); (case qF => k_asm); (case qN => k_asm); (case qm => k_mem))
  case qt =>
    intro I' oI' C' oC' D' m' g' h' tk' E' hC' hX' F' N'
    k_extra "P27 my steps"
    exact ⟨rfl, Same.mk (by k_asm) (news_keep (by k_asm) (by k_extra "my sub"))⟩
  intro g9
  k_extra "P27 my steps"
  k_dflt (refine' lots_eq (vs := vs0) ?qN ?qa ?qb ?qc ?qr ?qu ?_; (case qN => k_asm); (case qa => k_mem); (case qb => k_mem); (case qc => k_mem); (case qr => exact hR0.mono (by k_extra "my sub")); (case qu => ktr_units))
  k_extra "P27 my steps"

  k_dflt (refine' refused ?B ?F ?X ?N ?T ?kk ?dp ?un ?hf ?hdeed ?_; k_extra "my sit"; (case hf => k_mem); k_whole)
  case hdeed =>
    intro gR LR aR hR mR tkR dpR unR gdR cnR csR ccdR QR ER FG1 FR1 NR BR XR TR hkR hdR huR hexc
    refine wpAny_call ?_
    refine' kla_code ?k1 ?k2 ?k3 ?k4 ?k5 ?kA ?kF ?kK ?k6 ?k7 ?k8 ?k9 ?kB ?_ ?c2 ?c3 ?c4 ?c5; (case kA => exact rfl); (case kF => exact rfl); (case kK => first | exact rfl | assumption); (case k1 => k_asm); (case k2 => k_asm); (case k3 => k_asm); (case k4 => k_asm); (case k5 => k_asm); (case k6 => k_mem); (case k7 => exact codeRec_news (by k_asm) (by k_mem) (by assumption) (by assumption)); (case k8 => ktr_room); (case k9 => exact rfl); (case c5 => decide); (case kB => exact locs rfl); (case c2 => exact rfl); (case c3 => exact rfl); (case c4 => exact rfl); k_whole; intro g' L' h' FG' F' N' B' X' T'; (try dsimp only); (try k_fold)
    k_extra "P27 my steps"
    k_dflt (refine' cut_empty ?B ?F ?X ?N ?T ?kk ?dp ?un ?qm ?ql ?_; k_extra "my sit"; (case qm => k_mem); (case ql => decide); k_whole)
    intro e9 t9 vs9 h9 h10 tk10 F9 U9 R9
    (try k_unfold); (try dsimp only)
    refine leave_onX rfl (by k_asm) F9 R9 U9 fun h11 R11 U11 => ?_
    exact hexc e9 _ _ _ h11 _ (by k_asm) U11 (raised_less R11 (by k_extra "my sub"))

  intro hD tkD FD ND
  exact ⟨rfl, _, _, _, rfl, FD, And.intro (GrownAt.of ND (by k_mem)) True.intro⟩
end
end
section
theorem reg_P28 : True := by
  w_top off
  k_with "P28 my steps" =>
    repeat' ((fail_if_success (k_extra "P28 my stop")); (first | (k_unfold; (try dsimp only)) | (k_end; wrow_close) | walk1 | (dsimp only; walk1) | (leave1; walk_say "STEP leave1"; try dsimp only) | fail "no step"))
  k_with "P28 my stop" =>
    with_reducible show LCp.SrcLP _ _ _ _ _ _ _ _ _ _ _ _ _ _ _
  k_with "P28 my stop" =>
    with_reducible show LCt.CompSrcT _ _ _ _ _ _ _ _ _ _ _ _ _ _ _
  k_with "P28 my stop" =>
    with_reducible show CompSrc _ _ _ _ _ _ _ _ _ _ _ _ _ _
  k_with "P28 my stop" =>
    with_reducible show CellSrc _ _ _ _ _ _ _ _ _ _ _ _ _ _
  k_with "P28 call ref" =>
    (k_here; k_dflt (refine' law_paint ?B ?F ?X ?N ?T ?kk ?dp ?un ?ql ?qi ?q63 ?_; k_extra "my sit"; (case ql => assumption); (case qi => assumption); (case q63 => omega); k_whole); intro pt' o' h' tk' P' l1 F' N'; (try simp only [Off1, and_true] at l1); (try k_sweep); (try k_fold))
  k_with "P28 my stop" =>
    with_reducible show wpAny _ _ (call (Value.ref 136) _) _ _ _
  k_with "P28 my stop" =>
    with_reducible show wpAny _ _ (call (Value.ref 112) _) _ _ _
  k_with "P28 my stop" =>
    with_reducible show wpAny _ _ (call (Value.ref 230) _) _ _ _
  k_with "P28 my stop" =>
    with_reducible show wpAny _ _ (call (Value.ref 195) _) _ _ _
  k_with "P28 my stop" =>
    with_reducible show wpAny _ _ (call (Value.ref 190) _) _ _ _
  k_with "P28 my stop" =>
    with_reducible show wpAny _ _ (call (Value.ref 225) _) _ _ _
  k_with "P28 my stop" =>
    with_reducible show wpAny _ _ (call (Value.ref 96) _) _ _ _
  k_with "P28 my stop" =>
    with_reducible show wpAny _ _ (call (Value.ref 237) _) _ _ _
  k_with "P28 call ref" =>
    (k_here; k_dflt (refine' dab ?B ?F ?X ?N ?T ?kk ?dp ?un ?P ?U ?hk ?hk9 ?_; k_extra "my sit"; (case P => assumption); (case U => k_updF); (case hk => decide); (case hk9 => decide); k_whole); intro r' t' o' h' tk' hr0' hr1' hP' F' N'; (try dsimp only at N'); (try k_sweep); (try k_fold))
  k_with "P28 call ref" =>
    (k_here; k_dflt (refine' counted ?B ?F ?X ?N ?T ?kk ?dp ?un ?P ?U ?_; k_extra "my sit"; (case P => assumption); (case U => k_updF); k_whole); intro D2' vs2' c2' rows2' o2' tl2' h2' tk2' hP2' hG2' hR2' hf2' F' N'; (try dsimp only at N' hf2'))
  k_with "P28 my subs" =>
    ((repeat (refine List.forall_mem_cons.mpr (And.intro ?_ ?_); ((try dsimp only); k_mem))); first | exact fun q hq => hq | k_extra "my sub" | exact List.forall_mem_nil _)
  k_with "P28 my stop" =>
    with_reducible show wpAny _ _ (compareOp CmpOp.NotEq (Value.ref _) (Value.ref _)) _ _ _
  k_with "P28 my stop" =>
    with_reducible show wpAny _ _ (compareOp CmpOp.NotEq (optV _ _) (optV _ _)) _ _ _
  k_with "P28 my stop" =>
    with_reducible show wpAny _ _ (call (Value.builtin "list.index") _) _ _ _
  k_with "P28 my stop" =>
    with_reducible show wpAny _ _ (call (Value.ref 119) _) _ _ _
  k_with "P28 my stop" =>
    with_reducible show wpAny _ _ (call (Value.ref 124) _) _ _ _
  k_with "P28 my stop" =>
    with_reducible show wpAny _ _ (call (Value.ref 244) _) _ _ _
  k_with "P28 my stop" =>
    with_reducible show wpAny _ _ (call (Value.ref _) []) _ _ _
  k_with "P28 my stop" =>
    with_reducible show wpAny _ _ (execs (PySem.Stmt.If (PySem.Expr.BoolOp _ (PySem.Expr.UnaryOp _ _ _ :: _) _) _ _ _ :: _) _) _ _ _
  trivial
local macro_rules | `(tactic| k_extra "own call ref") => `(tactic| k_extra "P28 call ref")
section
variable {w : World} {p : Program} {loose : List Str} {mean : ExcName → Option Value} {mg mb : Str → Option Value} {dp un : Nat} {gd : Option (List Code)} {cn : Str} {cs : Scope} {a : Addr} {ccd : Value} {cl : List (Str × Addr)} {outer : List Env} {A₀ : Around} {base h₀ : Heap} {L : Addr} {m : Str → Option Value} {s : Shared} {Q E : Value → Shared → Prop} {news : Led}
theorem law_tail : (fun {a : Arguments} {b : List Stmt} {sc : Scope} (_ : fnAt 30 = (a, b, sc)) =>
    ∀ {w : World} {p : Program} {loose : List Str} {mean : ExcName → Option Value} {mg mb : Str → Option Value} {h₀ : Heap} {L fa al pt D5 D7 Dc : Addr} {oc oP o2 o3 o4 o5 : Obj} {t4 : Led} {ys ps : List Value} {xs : List (List Row)} {cs : List Col} {cc : Col} {v1 v2 v3 tm : Tok} {nc : Nat} {mm : Int} {s : Shared},
    Below callerA h₀ [] h₀ → (Mine.hd.heap_39 w.params).In h₀ → Top p loose mean mg mb h₀ → Hold (CodeHd h₀ 248 246) → (@LT.lt Nat _ 246 L) →
    Fr h₀ L s.heap (fun y => if y = "palette" then some (.ref D7) else bindL (envOfC "law" sc L fa (.ref 248)).kindOf [("script", .ref al)] (fun _ => none) y) →
    News h₀ L s.heap ((Dc, tupObj #[.int cc.1 v1, .int cc.2.1 v2, .int cc.2.2 v3] nc) :: (D7, lst ps) :: (pt, oc) :: lawK L o5 o4 o3 o2 oP (tabObj #[]) t4) →
    o5.data = .cell (bindC (envOfC "law" sc L fa (.ref 248)).kindOf [("script", .ref al)] (fun _ => none) "none") → o4.data = .cell (some (.int mm tm)) → o3.data = .cell (some (.ref D5)) → o2.data = .cell (some (.ref Dc)) →
    OffAll L pt t4 → ((@Ne Nat (L + 1 + 1 + 1 + 1 + 1) pt) ∧ (@Ne Nat (L + 1 + 1 + 1 + 1) pt) ∧ (@Ne Nat (L + 1 + 1 + 1) pt) ∧ (@Ne Nat (L + 1 + 1) pt) ∧ (@Ne Nat (L + 1) pt) ∧ (@Ne Nat 246 pt)) → Off1 D7 ((pt, oc) :: lawK L o5 o4 o3 o2 oP (tabObj #[]) t4) → Off1 Dc ((D7, lst ps) :: (pt, oc) :: lawK L o5 o4 o3 o2 oP (tabObj #[]) t4) → Paint oc →
    ColsAre t4 ps cs → (∀ c ∈ cs, c.ok) → 1 ≤ cs.length → cs.length ≤ 5 → cc.ok → (D5, lst ys) ∈ t4 → AllAt IsLot t4 ys xs → (∀ r ∈ xs, GoodLot r) → 2 ≤ xs.length → xs.length ≤ 4 → 1 ≤ mm → mm ≤ 9 →
    wpAny (model PR w) (callerA.deeper (envOfC "law" sc L fa (.ref 248))) (execs (b.drop 7) (envOfC "law" sc L fa (.ref 248))) (LawPost h₀ L s) (fun _ _ => False) s) rfl := by
  intro w p loose mean mg mb h₀ L fa al pt D5 D7 Dc oc oP o2 o3 o4 o5 t4 ys ps xs cs cc v1 v2 v3 tm nc mm s B X T hcode hL F N d5 d4 d3 d2 O hpc q7 qc hPc hCo hcx hc1 hc5 hcc hm5 hLo hGx hx2 hx4 hmm1 hmm9
  simp only [List.drop]
  have q7r := q7
  have qcr := qc
  simp only [Off1] at q7 qc
  obtain ⟨op, oc5, oc4, oc3, oc2, oc1, ot⟩ := id O
  have hpl := hCo.1
  have hyl := hLo.1

  k_extra "P28 my steps"
  k_dflt (refine' vals_ints (vs := ps) (k := ps.length) (fun i => far (cs.getD i (0, 0, 0)) cc) ?qh ?qF ?qN ?qm ?qz ?qt ?_; (case qh => with_unfolding_all rfl); (case qF => k_asm); (case qN => k_asm); (case qm => k_mem); (case qz => omega))
  case qt =>
    intro i' v' I' oI' C' oC' D' ys' m' g' h' tk' E' hi' hv' hC' hx' F' N'
    have hix : i' < cs.length := by omega
    obtain ⟨al', w1, w2, w3, n', rfl, hal⟩ := hCo.2 i' v' _ hv' (List.getElem?_eq_getElem hix)
    have okc := hcx _ (List.getElem_mem hix)
    have eg : cs.getD i' (0, 0, 0) = cs[i'] := by simp [List.getD, hix]
    simp only [eg]
    generalize cs[i'] = c0 at hal okc
    k_extra "P28 my steps"
    k_dflt (refine' law_far ?B ?F ?X ?N ?T ?kk ?dp ?un ?oc ?od ?hc ?hd ?_; k_extra "my sit"; (case hc => k_mem); (case hd => k_mem); (case oc => exact okc); (case od => exact hcc); k_whole)
    intro h8 tk8 t8 F8 N8
    k_extra "P28 my steps"
    exact IntSame.mk (by k_asm) (news_keep (by k_asm) (by k_extra "my sub"))
  intro ws gw hW0
  have hW : IntsAre ws (cs.map (far · cc)) := by
    have e : (List.range ps.length).map (fun i => far (cs.getD i (0, 0, 0)) cc) = cs.map (far · cc) := by
      refine List.ext_getElem (by simp [hpl]) fun i h1 h2 => ?_
      simp [List.getD, List.getElem?_eq_getElem (show i < cs.length by simpa using h2)]
    rw [e] at hW0; exact hW0
  clear hW0
  k_extra "P28 my steps"

  have hcne : cs ≠ [] := fun e => by (rw [e] at hc1; exact absurd hc1 (by decide))
  have hwp : 0 < (cs.map (far · cc)).length := by (rw [List.length_map]; exact hc1)
  k_dflt (refine' nearest (cols := cs) ?B ?F ?X ?N ?T ?kk ?dp ?un ?hm ?hC ?h1 ?h5 ?hok ?okd ?hd ?_; k_extra "my sit"; (case hm => k_mem); (case hd => k_mem); (case hC => exact AllAt.mono (R := IsCol) (fun h hs => IsCol.mono h hs) hCo (by k_extra "my sub")); (case h1 => exact hc1); (case h5 => exact hc5); (case hok => exact hcx); (case okd => exact hcc); k_whole)
  intro h8 tk8 t8 F8 N8
  k_extra "P28 my steps"
  k_dflt (refine' my_index (j := nearOf cs cc) ?qN ?qm ?qi ?qs ?qj ?_; (case qN => k_asm); (case qm => k_mem); (case qi => exact hW); (case qs => rw [List.length_map]; omega); (case qj => exact near_first cc hcne))
  intro tj tkj
  k_extra "P28 my steps"

  all_goals try ((rename (Nat.cast (nearOf cs cc) : Int) ≠ _ => qx); exact absurd rfl qx)
  (rename News _ _ _ _ => kN); (dsimp only at kN); rw [slice_one (by omega)] at kN
  k_dflt (refine' nearest (cols := cs.take 1) ?B ?F ?X ?N ?T ?kk ?dp ?un ?hm ?hC ?h1 ?h5 ?hok ?okd ?hd ?_; k_extra "my sit"; (case hm => k_mem); (case hd => k_mem); (case hC => exact AllAt.mono (R := IsCol) (fun h hs => IsCol.mono h hs) (hCo.take 1) (by k_extra "my sub")); (case h1 => rw [List.length_take]; omega); (case h5 => rw [List.length_take]; omega); (case hok => exact fun c hc => hcx c (List.mem_of_mem_take hc)); (case okd => exact hcc); k_whole)
  intro h8 tk8 t8 F8 N8
  rw [near_take cc hc1]
  k_extra "P28 my steps"

  (rename IsRange _ _ _ _ _ _ _ _ => kR); (rename Fr h₀ _ _ _ => kF); (rename News h₀ _ _ _ => kN)
  obtain ⟨K, N1, hptK, mP, mT, hK⟩ := law_pack t4 kN (by k_extra "P28 my subs") hPc ⟨hpc.1, hpc.2.1, hpc.2.2.1, hpc.2.2.2.1, hpc.2.2.2.2.1, hpc.2.2.2.2.2, O.p⟩
  k_dflt (refine' grow_range (n := 3) [] (R := IsPlane w) (ok := fun _ _ => True) (fun _ _ _ _ h hs => IsPlane.mono h hs) ?qh kF N1 kR ?qb ?qn hPc ?qt ?_)
  case qh => with_unfolding_all rfl
  case qb => rfl
  case qn => decide
  case qt =>
    intro i' t' I' oI' C' oC' D' ys' m' g' h' tk' E' o' tl' hi' hP' hfr' hC' hx' F' N' off' ne'
    have u2 : Off1 _ (tl' ++ K) := off1_in fun q hq => (List.mem_append.mp hq).elim (fun h => (hfr' q h).1) (hptK q)
    clear kN N1 kF kR
    k_extra "P28 my steps"
    (rename News _ _ _ _ => kN); (dsimp only at kN)
    (rename (_ < _ ∧ _ < _ ∧ _ < _ ∧ _ < _ ∧ _ < _ ∧ AllLt _ _) => ld); (rename (@LT.lt Nat _ _ _) => lx)
    k_dflt (refine' plane_end (by k_asm) kN ?hx ?hd ?hs ld.2 lx hP'; (case hx => k_mem); (case hd => k_mem); (case hs => k_extra "my sub"))
  intro qs us oQ tl gz hul hus hok8 hPo hfr D8 h8 tk8 F8 N8 q8

  obtain ⟨t5, N9, O5, q9, ht5⟩ := law_unpack N8 q8 hK O hfr
  have hPl : AllAt (IsPlane w) t5 qs us := by rw [ht5]; exact AllAt.mono (R := IsPlane w) (fun h hs => IsPlane.mono h hs) hus (fun q hq => by rw [List.append_nil] at hq; exact List.mem_append_left _ hq)
  have hLo5 : AllAt IsLot t5 ys xs := AllAt.mono (R := IsLot) (fun h hs => IsLot.mono h hs) hLo (by rw [ht5]; intro q hq; exact List.mem_append_right _ hq)
  have hm6 : (D5, lst ys) ∈ t5 := by rw [ht5]; exact List.mem_append_right _ hm5
  have hql := hPl.1
  have q9r := q9
  simp only [Off1] at q9
  clear N1 kN N8 q8 hK hus hfr hptK mP mT kF kR ht5 op oc5 oc4 oc3 oc2 oc1 ot O q7 qc q7r qcr hLo hm5 hCo hcx hW
  obtain ⟨op, oc5, oc4, oc3, oc2, oc1, ot⟩ := id O5
  have hus3 : us.length = 3 := hul
  obtain ⟨v0, qs', rfl⟩ : ∃ v0 qs', qs = v0 :: qs' := by
    cases qs with
    | nil => rw [hus3] at hql; cases hql
    | cons v r => exact ⟨v, r, rfl⟩
  obtain ⟨x0, d0, l0, p1, p2, p3, pa, pb, rfl, hx0, hd0⟩ := hPl.2 0 v0 us[0] rfl (List.getElem?_eq_getElem (by omega))
  have codeHd : CodeHd h₀ 248 246 := hcode
  k_extra "P28 my steps"


  have hq2 : qs'.length = 2 := by
    have e : qs'.length + 1 = us.length := hql
    omega
  k_dflt (refine' wpAny_mono (law_tail2 B X T hcode hL ?F ?N ?d5 d4 d3 oc5 oc4 oc3 ot ⟨q9.2.1, q9.2.2.1, q9.2.2.2.1, q9.2.2.2.2.2.2.1, q9.2.2.2.2.2.2.2⟩ hq2 hx0 hd0 hm6 hLo5 hGx hx2 hx4 hmm1) (fun _ _ h => h) (fun _ _ h => h); (case F => k_asm); (case d5 => assumption); (case N => exact news_sub (by k_asm) (by k_extra "P28 my subs")))
end
end
section
theorem reg_P29 : True := by
  w_top off
  k_with "P29 my steps" =>
    repeat' ((fail_if_success (k_extra "P29 my stop")); (first | (k_unfold; (try dsimp only)) | (k_end; wrow_close) | walk1 | (dsimp only; walk1) | (leave1; walk_say "STEP leave1"; try dsimp only) | fail "no step"))
  k_with "P29 my stop" =>
    with_reducible show LCp.SrcLP _ _ _ _ _ _ _ _ _ _ _ _ _ _ _
  k_with "P29 my stop" =>
    with_reducible show LCt.CompSrcT _ _ _ _ _ _ _ _ _ _ _ _ _ _ _
  k_with "P29 my stop" =>
    with_reducible show CompSrc _ _ _ _ _ _ _ _ _ _ _ _ _ _
  k_with "P29 my stop" =>
    with_reducible show CellSrc _ _ _ _ _ _ _ _ _ _ _ _ _ _
  k_with "P29 call ref" =>
    (k_here; k_dflt (refine' law_paint ?B ?F ?X ?N ?T ?kk ?dp ?un ?ql ?qi ?q63 ?_; k_extra "my sit"; (case ql => assumption); (case qi => assumption); (case q63 => omega); k_whole); intro pt' o' h' tk' P' l1 F' N'; (try simp only [Off1, and_true] at l1); (try k_sweep); (try k_fold))
  k_with "P29 my stop" =>
    with_reducible show wpAny _ _ (call (Value.ref 136) _) _ _ _
  k_with "P29 my stop" =>
    with_reducible show wpAny _ _ (call (Value.ref 112) _) _ _ _
  k_with "P29 my stop" =>
    with_reducible show wpAny _ _ (call (Value.ref 230) _) _ _ _
  k_with "P29 my stop" =>
    with_reducible show wpAny _ _ (call (Value.ref 195) _) _ _ _
  k_with "P29 my stop" =>
    with_reducible show wpAny _ _ (call (Value.ref 190) _) _ _ _
  k_with "P29 my stop" =>
    with_reducible show wpAny _ _ (call (Value.ref 225) _) _ _ _
  k_with "P29 my stop" =>
    with_reducible show wpAny _ _ (call (Value.ref 96) _) _ _ _
  k_with "P29 my stop" =>
    with_reducible show wpAny _ _ (call (Value.ref 237) _) _ _ _
  k_with "P29 call ref" =>
    (k_here; k_dflt (refine' dab ?B ?F ?X ?N ?T ?kk ?dp ?un ?P ?U ?hk ?hk9 ?_; k_extra "my sit"; (case P => assumption); (case U => k_updF); (case hk => decide); (case hk9 => decide); k_whole); intro r' t' o' h' tk' hr0' hr1' hP' F' N'; (try dsimp only at N'); (try k_sweep); (try k_fold))
  k_with "P29 call ref" =>
    (k_here; k_dflt (refine' counted ?B ?F ?X ?N ?T ?kk ?dp ?un ?P ?U ?_; k_extra "my sit"; (case P => assumption); (case U => k_updF); k_whole); intro D2' vs2' c2' rows2' o2' tl2' h2' tk2' hP2' hG2' hR2' hf2' F' N'; (try dsimp only at N' hf2'))
  k_with "P29 my subs" =>
    ((repeat (refine List.forall_mem_cons.mpr (And.intro ?_ ?_); ((try dsimp only); k_mem))); first | exact fun q hq => hq | k_extra "my sub" | exact List.forall_mem_nil _)
  k_with "P29 my stop" =>
    with_reducible show wpAny _ _ (compareOp CmpOp.NotEq (Value.ref _) (Value.ref _)) _ _ _
  k_with "P29 my stop" =>
    with_reducible show wpAny _ _ (compareOp CmpOp.NotEq (optV _ _) (optV _ _)) _ _ _
  k_with "P29 my stop" =>
    with_reducible show wpAny _ _ (execs (PySem.Stmt.Assign [PySem.Expr.Name "ways" _] _ _ :: _) _) _ _ _
  trivial
local macro_rules | `(tactic| k_extra "own call ref") => `(tactic| k_extra "P29 call ref")
section
variable {w : World} {p : Program} {loose : List Str} {mean : ExcName → Option Value} {mg mb : Str → Option Value} {dp un : Nat} {gd : Option (List Code)} {cn : Str} {cs : Scope} {a : Addr} {ccd : Value} {cl : List (Str × Addr)} {outer : List Env} {A₀ : Around} {base h₀ : Heap} {L : Addr} {m : Str → Option Value} {s : Shared} {Q E : Value → Shared → Prop} {news : Led}
theorem opt_ne {A : Around} {E : Value → Shared → Prop} {a : Option Nat} {t u : Tok} {Q : Value → Shared → Prop} (h : Q (.bool false) s) : wpAny (model PR w) A (compareOp .NotEq (optV a t) (optV a u)) Q E s := by
  cases a with
  | none =>
    dsimp only [optV]
    walk1
    exact h
  | some i =>
    dsimp only [optV]
    walk1
    simpa using h
theorem law_core : (fun {a : Arguments} {b : List Stmt} {sc : Scope} (_ : fnAt 30 = (a, b, sc)) =>
    ∀ {w : World} {p : Program} {loose : List Str} {mean : ExcName → Option Value} {mg mb : Str → Option Value} {h₀ : Heap} {L fa al : Addr} {vs : List Value} {ns : List Int} {o1 o2 o3 o4 o5 : Obj} {s : Shared},
    Below callerA h₀ [] h₀ → (Mine.hd.heap_39 w.params).In h₀ → Top p loose mean mg mb h₀ → h₀.IsList al vs.toArray → IntsAre vs ns → ns.length ≤ 63 → Hold (CodeHd h₀ 248 246) → (@LT.lt Nat _ 246 L) →
    Fr h₀ L s.heap (bindL (envOfC "law" sc L fa (.ref 248)).kindOf [("script", .ref al)] fun _ => none) → News h₀ L s.heap [(L + 1 + 1 + 1 + 1 + 1, o5), (L + 1 + 1 + 1 + 1, o4), (L + 1 + 1 + 1, o3), (L + 1 + 1, o2), (L + 1, o1), (246, tabObj #[])] →
    o5.data = .cell (bindC (envOfC "law" sc L fa (.ref 248)).kindOf [("script", .ref al)] (fun _ => none) "none") → o4.data = .cell (bindC (envOfC "law" sc L fa (.ref 248)).kindOf [("script", .ref al)] (fun _ => none) "many") → o3.data = .cell (bindC (envOfC "law" sc L fa (.ref 248)).kindOf [("script", .ref al)] (fun _ => none) "lists") → o2.data = .cell (bindC (envOfC "law" sc L fa (.ref 248)).kindOf [("script", .ref al)] (fun _ => none) "colour") → o1.data = .cell (bindC (envOfC "law" sc L fa (.ref 248)).kindOf [("script", .ref al)] (fun _ => none) "paint") →
    wpAny (model PR w) (callerA.deeper (envOfC "law" sc L fa (.ref 248))) (execs b (envOfC "law" sc L fa (.ref 248))) (LawPost h₀ L s) (fun _ _ => False) s) rfl := by
  intro w p loose mean mg mb h₀ L fa al vs ns o1 o2 o3 o4 o5 s B X T lifted hI h63 hcode hL F N d5 d4 d3 d2 d1

  k_extra "P29 my steps"
  k_dflt (refine' nearest (cols := [(9, 9, 9), (1, 1, 1), (1, 1, 1)]) (d := (1, 1, 2)) ?B ?F ?X ?N ?T ?kk ?dp ?un ?hm ?hC ?h1 ?h5 ?hok ?okd ?hd ?_; k_extra "my sit"; (case hm => k_mem); (case hd => k_mem); (case hC => exact cols3 ⟨_, _, _, _, _, rfl, by k_mem⟩ ⟨_, _, _, _, _, rfl, by k_mem⟩ ⟨_, _, _, _, _, rfl, by k_mem⟩); (case h1 => decide); (case h5 => decide); (case hok => exact lit_ok); (case okd => unfold Col.ok; decide); k_whole)
  intro h' tk' t' F' N'
  rw [near_law]
  k_extra "P29 my steps"
  (rename IsRange _ _ _ _ _ _ _ _ => kR); (rename Paint _ => kP); (rename Fr h₀ _ _ _ => kF); (rename News h₀ _ _ _ => kN); (rename (_ : Int) < 3 => hr3); (rename 0 ≤ (_ : Int) => hr0); (rename _ = Data.cell (some _) => dP); (rename (@Ne Nat (L + 1 + 1 + 1 + 1 + 1) _ ∧ _) => hpc)
  obtain ⟨K, N1, hptK, mP, -, hK⟩ := law_pack (tb := tabObj #[]) (o5 := o5) (o4 := o4) (o3 := o3) (o2 := o2) [] kN (by k_extra "P29 my subs") kP (by simp only [Off1, and_true]; exact hpc)
  k_dflt (refine' grow_range [] (R := IsLot) (ok := fun _ rows => GoodLot rows) (fun _ _ _ _ h hs => IsLot.mono h hs) ?qh kF N1 kR ?qb ?qn kP ?qt ?_)
  case qh => with_unfolding_all rfl
  case qb => exact (Int.toNat_of_nonneg (by omega)).symm
  case qn => omega

  case qt =>
    intro i' t' I' oI' C' oC' D' ys' m' g' h' tk' E' o' tl' hi' hP' hfr' hC' hx' F' N' off' ne'
    obtain ⟨⟨a1, a2, a3⟩, -⟩ := off'
    have u2 : Off1 _ (tl' ++ K) := off1_in fun q hq => (List.mem_append.mp hq).elim (fun h => (hfr' q h).1) (hptK q)
    have mP' := List.mem_append_right tl' mP
    clear kN N1 kF kR kP
    k_extra "P29 my steps"
    k_dflt (refine' counted ?B ?F ?X ?N ?T ?kk ?dp ?un ?P ?U ?_; k_extra "my sit"; (case P => exact hP'); (case U => k_updF); k_whole)
    intro D2 vs2 c2 rows2 o2 tl2 h2 tk2 hP2 hG2 hR2 hf2 F2 N2
    (try dsimp only at N2 hf2)
    exact ⟨_, _, _, (D2, _) :: tl2, rows2, rfl, F2, news_sub N2 (fun q hq => by (simp only [List.mem_cons, List.mem_append] at hq ⊢; rcases hq with h | h | h | h | (h | h) | h | h <;> simp [h])), hP2, hf2, ⟨D2, _, _, rfl, .head _, hR2.mono fun q hq => .tail _ (List.mem_append_left _ hq)⟩, hG2⟩
  intro ys xs oQ tl gz hxl hall hok hPo hfr D5 h5 tk5 F5 N5 q5

  obtain ⟨t2, N6, O6, q6, ht2⟩ := law_unpack N5 q5 hK OffAll.nil hfr
  have hLo : AllAt IsLot t2 ys xs := by rw [ht2]; exact hall
  obtain ⟨op, oc5, oc4, oc3, oc2, oc1, ot⟩ := id O6
  have q6r := q6
  simp only [Off1] at q6
  have hxl4 : xs.length ≤ 4 := by omega
  have hxl2 : 2 ≤ xs.length := by omega
  have hyl := hLo.1
  clear N1 kN N5 q5 hK hall hfr hptK mP kR kF kP ht2
  k_extra "P29 my steps"
  k_dflt (refine' comp_none (vs := ys) (k := ys.length) ?qh ?qF ?qN ?qm ?qs ?qt ?_; (case qh => with_unfolding_all rfl); (case qF => k_asm); (case qN => k_asm); (case qm => k_mem); (case qs => omega))
  case qt =>
    intro i' v' I' oI' C' oC' D' zs' m' g' h' tk' E' hi' hv' hC' hx' F' N'
    have hix : i' < xs.length := by omega
    obtain ⟨al', vs', k', rfl, hal, hR⟩ := hLo.2 i' v' _ hv' (List.getElem?_eq_getElem hix)
    have G := hok i' _ (List.getElem?_eq_getElem hix)
    generalize xs[i'] = rows at hR G
    k_extra "P29 my steps"
    k_dflt (refine' law_box_right ?B ?F ?X ?N ?T ?kk ?dp ?un ?qm ?qr ?qG ?_; k_extra "my sit"; (case qm => k_mem); (case qr => first | assumption | (refine' RowsAre.mono ?qs ?qt2; (case qt2 => assumption); (case qs => k_extra "my sub"))); (case qG => assumption); k_whole)
    intro h8 tk8 F8 N8
    k_extra "P29 my steps"
    exact ⟨rfl, Same.mk (by k_asm) (news_keep (by k_asm) (by k_extra "my sub"))⟩
  intro g8

  k_extra "P29 my steps"
  k_dflt (refine' ints_same_ne (ns := []) (ms := []) (xs := []) (ys := []) ?qN ?qa ?qb .nil .nil rfl ?qu ?_; (case qN => k_asm); (case qa => k_mem); (case qb => k_mem); (case qu => ktr_units))
  k_extra "P29 my steps"
  (rename Paint _ => kP); (rename Fr h₀ _ _ _ => kF); (rename News h₀ _ _ _ => kN); (rename (_ : Int) < 9 => hm9)
  have O7 := OffAll.cons (oD := lst ys) q6r O6
  obtain ⟨K, N1, hptK, mP, mT, hK⟩ := law_pack ((D5, lst ys) :: t2) kN (by k_extra "P29 my subs") kP ⟨hpc.1, hpc.2.1, hpc.2.2.1, hpc.2.2.2.1, hpc.2.2.2.2.1, hpc.2.2.2.2.2, O7.p⟩
  k_dflt (refine' grow_list t2 (R := IsBox w) (ok := fun i rows => xs[i]? = some rows) (fun _ _ _ _ h hs => IsBox.mono h hs) ?qh kF N1 ?qm ?qn ?q2 kP ?qt ?_)
  case qh => with_unfolding_all rfl
  case qm => exact mT _ (.head _)
  case qn => exact hyl
  case q2 => omega
  case qt =>
    intro i' v' I' oI' C' oC' D' ys' m' g' h' tk' E' o' tl' hi' hv' hP' hfr' hC' hx' F' N' off' ne'
    obtain ⟨al', vs', k', rfl, hal, hR⟩ := hLo.2 i' v' _ hv' (List.getElem?_eq_getElem hi')
    have eI := List.getElem?_eq_getElem hi'
    have G := hok i' _ eI
    generalize xs[i'] = rows at hR G eI
    have hal' := List.mem_append_right tl' (mT _ (.tail _ hal))
    have hR' := hR.mono fun q hq => List.mem_append_right tl' (mT _ (.tail _ hq))
    clear kN N1 kF kP
    k_extra "P29 my steps"
    k_dflt (refine' box ?B ?F ?X ?N ?T ?kk ?dp ?un ?qm ?qr ?qG ?_; k_extra "my sit"; (case qm => k_mem); (case qr => first | assumption | (refine' RowsAre.mono ?qs ?qt2; (case qt2 => assumption); (case qs => k_extra "my sub"))); (case qG => assumption); k_whole)
    intro x2 dx2 la2 ha2 t1 t2' t3 n2 u0 u1 u2 u3 u4 u5 h2 tk2 F2 N2 q2
    refine ⟨_, _, o', [(x2, _), (dx2, _), (la2, _), (ha2, _)], rows, rfl, F2, news_sub N2 (by (dsimp only [List.cons_append, List.nil_append]; k_extra "P29 my subs")), hP', fun q hq p hp => ?_, ⟨x2, al', rfl, _, _, _, _, _, _, _, _, _, _, _, _, _, _, _, .head _, .tail _ (.head _), .tail _ (.tail _ (.head _)), .tail _ (.tail _ (.tail _ (.head _))), List.mem_append_right _ (List.mem_append_right _ hal), hR.mono fun q hq => List.mem_append_right _ (List.mem_append_right _ hq)⟩, eI⟩
    simp only [List.mem_cons, List.not_mem_nil, or_false] at hq
    rcases hq with rfl | rfl | rfl | rfl
    · exact (q2 p hp).1
    · exact (q2 p hp).2.1
    · exact (q2 p hp).2.2.1
    · exact (q2 p hp).2.2.2
  intro bs xs2 oQ2 tl2 gz2 hxl9 hall9 hok9 hPo9 hfr9 D6 h6 tk6 F6 N6 q9

  obtain ⟨t3, N7, O8, q10, ht3⟩ := law_unpack N6 q9 hK O7 hfr9
  have exs : xs2 = xs := by
    refine List.ext_getElem? fun i => ?_
    cases e : xs2[i]? with
    | some x => exact (hok9 i x e).symm
    | none => rw [List.getElem?_eq_none_iff] at e; exact (List.getElem?_eq_none (by omega)).symm
  subst exs
  have hbx : AllAt (IsBox w) t3 bs xs2 := AllAt.mono (R := IsBox w) (fun h hs => IsBox.mono h hs) hall9 (by rw [ht3]; intro q hq; rcases List.mem_append.mp hq with h | h; exact List.mem_append_left _ h; exact List.mem_append_right _ (.tail _ h))
  have hLo3 : AllAt IsLot t3 ys xs2 := AllAt.mono (R := IsLot) (fun h hs => IsLot.mono h hs) hLo (by rw [ht3]; intro q hq; exact List.mem_append_right _ (.tail _ hq))
  have hm5 : (D5, lst ys) ∈ t3 := by rw [ht3]; exact List.mem_append_right _ (.head _)
  have hGx : ∀ r ∈ xs2, GoodLot r := fun r hr => by
    obtain ⟨i, hi, e⟩ := List.getElem_of_mem hr
    exact hok i r (by rw [← e]; exact List.getElem?_eq_getElem hi)
  have q10r := q10
  simp only [Off1] at q10
  clear N1 kN N6 q9 hK hall9 hfr9 hptK mP mT kF kP ht3 O7 op oc5 oc4 oc3 oc2 oc1 ot O6 q6 q6r hLo
  obtain ⟨op, oc5, oc4, oc3, oc2, oc1, ot⟩ := id O8
  k_extra "P29 my steps"
  k_dflt (refine' next_box ?B ?F ?X ?N ?T ?kk ?dp ?un ?hm ?hC ?h4 ?hG ?_; k_extra "my sit"; (case hm => k_mem); (case hC => exact AllAt.mono (R := IsBox w) (fun h hs => IsBox.mono h hs) hbx (by k_extra "my sub")); (case h4 => exact hxl4); (case hG => exact hGx); k_whole)
  intro h8 tk8 tt8 F8 N8
  k_extra "P29 my steps"
  k_dflt (refine' law_next ?B ?F ?X ?N ?T ?kk ?dp ?un ?hm ?hC ?h4 ?hG ?_; k_extra "my sit"; (case hm => k_mem); (case hC => exact AllAt.mono (R := IsLot) (fun h hs => IsLot.mono h hs) hLo3 (by k_extra "my sub")); (case h4 => exact hxl4); (case hG => exact hGx); k_whole)
  intro h9 tk9 tt9 F9 N9
  k_extra "P29 my steps"
  refine opt_ne ?_
  clear N7 F6 N8 F8
  k_extra "P29 my steps"

  (rename IsRange _ _ _ _ _ _ _ _ => kR); (rename Paint _ => kP); (rename Fr h₀ _ _ _ => kF); (rename News h₀ _ _ _ => kN); (rename (_ : Int) < 4 => hr4); (rename 0 ≤ (_ : Int) => hr0)
  obtain ⟨K, N1, hptK, mP, mT, hK⟩ := law_pack t3 kN (by k_extra "P29 my subs") kP ⟨hpc.1, hpc.2.1, hpc.2.2.1, hpc.2.2.2.1, hpc.2.2.2.2.1, hpc.2.2.2.2.2, O8.p⟩
  k_dflt (refine' grow_range [] (R := IsCol) (ok := fun _ c => Col.ok c) (fun _ _ _ _ h hs => IsCol.mono h hs) ?qh kF N1 kR ?qb ?qn kP ?qt ?_)
  case qh => with_unfolding_all rfl
  case qb => exact (Int.toNat_of_nonneg (by omega)).symm
  case qn => omega
  case qt =>
    intro i' t' I' oI' C' oC' D' ys' m' g' h' tk' E' o' tl' hi' hP' hfr' hC' hx' F' N' off' ne'
    obtain ⟨⟨a1, a2, a3⟩, -⟩ := off'
    have u2 : Off1 _ (tl' ++ K) := off1_in fun q hq => (List.mem_append.mp hq).elim (fun h => (hfr' q h).1) (hptK q)
    have mP' := List.mem_append_right tl' mP
    clear kN N1 kF kR kP
    k_extra "P29 my steps"
    k_dflt (refine' colour ?B ?F ?X ?N ?T ?kk ?dp ?un ?P ?U ?_; k_extra "my sit"; (case P => exact hP'); (case U => k_updF); k_whole)
    intro D2 c2 v1 v2 v3 n2 o2 h2 tk2 hc2 hP2 hf2 F2 N2
    (try dsimp only at N2 hf2)
    exact ⟨_, _, o2, [(D2, _)], c2, rfl, F2, news_sub N2 (by (dsimp only [List.cons_append, List.nil_append]; k_extra "P29 my subs")), hP2, fun q hq p hp => by (rcases List.mem_singleton.mp hq with rfl; exact off1_out hf2 p hp), ⟨D2, _, _, _, _, rfl, .head _⟩, hc2⟩
  intro ps cs oQ3 tl3 gz3 hcl hcol hcok hPo3 hfr3 D7 h7 tk7 F7 N7 q7
  obtain ⟨t4, N8, O9, q8, ht4⟩ := law_unpack N7 q7 hK O8 hfr3
  have hCo : ColsAre t4 ps cs := by rw [ht4]; exact AllAt.mono (R := IsCol) (fun h hs => IsCol.mono h hs) hcol (fun q hq => by rw [List.append_nil] at hq; exact List.mem_append_left _ hq)
  have hLo4 : AllAt IsLot t4 ys xs2 := AllAt.mono (R := IsLot) (fun h hs => IsLot.mono h hs) hLo3 (by rw [ht4]; intro q hq; exact List.mem_append_right _ hq)
  have hm6 : (D5, lst ys) ∈ t4 := by rw [ht4]; exact List.mem_append_right _ hm5
  have hcx : ∀ c ∈ cs, c.ok := fun r hr => by
    obtain ⟨i, hi, e⟩ := List.getElem_of_mem hr
    exact hcok i r (by rw [← e]; exact List.getElem?_eq_getElem hi)
  have hc1 : 1 ≤ cs.length := by omega
  have hc5 : cs.length ≤ 5 := by omega
  have hpl := hCo.1
  have q8r := q8
  simp only [Off1] at q8
  clear N1 kN N7 q7 hK hcol hfr3 hptK mP mT kF kP kR ht4 op oc5 oc4 oc3 oc2 oc1 ot O8 q10 q10r hLo3 hm5
  obtain ⟨op, oc5, oc4, oc3, oc2, oc1, ot⟩ := id O9
  k_extra "P29 my steps"
  k_dflt (refine' colour ?B ?F ?X ?N ?T ?kk ?dp ?un ?P ?U ?_; k_extra "my sit"; (case P => exact hPo3); (case U => k_updF); k_whole)
  intro Dc cc v1 v2 v3 nc oc h2 tk2 hcc hPc hfc Fc Nc
  (try dsimp only at Nc hfc)
  have hfcr := hfc
  simp only [Off1] at hfc
  k_extra "P29 my steps"

  (rename _ = Data.cell (some (Value.ref Dc)) => e2); (rename _ = Data.cell (some (Value.ref D5)) => e3); (rename _ = Data.cell (some (Value.int _ _)) => e4)
  k_dflt (refine' wpAny_mono (law_tail (oc := oc) B X T hcode hL ?F ?N d5 e4 e3 e2 O9 ?pc ?q7 ?qc hPc hCo hcx hc1 hc5 hcc hm6 hLo4 hGx hxl2 hxl4 ?m1 ?m9) (fun _ _ h => h) (fun _ _ h => h); (case m1 => omega); (case m9 => omega); (case pc => exact ⟨hpc.1, hpc.2.1, hpc.2.2.1, hpc.2.2.2.1, hpc.2.2.2.2.1, hpc.2.2.2.2.2⟩); (case F => k_asm); (case N => exact news_sub (by k_asm) (by k_extra "P29 my subs")); (case q7 => exact q8); (case qc => exact hfc))
end
end
section
theorem reg_P30 : True := by
  w_top off
  trivial
section
variable {w : World} {p : Program} {loose : List Str} {mean : ExcName → Option Value} {mg mb : Str → Option Value} {dp un : Nat} {gd : Option (List Code)} {cn : Str} {cs : Scope} {a : Addr} {ccd : Value} {cl : List (Str × Addr)} {outer : List Env} {A₀ : Around} {base h₀ : Heap} {L : Addr} {m : Str → Option Value} {s : Shared} {Q E : Value → Shared → Prop} {news : Led}
theorem said_row : PySem.Challenge.rw_pf0233_01.row.wellSaid = true := by kernel_rfl
theorem said_ok : OpenLaw.wellSaid PySem.Challenge.rw_pf0233_01 = true := by
  delta OpenLaw.wellSaid
  repeat' (with_reducible refine Bool.and_eq_true_iff.mpr ⟨?_, ?_⟩)
  all_goals first | with_reducible exact said_row | kernel_rfl
theorem TT : PySem.Challenge.rw_pf0233_01.Holds := by
  w_on
  refine holds_law said_ok fun said => ?_
  refine holds_open (q := hd.view_39) (loose := []) (Xt := fun s => xlAt hd.view_39 [] s && recOk RW.records s) (XP := XL hd.view_39 []) (Yf := HK.obs) (Ya := HK.val) (YP := HK.says) (N := 3592) left_all (Hook.of HK) (Hook.keeps HK) (fun s e => xl_of s (Bool.and_eq_true_iff.mp e).1) XL.keeps (by rfl) (by rfl) (by rfl) (fun s e => recFacts_of (Bool.and_eq_true_iff.mp e).2) (by rfl) (by first | assumption | decide +kernel) (by decide +kernel) ⟨rfl, rfl, rfl, rfl, rfl, by decide +kernel⟩ ?hw ?hc
  case hw => w_witness2
  case hc =>
  delta Mine.HK
  k_go0
  (try k_fold)
  (try (rename Ground _ _ _ _ _ _ _ _ _ => qq; clear qq))
  (try (rename (kmHook _ _ _ _).says _ _ => qq; clear qq))
  (try (rename Heap.get? _ _ = some _ => qq; clear qq))
  (try (rename ∀ P, P ∈ [246] → _ => qq; clear qq))
  (try (rename Flt.MathXP _ _ _ => qq; clear qq))
  (try (rename LooseAre _ _ _ => qq; clear qq))
  (try (rename Tables _ _ _ _ => qq; clear qq))
  (try (rename TopE _ _ _ _ => qq; clear qq))
  (try (rename TopW _ _ _ => qq; clear qq))
  (try (rename TabsAt _ _ => qq; clear qq))
  (try (rename Heap.CodeRec _ _ _ => qq; clear qq))
  (try (rename PySem.Spec.Shape.has _ _ = true => qq; clear qq))
  (try (rename PyData.layableAll0 _ = true => qq; clear qq))
  (try (rename PyData.layable0 _ = true => qq; clear qq))
  (try (rename WShape.hasAll _ _ _ = true => qq; clear qq))
  (try (rename WData.layableAll _ = true => qq; clear qq))
  (try (rename ReadsAll _ _ _ _ => qq; clear qq))
  (try (rename Well _ _ _ _ => qq; clear qq))
  (try (rename Reads _ _ _ _ => qq; clear qq))
  (try (rename ReadsAllW _ _ _ _ _ _ => qq; clear qq))
  (try (rename Dflts _ _ _ => qq; clear qq))
  (try (rename _ = true => qq; clear qq))
  (try (rename Dflts _ _ _ => qq; clear qq))
  dsimp only at *

  (rename ¬ _ < _ => q63)
  k_dflt (refine' wpAny_mono (law_core ?B ?X ?T ?L ?I ?h63 ?hc ?hL ?F ?N ?d5 ?d4 ?d3 ?d2 ?d1) ?hpost ?hexc; (case B => k_asm); (case X => k_asm); (case T => k_asm); (case L => assumption); (case I => assumption); (case h63 => omega); (case hc => assumption); (case hL => assumption); (case F => assumption); (case N => assumption); (case d5 => assumption); (case d4 => assumption); (case d3 => assumption); (case d2 => assumption); (case d1 => assumption))
  case hexc => exact fun _ _ e => e.elim
  case hpost =>
   rintro f s' ⟨rfl, h', tk', m', rfl, FE, GE⟩
   (try dsimp only)
   refine ⟨?_, GE⟩
   wrow_close
end
end
end
end Mine
theorem PySem.Challenge.cw_pf0233_01_holds : PySem.Challenge.rw_pf0233_01.Holds :=
  Mine.TT
