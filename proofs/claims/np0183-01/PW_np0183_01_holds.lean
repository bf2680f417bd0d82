import PyProof.Rows.All
import Wide.All
import Open.FastT9
import OpenK.KCell
import OpenK.KMake
import OpenK.KMeth
import OpenK.KTop
import OpenK.KOps
import OpenK.KMore
import KE.LcTurns
import KE.KDictOf
import KE.KUnpack
import KE.KFinally
import KE.TryLedger
import Wide.FinOn
import PyProof.ExcBaseAll.Exception
import PyProof.CodeObjX
import PyProof.DefMake
import PyProof.EvalArms
import PyProof.RulesTry
import PyProof.Rows.Catch
import Open.Boot
import Open.FastRun
import Lean
import PySem.Challenge.RW_np0183_01
set_option Elab.async false
set_option maxRecDepth 100000
set_option linter.unusedVariables false
namespace Mine
open PySem PySem.W PySem.Calls PyProof.Rows PySem.Spec

/-! # what stands behind the text's top: printed by a program; the defs' bodies are read off the row's program -/
noncomputable abbrev prg : Program := PySem.Challenge.pw_np0183_01
noncomputable def topS (i : Nat) : Stmt := (prg.main.body[i]?).getD (.Pass default)
noncomputable def inS (s : Stmt) (j : Nat) : Stmt := match s with
  | .ClassDef _ _ _ body _ _ _ _ _ _ _ => (body[j]?).getD (.Pass default)
  | _ => .Pass default
noncomputable def fnOb (pm : Value) (cd : Addr) (q : Str) (dv : Value) (s : Stmt) : Obj := match s with
  | .FunctionDef name args body _ _ _ scope _ _ _ => { cls := .type "function", data := .func { name, qualname := q, params := args, body := .stmts body, scope, globals := 3, closure := [], defaults := dv, kwdefaults := .none, pyModule := pm, code := .ref cd } }
  | _ => default
noncomputable def nsOb (P : Params) (c : Value) (es : List (Str × Tok × Value)) (ep : Nat) : Obj := { cls := c, data := .dict (es.map fun e => ({ hash := PyData.keyHash P e.1, key := .str e.1 e.2.1, val := e.2.2 } : DictEntry)).toArray ep }
noncomputable def KKf (P : Params) : Frag := [
  (2, nsOb P (.none) [("type.__subclasses__.Exception.0", 214, (.int 31 0)), ("type.__subclasses__.Exception.n", 215, (.int 1 0))] 2),
  (3, nsOb P (.type "dict") [("__name__", 165, (.str "law_np0183_01" 441)), ("__doc__", 166, .none), ("__package__", 167, .none), ("__loader__", 168, (.builtin "__main__.__loader__#opaque")), ("__spec__", 169, .none), ("__annotations__", 170, (.ref 6)), ("__builtins__", 171, (.ref 4)), ("__file__", 173, (.str "/claim/cut.py" 172)), ("__cached__", 174, .none), ("PoolFault", 217, (.ref 31)), ("Busy", 233, (.ref 44)), ("Misused", 249, (.ref 56)), ("Groups", 440, (.ref 206)), ("_law_tried", 449, (.ref 217)), ("_law_quiesce", 456, (.ref 224)), ("_law_close", 463, (.ref 231)), ("_law_held", 473, (.ref 238)), ("_law_done", 481, (.ref 245)), ("_law_ticket", 489, (.ref 252)), ("_law_served", 495, (.ref 257)), ("_law_done_right", 510, (.ref 264)), ("_law_word", 516, (.ref 269)), ("_law_is_same", 522, (.ref 274)), ("law", 535, (.ref 281))] 24),
  (27, { cls := .type "code", data := .fields #[(.str "__init__" 201), (.str "PoolFault.__init__" 202), (.str "/claim/cut.py" 203), (.int 4 0), (.int 2 0), (.int 0 0), (.int 0 0), (.int 3 0), (.ref 22), (.bool true), (.int 181 0), (.ref 23), .none, (.ref 24), (.ref 25), (.ref 26), (.int 206 0), (.int 4 0), (.str "/claim/cut.py" 207)] }),
  (28, fnOb (.str "treepool.faults" 187) 27 "PoolFault.__init__" .none (inS (topS 1) 0)),
  (30, nsOb P (.type "dict") [("__module__", 196, (.str "treepool.faults" 187)), ("__firstlineno__", 200, (.int 2 199)), ("__init__", 208, (.ref 28)), ("__static_attributes__", 210, (.ref 29)), ("__weakref__", 212, (.ref 32)), ("__doc__", 213, .none)] 3),
  (31, { cls := .type "type", data := .cls { name := "PoolFault", bases := [.type "Exception"], mro := [.ref 31, .type "Exception", .type "BaseException", .type "object"], ns := 30, qualname := "PoolFault", subclasses := [.ref 44, .ref 56] }, slots := #[some (.ref 15), none, some (.str ("PoolFault") 189), some (.str ("PoolFault") 197), some (.builtin "Exception.__new__"), some (.bool true)] }),
  (32, { cls := .type "getset_descriptor", data := .fields #[(.str "__weakref__" 211), (.ref 31), (.builtin "ExceptionGroup.__weakref__"), .none] }),
  (43, nsOb P (.type "dict") [("__module__", 225, (.str "treepool.faults" 187)), ("__firstlineno__", 229, (.int 7 228)), ("__static_attributes__", 230, (.ref 42)), ("__doc__", 231, .none)] 2),
  (44, { cls := .type "type", data := .cls { name := "Busy", bases := [.ref 31], mro := [.ref 44, .ref 31, .type "Exception", .type "BaseException", .type "object"], ns := 43, qualname := "Busy" }, slots := #[some (.ref 35), none, some (.str ("Busy") 218), some (.str ("Busy") 226), some (.builtin "Exception.__new__"), some (.bool true)] }),
  (55, nsOb P (.type "dict") [("__module__", 241, (.str "treepool.faults" 187)), ("__firstlineno__", 245, (.int 9 244)), ("__static_attributes__", 246, (.ref 54)), ("__doc__", 247, .none)] 2),
  (56, { cls := .type "type", data := .cls { name := "Misused", bases := [.ref 31], mro := [.ref 56, .ref 31, .type "Exception", .type "BaseException", .type "object"], ns := 55, qualname := "Misused" }, slots := #[some (.ref 47), none, some (.str ("Misused") 234), some (.str ("Misused") 242), some (.builtin "Exception.__new__"), some (.bool true)] }),
  (66, { cls := .type "tuple", data := .seq #[(.int 1 264), .none] }),
  (72, { cls := .type "code", data := .fields #[(.str "__init__" 265), (.str "Groups.__init__" 266), (.str "/claim/cut.py" 267), (.int 14 0), (.int 3 0), (.int 0 0), (.int 0 0), (.int 3 0), (.ref 67), (.bool true), (.int 181 0), (.ref 68), .none, (.ref 69), (.ref 70), (.ref 71), (.int 271 0), (.int 14 0), (.str "/claim/cut.py" 272)] }),
  (73, fnOb (.str "treepool.groups" 250) 72 "Groups.__init__" (.ref 66) (inS (topS 5) 0)),
  (79, { cls := .type "code", data := .fields #[(.str "begin" 274), (.str "Groups.begin" 275), (.str "/claim/cut.py" 276), (.int 26 0), (.int 1 0), (.int 0 0), (.int 0 0), (.int 3 0), (.ref 74), (.bool true), (.int 181 0), (.ref 75), .none, (.ref 76), (.ref 77), (.ref 78), (.int 278 0), (.int 26 0), (.str "/claim/cut.py" 279)] }),
  (80, fnOb (.str "treepool.groups" 250) 79 "Groups.begin" .none (inS (topS 5) 1)),
  (86, { cls := .type "code", data := .fields #[(.str "end" 281), (.str "Groups.end" 282), (.str "/claim/cut.py" 283), (.int 30 0), (.int 2 0), (.int 0 0), (.int 0 0), (.int 3 0), (.ref 81), (.bool true), (.int 181 0), (.ref 82), .none, (.ref 83), (.ref 84), (.ref 85), (.int 286 0), (.int 30 0), (.str "/claim/cut.py" 287)] }),
  (87, fnOb (.str "treepool.groups" 250) 86 "Groups.end" .none (inS (topS 5) 2)),
  (93, { cls := .type "code", data := .fields #[(.str "want_held" 289), (.str "Groups.want_held" 290), (.str "/claim/cut.py" 291), (.int 34 0), (.int 2 0), (.int 0 0), (.int 0 0), (.int 3 0), (.ref 88), (.bool true), (.int 181 0), (.ref 89), .none, (.ref 90), (.ref 91), (.ref 92), (.int 294 0), (.int 34 0), (.str "/claim/cut.py" 295)] }),
  (94, fnOb (.str "treepool.groups" 250) 93 "Groups.want_held" .none (inS (topS 5) 3)),
  (100, { cls := .type "code", data := .fields #[(.str "held" 297), (.str "Groups.held" 298), (.str "/claim/cut.py" 299), (.int 38 0), (.int 2 0), (.int 0 0), (.int 0 0), (.int 3 0), (.ref 95), (.bool true), (.int 181 0), (.ref 96), .none, (.ref 97), (.ref 98), (.ref 99), (.int 302 0), (.int 38 0), (.str "/claim/cut.py" 303)] }),
  (101, fnOb (.str "treepool.groups" 250) 100 "Groups.held" .none (inS (topS 5) 4)),
  (107, { cls := .type "code", data := .fields #[(.str "mark" 305), (.str "Groups.mark" 306), (.str "/claim/cut.py" 307), (.int 41 0), (.int 3 0), (.int 0 0), (.int 0 0), (.int 3 0), (.ref 102), (.bool true), (.int 181 0), (.ref 103), .none, (.ref 104), (.ref 105), (.ref 106), (.int 311 0), (.int 41 0), (.str "/claim/cut.py" 312)] }),
  (108, fnOb (.str "treepool.groups" 250) 107 "Groups.mark" .none (inS (topS 5) 5)),
  (114, { cls := .type "code", data := .fields #[(.str "dirty" 314), (.str "Groups.dirty" 315), (.str "/claim/cut.py" 316), (.int 45 0), (.int 2 0), (.int 0 0), (.int 0 0), (.int 3 0), (.ref 109), (.bool true), (.int 181 0), (.ref 110), .none, (.ref 111), (.ref 112), (.ref 113), (.int 319 0), (.int 45 0), (.str "/claim/cut.py" 320)] }),
  (115, fnOb (.str "treepool.groups" 250) 114 "Groups.dirty" .none (inS (topS 5) 6)),
  (119, { cls := .type "code", data := .fields #[(.str "is_dirty" 322), (.str "Groups.is_dirty" 323), (.str "/claim/cut.py" 324), (.int 48 0), (.int 2 0), (.int 0 0), (.int 0 0), (.int 3 0), (.ref 116), (.bool true), (.int 181 0), (.ref 117), .none, .none, .none, (.ref 118), (.int 325 0), (.int 48 0), (.str "/claim/cut.py" 326)] }),
  (120, fnOb (.str "treepool.groups" 250) 119 "Groups.is_dirty" .none (inS (topS 5) 7)),
  (126, { cls := .type "code", data := .fields #[(.str "spend" 328), (.str "Groups.spend" 329), (.str "/claim/cut.py" 330), (.int 51 0), (.int 3 0), (.int 0 0), (.int 0 0), (.int 3 0), (.ref 121), (.bool true), (.int 181 0), (.ref 122), .none, (.ref 123), (.ref 124), (.ref 125), (.int 334 0), (.int 51 0), (.str "/claim/cut.py" 335)] }),
  (127, fnOb (.str "treepool.groups" 250) 126 "Groups.spend" .none (inS (topS 5) 8)),
  (133, { cls := .type "code", data := .fields #[(.str "is_full" 337), (.str "Groups.is_full" 338), (.str "/claim/cut.py" 339), (.int 55 0), (.int 1 0), (.int 0 0), (.int 0 0), (.int 3 0), (.ref 128), (.bool true), (.int 181 0), (.ref 129), .none, (.ref 130), (.ref 131), (.ref 132), (.int 341 0), (.int 55 0), (.str "/claim/cut.py" 342)] }),
  (134, fnOb (.str "treepool.groups" 250) 133 "Groups.is_full" .none (inS (topS 5) 9)),
  (138, { cls := .type "code", data := .fields #[(.str "all_spent" 344), (.str "Groups.all_spent" 345), (.str "/claim/cut.py" 346), (.int 58 0), (.int 1 0), (.int 0 0), (.int 0 0), (.int 3 0), (.ref 135), (.bool true), (.int 181 0), (.ref 136), .none, .none, .none, (.ref 137), (.int 347 0), (.int 58 0), (.str "/claim/cut.py" 348)] }),
  (139, fnOb (.str "treepool.groups" 250) 138 "Groups.all_spent" .none (inS (topS 5) 10)),
  (145, { cls := .type "code", data := .fields #[(.str "quiesce" 350), (.str "Groups.quiesce" 351), (.str "/claim/cut.py" 352), (.int 61 0), (.int 1 0), (.int 0 0), (.int 0 0), (.int 3 0), (.ref 140), (.bool true), (.int 181 0), (.ref 141), .none, (.ref 142), (.ref 143), (.ref 144), (.int 354 0), (.int 61 0), (.str "/claim/cut.py" 355)] }),
  (146, fnOb (.str "treepool.groups" 250) 145 "Groups.quiesce" .none (inS (topS 5) 11)),
  (152, { cls := .type "code", data := .fields #[(.str "is_quiet" 357), (.str "Groups.is_quiet" 358), (.str "/claim/cut.py" 359), (.int 71 0), (.int 1 0), (.int 0 0), (.int 0 0), (.int 3 0), (.ref 147), (.bool true), (.int 181 0), (.ref 148), .none, (.ref 149), (.ref 150), (.ref 151), (.int 361 0), (.int 71 0), (.str "/claim/cut.py" 362)] }),
  (153, fnOb (.str "treepool.groups" 250) 152 "Groups.is_quiet" .none (inS (topS 5) 12)),
  (159, { cls := .type "code", data := .fields #[(.str "close" 364), (.str "Groups.close" 365), (.str "/claim/cut.py" 366), (.int 74 0), (.int 1 0), (.int 0 0), (.int 0 0), (.int 3 0), (.ref 154), (.bool true), (.int 181 0), (.ref 155), .none, (.ref 156), (.ref 157), (.ref 158), (.int 368 0), (.int 74 0), (.str "/claim/cut.py" 369)] }),
  (160, fnOb (.str "treepool.groups" 250) 159 "Groups.close" .none (inS (topS 5) 13)),
  (166, { cls := .type "code", data := .fields #[(.str "done" 371), (.str "Groups.done" 372), (.str "/claim/cut.py" 373), (.int 85 0), (.int 2 0), (.int 0 0), (.int 0 0), (.int 3 0), (.ref 161), (.bool true), (.int 181 0), (.ref 162), .none, (.ref 163), (.ref 164), (.ref 165), (.int 377 0), (.int 85 0), (.str "/claim/cut.py" 378)] }),
  (167, fnOb (.str "treepool.groups" 250) 166 "Groups.done" .none (inS (topS 5) 14)),
  (173, { cls := .type "code", data := .fields #[(.str "is_synced" 380), (.str "Groups.is_synced" 381), (.str "/claim/cut.py" 382), (.int 93 0), (.int 2 0), (.int 0 0), (.int 0 0), (.int 3 0), (.ref 168), (.bool true), (.int 181 0), (.ref 169), .none, (.ref 170), (.ref 171), (.ref 172), (.int 385 0), (.int 93 0), (.str "/claim/cut.py" 386)] }),
  (174, fnOb (.str "treepool.groups" 250) 173 "Groups.is_synced" .none (inS (topS 5) 15)),
  (180, { cls := .type "code", data := .fields #[(.str "state" 388), (.str "Groups.state" 389), (.str "/claim/cut.py" 390), (.int 96 0), (.int 2 0), (.int 0 0), (.int 0 0), (.int 3 0), (.ref 175), (.bool true), (.int 181 0), (.ref 176), .none, (.ref 177), (.ref 178), (.ref 179), (.int 393 0), (.int 96 0), (.str "/claim/cut.py" 394)] }),
  (181, fnOb (.str "treepool.groups" 250) 180 "Groups.state" .none (inS (topS 5) 16)),
  (187, { cls := .type "code", data := .fields #[(.str "ticket" 396), (.str "Groups.ticket" 397), (.str "/claim/cut.py" 398), (.int 105 0), (.int 2 0), (.int 0 0), (.int 0 0), (.int 3 0), (.ref 182), (.bool true), (.int 181 0), (.ref 183), .none, (.ref 184), (.ref 185), (.ref 186), (.int 402 0), (.int 105 0), (.str "/claim/cut.py" 403)] }),
  (188, fnOb (.str "treepool.groups" 250) 187 "Groups.ticket" .none (inS (topS 5) 17)),
  (192, { cls := .type "code", data := .fields #[(.str "served" 405), (.str "Groups.served" 406), (.str "/claim/cut.py" 407), (.int 113 0), (.int 1 0), (.int 0 0), (.int 0 0), (.int 3 0), (.ref 189), (.bool true), (.int 181 0), (.ref 190), .none, .none, .none, (.ref 191), (.int 408 0), (.int 113 0), (.str "/claim/cut.py" 409)] }),
  (193, fnOb (.str "treepool.groups" 250) 192 "Groups.served" .none (inS (topS 5) 18)),
  (197, { cls := .type "code", data := .fields #[(.str "waiting" 411), (.str "Groups.waiting" 412), (.str "/claim/cut.py" 413), (.int 118 0), (.int 1 0), (.int 0 0), (.int 0 0), (.int 3 0), (.ref 194), (.bool true), (.int 181 0), (.ref 195), .none, .none, .none, (.ref 196), (.int 414 0), (.int 118 0), (.str "/claim/cut.py" 415)] }),
  (198, fnOb (.str "treepool.groups" 250) 197 "Groups.waiting" .none (inS (topS 5) 19)),
  (202, { cls := .type "code", data := .fields #[(.str "plain" 417), (.str "Groups.plain" 418), (.str "/claim/cut.py" 419), (.int 121 0), (.int 1 0), (.int 0 0), (.int 0 0), (.int 3 0), (.ref 199), (.bool true), (.int 181 0), (.ref 200), .none, .none, .none, (.ref 201), (.int 420 0), (.int 121 0), (.str "/claim/cut.py" 421)] }),
  (203, fnOb (.str "treepool.groups" 250) 202 "Groups.plain" .none (inS (topS 5) 20)),
  (205, nsOb P (.type "dict") [("__module__", 259, (.str "treepool.groups" 250)), ("__firstlineno__", 263, (.int 12 262)), ("__init__", 273, (.ref 73)), ("begin", 280, (.ref 80)), ("end", 288, (.ref 87)), ("want_held", 296, (.ref 94)), ("held", 304, (.ref 101)), ("mark", 313, (.ref 108)), ("dirty", 321, (.ref 115)), ("is_dirty", 327, (.ref 120)), ("spend", 336, (.ref 127)), ("is_full", 343, (.ref 134)), ("all_spent", 349, (.ref 139)), ("quiesce", 356, (.ref 146)), ("is_quiet", 363, (.ref 153)), ("close", 370, (.ref 160)), ("done", 379, (.ref 167)), ("is_synced", 387, (.ref 174)), ("state", 395, (.ref 181)), ("ticket", 404, (.ref 188)), ("served", 410, (.ref 193)), ("waiting", 416, (.ref 198)), ("plain", 422, (.ref 203)), ("__static_attributes__", 433, (.ref 204)), ("__dict__", 435, (.ref 207)), ("__weakref__", 437, (.ref 208)), ("__doc__", 438, .none)] 4),
  (206, { cls := .type "type", data := .cls { name := "Groups", bases := [.type "object"], mro := [.ref 206, .type "object"], ns := 205, qualname := "Groups" }, slots := #[none, none, some (.str ("Groups") 252), some (.str ("Groups") 260), some (.builtin "object.__new__"), some (.bool true)] }),
  (207, { cls := .type "getset_descriptor", data := .fields #[(.str "__dict__" 434), (.ref 206), (.builtin "function.__dict__"), (.builtin "function.__dict__#set")] }),
  (208, { cls := .type "getset_descriptor", data := .fields #[(.str "__weakref__" 436), (.ref 206), (.builtin "ExceptionGroup.__weakref__"), .none] }),
  (216, { cls := .type "code", data := .fields #[(.str "_law_tried" 443), (.str "_law_tried" 444), (.str "/claim/cut.py" 445), (.int 125 0), (.int 1 0), (.int 0 0), (.int 0 0), (.int 3 0), (.ref 211), (.bool true), (.int 181 0), (.ref 212), .none, (.ref 213), (.ref 214), (.ref 215), (.int 447 0), (.int 125 0), (.str "/claim/cut.py" 448)] }),
  (217, fnOb (.str "law_np0183_01" 441) 216 "_law_tried" .none (topS 7)),
  (223, { cls := .type "code", data := .fields #[(.str "_law_quiesce" 450), (.str "_law_quiesce" 451), (.str "/claim/cut.py" 452), (.int 132 0), (.int 1 0), (.int 0 0), (.int 0 0), (.int 3 0), (.ref 218), (.bool true), (.int 181 0), (.ref 219), .none, (.ref 220), (.ref 221), (.ref 222), (.int 454 0), (.int 132 0), (.str "/claim/cut.py" 455)] }),
  (224, fnOb (.str "law_np0183_01" 441) 223 "_law_quiesce" .none (topS 8)),
  (230, { cls := .type "code", data := .fields #[(.str "_law_close" 457), (.str "_law_close" 458), (.str "/claim/cut.py" 459), (.int 138 0), (.int 1 0), (.int 0 0), (.int 0 0), (.int 3 0), (.ref 225), (.bool true), (.int 181 0), (.ref 226), .none, (.ref 227), (.ref 228), (.ref 229), (.int 461 0), (.int 138 0), (.str "/claim/cut.py" 462)] }),
  (231, fnOb (.str "law_np0183_01" 441) 230 "_law_close" .none (topS 9)),
  (237, { cls := .type "code", data := .fields #[(.str "_law_held" 464), (.str "_law_held" 465), (.str "/claim/cut.py" 466), (.int 147 0), (.int 4 0), (.int 0 0), (.int 0 0), (.int 3 0), (.ref 232), (.bool true), (.int 181 0), (.ref 233), .none, (.ref 234), (.ref 235), (.ref 236), (.int 471 0), (.int 147 0), (.str "/claim/cut.py" 472)] }),
  (238, fnOb (.str "law_np0183_01" 441) 237 "_law_held" .none (topS 10)),
  (244, { cls := .type "code", data := .fields #[(.str "_law_done" 474), (.str "_law_done" 475), (.str "/claim/cut.py" 476), (.int 152 0), (.int 2 0), (.int 0 0), (.int 0 0), (.int 3 0), (.ref 239), (.bool true), (.int 181 0), (.ref 240), .none, (.ref 241), (.ref 242), (.ref 243), (.int 479 0), (.int 152 0), (.str "/claim/cut.py" 480)] }),
  (245, fnOb (.str "law_np0183_01" 441) 244 "_law_done" .none (topS 11)),
  (251, { cls := .type "code", data := .fields #[(.str "_law_ticket" 482), (.str "_law_ticket" 483), (.str "/claim/cut.py" 484), (.int 157 0), (.int 2 0), (.int 0 0), (.int 0 0), (.int 3 0), (.ref 246), (.bool true), (.int 181 0), (.ref 247), .none, (.ref 248), (.ref 249), (.ref 250), (.int 487 0), (.int 157 0), (.str "/claim/cut.py" 488)] }),
  (252, fnOb (.str "law_np0183_01" 441) 251 "_law_ticket" .none (topS 12)),
  (256, { cls := .type "code", data := .fields #[(.str "_law_served" 490), (.str "_law_served" 491), (.str "/claim/cut.py" 492), (.int 163 0), (.int 1 0), (.int 0 0), (.int 0 0), (.int 3 0), (.ref 253), (.bool true), (.int 181 0), (.ref 254), .none, .none, .none, (.ref 255), (.int 493 0), (.int 163 0), (.str "/claim/cut.py" 494)] }),
  (257, fnOb (.str "law_np0183_01" 441) 256 "_law_served" .none (topS 13)),
  (263, { cls := .type "code", data := .fields #[(.str "_law_done_right" 496), (.str "_law_done_right" 497), (.str "/claim/cut.py" 498), (.int 167 0), (.int 3 0), (.int 0 0), (.int 0 0), (.int 3 0), (.ref 258), (.bool true), (.int 181 0), (.ref 259), .none, (.ref 260), (.ref 261), (.ref 262), (.int 508 0), (.int 167 0), (.str "/claim/cut.py" 509)] }),
  (264, fnOb (.str "law_np0183_01" 441) 263 "_law_done_right" .none (topS 14)),
  (268, { cls := .type "code", data := .fields #[(.str "_law_word" 511), (.str "_law_word" 512), (.str "/claim/cut.py" 513), (.int 192 0), (.int 2 0), (.int 0 0), (.int 0 0), (.int 3 0), (.ref 265), (.bool true), (.int 181 0), (.ref 266), .none, .none, .none, (.ref 267), (.int 514 0), (.int 192 0), (.str "/claim/cut.py" 515)] }),
  (269, fnOb (.str "law_np0183_01" 441) 268 "_law_word" .none (topS 15)),
  (273, { cls := .type "code", data := .fields #[(.str "_law_is_same" 517), (.str "_law_is_same" 518), (.str "/claim/cut.py" 519), (.int 197 0), (.int 2 0), (.int 0 0), (.int 0 0), (.int 3 0), (.ref 270), (.bool true), (.int 181 0), (.ref 271), .none, .none, .none, (.ref 272), (.int 520 0), (.int 197 0), (.str "/claim/cut.py" 521)] }),
  (274, fnOb (.str "law_np0183_01" 441) 273 "_law_is_same" .none (topS 16)),
  (280, { cls := .type "code", data := .fields #[(.str "law" 523), (.str "law" 524), (.str "/claim/cut.py" 525), (.int 219 0), (.int 1 0), (.int 0 0), (.int 0 0), (.int 3 0), (.ref 275), (.bool true), (.int 181 0), (.ref 276), .none, (.ref 277), (.ref 278), (.ref 279), (.int 533 0), (.int 219 0), (.str "/claim/cut.py" 534)] }),
  (281, fnOb (.str "law_np0183_01" 441) 280 "law" .none (topS 17))]
noncomputable def asL : List Addr := [2, 3, 27, 28, 30, 31, 32, 43, 44, 55, 56, 66, 72, 73, 79, 80, 86, 87, 93, 94, 100, 101, 107, 108, 114, 115, 119, 120, 126, 127, 133, 134, 138, 139, 145, 146, 152, 153, 159, 160, 166, 167, 173, 174, 180, 181, 187, 188, 192, 193, 197, 198, 202, 203, 205, 206, 207, 208, 216, 217, 223, 224, 230, 231, 237, 238, 244, 245, 251, 252, 256, 257, 263, 264, 268, 269, 273, 274, 280, 281]
end Mine
set_option Elab.async false
set_option maxRecDepth 100000
set_option linter.unusedVariables false
namespace Mine
open PySem PySem.W PySem.Calls PyProof.Rows PySem.Spec

/-! # a small logic of triples over the model: what is owned, what stands still -/

noncomputable abbrev Led := List (Addr × Obj)
noncomputable abbrev KK (w : World) : Frag := KKf w.params

inductive AV where
  | d (p : PyData)
  | v (x : Value)
  | fz (P : Obj → Prop)

inductive All2 {α β : Type} (R : α → β → Prop) : List α → List β → Prop
  | nil : All2 R [] []
  | cons {a b as bs} : R a b → All2 R as bs → All2 R (a :: as) (b :: bs)

theorem All2.imp {α β : Type} {R S : α → β → Prop} (h : ∀ a b, R a b → S a b) : ∀ {l m}, All2 R l m → All2 S l m
  | _, _, .nil => .nil
  | _, _, .cons x r => .cons (h _ _ x) (r.imp h)
theorem All2.length {α β : Type} {R : α → β → Prop} : ∀ {l : List α} {m : List β}, All2 R l m → l.length = m.length
  | _, _, .nil => rfl
  | _, _, .cons _ r => by simp [r.length]
theorem All2.append {α β : Type} {R : α → β → Prop} : ∀ {l : List α} {m : List β} {l' m'}, All2 R l m → All2 R l' m' → All2 R (l ++ l') (m ++ m')
  | _, _, _, _, .nil, y => y
  | _, _, _, _, .cons x r, y => .cons x (r.append y)
theorem All2.get {α β : Type} {R : α → β → Prop} : ∀ {l : List α} {m : List β}, All2 R l m → ∀ {i : Nat} {a : α}, l[i]? = some a → ∃ b, m[i]? = some b ∧ R a b
  | _, _, .cons x _, 0, _, e => by cases e; exact ⟨_, rfl, x⟩
  | _, _, .cons _ r, i + 1, _, e => by
    simp only [List.getElem?_cons_succ] at e ⊢
    exact r.get e
theorem All2.get' {α β : Type} {R : α → β → Prop} : ∀ {l : List α} {m : List β}, All2 R l m → ∀ {i : Nat} {b : β}, m[i]? = some b → ∃ a, l[i]? = some a ∧ R a b
  | _, _, .cons x _, 0, _, e => by cases e; exact ⟨_, rfl, x⟩
  | _, _, .cons _ r, i + 1, _, e => by
    simp only [List.getElem?_cons_succ] at e ⊢
    exact r.get' e

noncomputable def HLe (I J : Heap) : Prop := ∀ b o, I.get? b = some o → J.get? b = some o
theorem HLe.refl (I : Heap) : HLe I I := fun _ _ e => e
theorem HLe.trans {I J K : Heap} (x : HLe I J) (y : HLe J K) : HLe I K := fun b o e => y b o (x b o e)
theorem HLe.push (h : Heap) (o : Obj) : HLe h (h.push o) := fun _ _ e => Heap.get?_push_of_some o e

noncomputable def Rv (I : Heap) (x : Value) : AV → Prop
  | .d p => ∃ as, Reads I x p as
  | .v y => x = y
  | .fz P => ∃ a o, x = .ref a ∧ I.get? a = some o ∧ P o ∧ 1 < a
theorem Rv.mono {I J : Heap} (h : HLe I J) {x : Value} : ∀ {a : AV}, Rv I x a → Rv J x a
  | .d _, ⟨as, r⟩ => ⟨as, Reads.keeps h r⟩
  | .v _, e => e
  | .fz _, ⟨a, o, h1, h2, h3⟩ => ⟨a, o, h1, h _ _ h2, h3⟩

inductive AO where
  | raw (o : Obj)
  | sdict (fs : List (Str × AV))
  | idict (fs : List (Int × AV))
  | list (xs : List AV)
  | ns (n : Nat) (fs : List (Str × AV))
  | cell (o : Option AV)
  | gen (P : Heap → Obj → Prop) (mono : ∀ I J o, HLe I J → P I o → P J o)
  | exact (o : Obj) (a : AO)

/-- a namespace read by its names -/
noncomputable def NsR (I : Heap) (fs : List (Str × AV)) (f : Str → Option Value) : Prop := ∀ x, match fs.lookup x with
  | some av => ∃ v, f x = some v ∧ Rv I v av
  | none => f x = none
theorem NsR.mono {I J : Heap} (h : HLe I J) {fs : List (Str × AV)} {f : Str → Option Value} (r : NsR I fs f) : NsR J fs f := fun x => by
  have := r x
  split <;> rename_i e
  · rw [e] at this
    obtain ⟨v, a, b⟩ := this
    exact ⟨v, a, b.mono h⟩
  · rw [e] at this
    exact this

noncomputable def Kv {K : Type} (I : Heap) (x : K × Value) (f : K × AV) : Prop := x.1 = f.1 ∧ Rv I x.2 f.2
theorem Kv.mono {K : Type} {I J : Heap} (h : HLe I J) {x : K × Value} {f : K × AV} (r : Kv I x f) : Kv J x f := ⟨r.1, r.2.mono h⟩

noncomputable def Ro (w : World) (I : Heap) (o : Obj) : AO → Prop
  | .raw o' => o = o'
  | .sdict fs => ∃ kvs, o.IsDictOf (strKind prg w) kvs ∧ All2 (Kv I) kvs fs
  | .idict fs => ∃ kvs, o.IsDictOf (intKind prg w) kvs ∧ All2 (Kv I) kvs fs
  | .list xs => ∃ vs n, o = listOf vs n ∧ All2 (Rv I) vs.toList xs
  | .ns n fs => ∃ es ep, o = { cls := .type "dict", data := .dict es ep } ∧ es.size ≤ n ∧ StrKeys es ∧ NsR I fs (nsFind es)
  | .cell none => o.data = .cell none
  | .cell (some av) => ∃ v, o.data = .cell (some v) ∧ Rv I v av
  | .gen P _ => P I o
  | .exact o' a => o = o' ∧ Ro w I o' a
theorem Ro.mono {w : World} {I J : Heap} (h : HLe I J) {o : Obj} : ∀ {a : AO}, Ro w I o a → Ro w J o a
  | .raw _, e => e
  | .sdict _, ⟨kvs, a, b⟩ => ⟨kvs, a, b.imp fun _ _ => Kv.mono h⟩
  | .idict _, ⟨kvs, a, b⟩ => ⟨kvs, a, b.imp fun _ _ => Kv.mono h⟩
  | .list _, ⟨vs, n, a, b⟩ => ⟨vs, n, a, b.imp fun _ _ => Rv.mono h⟩
  | .ns _ _, ⟨es, ep, a, b, d, e⟩ => ⟨es, ep, a, b, d, e.mono h⟩
  | .cell none, e => e
  | .cell (some _), ⟨v, a, b⟩ => ⟨v, a, b.mono h⟩
  | .gen P m, e => m _ _ _ h e
  | .exact _ a, ⟨e, r⟩ => ⟨e, Ro.mono h r⟩

/-- the fixed things of an activation -/
structure Cx where
  w : World
  A : Around
  env : Env
  outer : List Env
  fobj : Led
  G : Heap
  os : OsState
  L : Addr

/-- what is known of the heap behind the text's top -/
structure Tp (mg mb : Str → Option Value) (h : Heap) : Prop where
  g : h.Ns mainGlobals mg
  b : h.Ns builtinsNs mb
  nolimit : h.NoLimit
  builtins : ∀ x : Str, x ≠ "__name__" → mb x = bootBuiltins x
  bmain : ∃ bm ob, mg "__builtins__" = some (.ref bm) ∧ bm ≠ builtinsNs ∧ h.get? bm = some ob ∧ ob.cls = .type "module" ∧ ob.dict = some builtinsNs ∧ ob.data = .plain
structure Sta (w : World) (G : Heap) : Prop where
  X : (KK w).In G
  T : ∃ (_p _l _m : Unit) (mg mb : Str → Option Value), Tp mg mb G

noncomputable def isDict (o : Obj) : Prop := ∃ es n, o.data = .dict es n

structure Cx.Ok (c : Cx) (lv : Nat) : Prop where
  st : Sta c.w c.G
  frames : c.A.frames = some (c.env :: c.outer)
  handled : c.A.handled = none
  depth : c.A.depth ≤ 310 + 20 * lv
  units : c.A.units ≤ 100 + 200 * lv
  kind : c.env.scope.kind = .function
  frame : c.env.frame = some c.L
  glob : c.env.globals = mainGlobals
  bins : c.env.builtins = builtinsNs
  outs : All2 (fun (e : Env) (p : Addr × Obj) => e.frame = some p.1 ∧ e.scope.kind ≠ .module ∧ isDict p.2) c.outer c.fobj

structure S (c : Cx) (I : Heap) (mu : Led) (s : Shared) : Prop where
  gi : HLe c.G I
  im : HLe I s.heap
  ow : ∀ p ∈ mu, s.heap.get? p.1 = some p.2
  off : ∀ p ∈ mu, I.get? p.1 = none
  nd : (mu.map (·.1)).Nodup
  fr : ∃ o, (c.L, o) ∈ mu ∧ isDict o
  fo : ∀ p ∈ c.fobj, (∃ sl, s.heap.get? p.1 = some { p.2 with slots := sl }) ∧ I.get? p.1 = none ∧ p.1 ∉ mu.map (·.1)
  gens : s.gens = #[]
  os : s.os = c.os
  hi : ∀ p ∈ mu, 1 < p.1

/-- all that neither is owned nor a frame -/
noncomputable def imm (c : Cx) (mu : Led) (h : Heap) : Heap := hideAll h (mu.map (·.1) ++ c.fobj.map (·.1))
theorem imm_le {c : Cx} {mu : Led} {h : Heap} : HLe (imm c mu h) h := fun _ _ e => of_hideAll _ e
theorem imm_get {c : Cx} {mu : Led} {h : Heap} {b : Addr} {o : Obj} (e : h.get? b = some o) (h1 : b ∉ mu.map (·.1)) (h2 : b ∉ c.fobj.map (·.1)) : (imm c mu h).get? b = some o :=
  hideAll_get _ e fun m => (List.mem_append.mp m).elim h1 h2
theorem imm_off {c : Cx} {mu : Led} {h : Heap} {b : Addr} (m : b ∈ mu.map (·.1)) : (imm c mu h).get? b = none := hideAll_none _ (List.mem_append_left _ m)
theorem imm_offF {c : Cx} {mu : Led} {h : Heap} {b : Addr} (m : b ∈ c.fobj.map (·.1)) : (imm c mu h).get? b = none := hideAll_none _ (List.mem_append_right _ m)

section
variable {c : Cx} {I : Heap} {mu : Led} {s : Shared}
theorem S.notMu (X : S c I mu s) {b : Addr} {o : Obj} (e : I.get? b = some o) : b ∉ mu.map (·.1) := fun m => by
  obtain ⟨p, hp, rfl⟩ := List.mem_map.mp m
  rw [X.off p hp] at e; cases e
theorem S.notFo (X : S c I mu s) {b : Addr} {o : Obj} (e : I.get? b = some o) : b ∉ c.fobj.map (·.1) := fun m => by
  obtain ⟨p, hp, rfl⟩ := List.mem_map.mp m
  rw [(X.fo p hp).2.1] at e; cases e
theorem S.here (X : S c I mu s) {b : Addr} {o : Obj} (e : I.get? b = some o) : s.heap.get? b = some o := X.im b o e
theorem S.foMu (X : S c I mu s) {b : Addr} (m : b ∈ c.fobj.map (·.1)) : b ∉ mu.map (·.1) := by
  obtain ⟨p, hp, rfl⟩ := List.mem_map.mp m
  exact (X.fo p hp).2.2

/-- the heap has only grown -/
theorem S.grow (X : S c I mu s) {h' : Heap} {tk : Tok} {dr : Drawn} (k : HLe s.heap h') : S c (imm c mu h') mu { s with heap := h', toks := tk, drawn := dr } ∧ HLe I (imm c mu h') := by
  have le : HLe I (imm c mu h') := fun b o e => imm_get (k _ _ (X.im _ _ e)) (X.notMu e) (X.notFo e)
  refine ⟨⟨fun b o e => le _ _ (X.gi _ _ e), imm_le, fun p hp => k _ _ (X.ow p hp), fun p hp => imm_off (List.mem_map_of_mem hp), X.nd, X.fr, fun p hp => ?_, X.gens, X.os, X.hi⟩, le⟩
  obtain ⟨⟨sl, h1⟩, _, h3⟩ := X.fo p hp
  exact ⟨⟨sl, k _ _ h1⟩, imm_offF (List.mem_map_of_mem hp), h3⟩
theorem S.grow_get (X : S c I mu s) {h' : Heap} {b : Addr} {o : Obj} (e : h'.get? b = some o) (n : s.heap.get? b = none) : (imm c mu h').get? b = some o := by
  refine imm_get e (fun m => ?_) (fun m => ?_)
  · obtain ⟨p, hp, rfl⟩ := List.mem_map.mp m
    rw [X.ow p hp] at n; cases n
  · obtain ⟨p, hp, rfl⟩ := List.mem_map.mp m
    obtain ⟨⟨sl, h1⟩, _, _⟩ := X.fo p hp
    rw [h1] at n; cases n
/-- nothing but the tokens turned -/
theorem S.toks (X : S c I mu s) {tk : Tok} {dr : Drawn} : S c I mu { s with toks := tk, drawn := dr } := ⟨X.gi, X.im, X.ow, X.off, X.nd, X.fr, X.fo, X.gens, X.os, X.hi⟩
/-- a new object is owned from now on -/
theorem S.own (X : S c I mu s) {h' : Heap} {tk : Tok} {dr : Drawn} {a : Addr} {o : Obj} (k : HLe s.heap h') (e : h'.get? a = some o) (n : s.heap.get? a = none) (ha : 1 < a) :
    S c (imm c ((a, o) :: mu) h') ((a, o) :: mu) { s with heap := h', toks := tk, drawn := dr } ∧ HLe I (imm c ((a, o) :: mu) h') := by
  have na : a ∉ mu.map (·.1) := fun m => by
    obtain ⟨p, hp, rfl⟩ := List.mem_map.mp m
    rw [X.ow p hp] at n; cases n
  have nf : a ∉ c.fobj.map (·.1) := fun m => by
    obtain ⟨p, hp, rfl⟩ := List.mem_map.mp m
    obtain ⟨⟨sl, h1⟩, _, _⟩ := X.fo p hp
    rw [h1] at n; cases n
  have le : HLe I (imm c ((a, o) :: mu) h') := fun b ob e' => imm_get (k _ _ (X.im _ _ e')) (fun m => by
    rcases List.mem_cons.mp m with rfl | m
    · rw [X.im _ _ e'] at n; cases n
    · exact X.notMu e' m) (X.notFo e')
  refine ⟨⟨fun b ob e' => le _ _ (X.gi _ _ e'), imm_le, fun p hp => ?_, fun p hp => imm_off (List.mem_map_of_mem hp), ?_, ?_, fun p hp => ?_, X.gens, X.os, fun p hp => ?_⟩, le⟩
  · rcases List.mem_cons.mp hp with rfl | hp
    · exact e
    · exact k _ _ (X.ow p hp)
  · exact List.nodup_cons.mpr ⟨na, X.nd⟩
  · obtain ⟨oL, h1, h2⟩ := X.fr
    exact ⟨oL, List.mem_cons_of_mem _ h1, h2⟩
  · obtain ⟨⟨sl, h1⟩, _, h3⟩ := X.fo p hp
    refine ⟨⟨sl, k _ _ h1⟩, imm_offF (List.mem_map_of_mem hp), fun m => ?_⟩
    rcases List.mem_cons.mp m with q | m
    · exact nf (by have q' : p.1 = a := q; rw [← q']; exact List.mem_map_of_mem hp)
    · exact h3 m
  · rcases List.mem_cons.mp hp with rfl | hp
    · exact ha
    · exact X.hi p hp

/-- one owned object turns -/
noncomputable def updL (a : Addr) (o : Obj) (mu : Led) : Led := mu.map fun p => if p.1 = a then (a, o) else p
theorem updL_keys (a : Addr) (o : Obj) (mu : Led) : (updL a o mu).map (·.1) = mu.map (·.1) := by
  unfold updL
  rw [List.map_map]
  refine List.map_congr_left fun p _ => ?_
  show (if p.1 = a then (a, o) else p).1 = p.1
  split <;> rename_i h
  · exact h.symm
  · rfl
theorem updL_mem {a b : Addr} {o ob : Obj} {mu : Led} (h : (b, ob) ∈ mu) (n : b ≠ a) : (b, ob) ∈ updL a o mu :=
  List.mem_map.mpr ⟨(b, ob), h, by simp [n]⟩
theorem updL_self {a : Addr} {o o' : Obj} {mu : Led} (h : (a, o) ∈ mu) : (a, o') ∈ updL a o' mu := List.mem_map.mpr ⟨(a, o), h, by simp⟩
theorem updL_cases {a : Addr} {o : Obj} {mu : Led} {p : Addr × Obj} (h : p ∈ updL a o mu) : (p = (a, o)) ∨ (p ∈ mu ∧ p.1 ≠ a) := by
  obtain ⟨q, hq, rfl⟩ := List.mem_map.mp h
  by_cases e : q.1 = a
  · left; simp [e]
  · right; simp [e, hq]
theorem S.upd (X : S c I mu s) {h' : Heap} {tk : Tok} {dr : Drawn} {a : Addr} {o o' : Obj} (m : (a, o) ∈ mu) (k : Heap.SameBut a s.heap h') (e : h'.get? a = some o') (hd : a = c.L → isDict o') :
    S c I (updL a o' mu) { s with heap := h', toks := tk, drawn := dr } := by
  have ne : ∀ b ob, I.get? b = some ob → b ≠ a := fun b ob e' q => by
    subst q
    rw [X.off _ m] at e'; cases e'
  refine ⟨X.gi, fun b ob e' => (k.2 b (ne b ob e')).trans (X.im _ _ e'), fun p hp => ?_, fun p hp => ?_, by rw [updL_keys]; exact X.nd, ?_, fun p hp => ?_, X.gens, X.os, fun p hp => ?_⟩
  · rcases updL_cases hp with rfl | ⟨hp, n⟩
    · exact e
    · exact (k.2 _ n).trans (X.ow p hp)
  · rcases updL_cases hp with rfl | ⟨hp, n⟩
    · exact X.off (a, o) m
    · exact X.off p hp
  · obtain ⟨oL, h1, h2⟩ := X.fr
    by_cases q : c.L = a
    · exact ⟨o', by rw [q]; exact updL_self m, hd q.symm⟩
    · exact ⟨oL, updL_mem h1 q, h2⟩
  · obtain ⟨⟨sl, h1⟩, h2, h3⟩ := X.fo p hp
    refine ⟨⟨sl, (k.2 _ fun q => h3 (by have q' : p.1 = a := q; rw [q']; exact List.mem_map_of_mem (f := Prod.fst) m)).trans h1⟩, h2, by rw [updL_keys]; exact h3⟩
  · rcases updL_cases hp with rfl | ⟨hp, n⟩
    · exact X.hi (a, o) m
    · exact X.hi p hp

/-- one owned thing turns, all else keeps what it is -/
theorem S.turn (X : S c I mu s) {h' : Heap} {tk : Tok} {dr : Drawn} {a : Addr} {o o' : Obj} (m : (a, o) ∈ mu) (hL : a ≠ c.L) (k : ∀ b ob, b ≠ a → s.heap.get? b = some ob → h'.get? b = some ob) (e : h'.get? a = some o') :
    S c I (updL a o' mu) { s with heap := h', toks := tk, drawn := dr } := by
  have ne : ∀ b ob, I.get? b = some ob → b ≠ a := fun b ob e' q => by
    subst q
    rw [X.off _ m] at e'; cases e'
  refine ⟨X.gi, fun b ob e' => k b _ (ne b ob e') (X.im _ _ e'), fun p hp => ?_, fun p hp => ?_, by rw [updL_keys]; exact X.nd, ?_, fun p hp => ?_, X.gens, X.os, fun p hp => ?_⟩
  · rcases updL_cases hp with rfl | ⟨hp, n⟩
    · exact e
    · exact k _ _ n (X.ow p hp)
  · rcases updL_cases hp with rfl | ⟨hp, n⟩
    · exact X.off (a, o) m
    · exact X.off p hp
  · obtain ⟨oL, h1, h2⟩ := X.fr
    exact ⟨oL, updL_mem h1 (Ne.symm hL), h2⟩
  · obtain ⟨⟨sl, h1⟩, h2, h3⟩ := X.fo p hp
    exact ⟨⟨sl, k _ _ (fun q => h3 (by have q' : p.1 = a := q; rw [q']; exact List.mem_map_of_mem (f := Prod.fst) m)) h1⟩, h2, by rw [updL_keys]; exact h3⟩
  · rcases updL_cases hp with rfl | ⟨hp, n⟩
    · exact X.hi (a, o) m
    · exact X.hi p hp
/-- one owned thing is lost sight of -/
theorem S.drop (X : S c I mu s) {h' : Heap} {tk : Tok} {dr : Drawn} {a : Addr} {o : Obj} (m : (a, o) ∈ mu) (hL : a ≠ c.L) (k : ∀ b ob, b ≠ a → s.heap.get? b = some ob → h'.get? b = some ob) :
    S c I (mu.filter fun p => decide (p.1 ≠ a)) { s with heap := h', toks := tk, drawn := dr } := by
  have ne : ∀ b ob, I.get? b = some ob → b ≠ a := fun b ob e' q => by
    subst q
    rw [X.off _ m] at e'; cases e'
  have mm : ∀ p, p ∈ mu.filter (fun p => decide (p.1 ≠ a)) → p ∈ mu ∧ p.1 ≠ a := fun p h => by simpa using h
  refine ⟨X.gi, fun b ob e' => k b _ (ne b ob e') (X.im _ _ e'), fun p hp => ?_, fun p hp => ?_, (List.filter_sublist.map _).nodup X.nd, ?_, fun p hp => ?_, X.gens, X.os, fun p hp => X.hi p (mm p hp).1⟩
  · exact k _ _ (mm p hp).2 (X.ow p (mm p hp).1)
  · exact X.off p (mm p hp).1
  · obtain ⟨oL, h1, h2⟩ := X.fr
    exact ⟨oL, by simp [h1, Ne.symm hL], h2⟩
  · obtain ⟨⟨sl, h1⟩, h2, h3⟩ := X.fo p hp
    refine ⟨⟨sl, k _ _ (fun q => h3 (by have q' : p.1 = a := q; rw [q']; exact List.mem_map_of_mem (f := Prod.fst) m)) h1⟩, h2, fun hm => h3 ?_⟩
    obtain ⟨q, hq, e⟩ := List.mem_map.mp hm
    rw [← e]
    exact List.mem_map_of_mem (mm q hq).1

/-- what is owned is let go: it stands still from now on -/
theorem S.freeze {a : Addr} {o : Obj} (X : S c I ((a, o) :: mu) s) (hL : a ≠ c.L) : S c (imm c mu s.heap) mu s ∧ HLe I (imm c mu s.heap) ∧ (imm c mu s.heap).get? a = some o := by
  have nd := List.nodup_cons.mp (show (a :: mu.map (·.1)).Nodup from X.nd)
  have le : HLe I (imm c mu s.heap) := fun b ob e' => imm_get (X.im _ _ e') (fun m => X.notMu e' (List.mem_cons_of_mem _ m)) (X.notFo e')
  refine ⟨⟨fun b ob e' => le _ _ (X.gi _ _ e'), imm_le, fun p hp => X.ow p (List.mem_cons_of_mem _ hp), fun p hp => imm_off (List.mem_map_of_mem hp), nd.2, ?_, fun p hp => ?_, X.gens, X.os, fun p hp => X.hi p (List.mem_cons_of_mem _ hp)⟩, le,
    imm_get (X.ow _ (List.mem_cons_self)) nd.1 fun m => X.foMu m List.mem_cons_self⟩
  · obtain ⟨oL, h1, h2⟩ := X.fr
    rcases List.mem_cons.mp h1 with q | h1
    · exact absurd (congrArg Prod.fst q).symm hL
    · exact ⟨oL, h1, h2⟩
  · obtain ⟨h1, h2, h3⟩ := X.fo p hp
    exact ⟨h1, imm_offF (List.mem_map_of_mem hp), fun m => h3 (List.mem_cons_of_mem _ m)⟩
/-- what is owned is forgotten altogether -/
theorem S.perm {mu' : Led} (X : S c I mu s) (p : mu.Perm mu') : S c I mu' s := by
  have pk : (mu.map (·.1)).Perm (mu'.map (·.1)) := p.map _
  refine ⟨X.gi, X.im, fun q hq => X.ow q (p.mem_iff.mpr hq), fun q hq => X.off q (p.mem_iff.mpr hq), (pk.nodup_iff).mp X.nd, ?_, fun q hq => ?_, X.gens, X.os, fun q hq => X.hi q (p.mem_iff.mpr hq)⟩
  · obtain ⟨o, h1, h2⟩ := X.fr
    exact ⟨o, p.mem_iff.mp h1, h2⟩
  · obtain ⟨h1, h2, h3⟩ := X.fo q hq
    exact ⟨h1, h2, fun m => h3 (pk.mem_iff.mpr m)⟩
theorem S.uniq (X : S c I mu s) {a : Addr} {o o' : Obj} (h : (a, o) ∈ mu) (h' : (a, o') ∈ mu) : o = o' := by
  have := X.ow _ h
  rw [X.ow _ h'] at this
  exact (Option.some.inj this).symm
theorem S.newMu (X : S c I mu s) {a : Addr} (n : s.heap.get? a = none) : a ∉ mu.map (·.1) := fun m => by
  obtain ⟨p, hp, rfl⟩ := List.mem_map.mp m
  rw [X.ow p hp] at n; cases n
end
end Mine
set_option Elab.async false
set_option maxRecDepth 100000
set_option linter.unusedVariables false
namespace Mine
open PySem PySem.W PySem.Calls PyProof.Rows PySem.Spec PyProof.Rows.LCg

noncomputable abbrev Vs := List (Str × AV)
noncomputable abbrev Os := List (Addr × AO)

structure EnvOk (c : Cx) (env : Env) : Prop where
  kind : env.scope.kind = .function
  glob : env.globals = mainGlobals
  bins : env.builtins = builtinsNs
  frame : env.frame = some c.L

noncomputable def VarIn (env : Env) (mu : Led) (x : Str) (v : Value) : Prop :=
  env.kindOf x = some .local ∧ ∃ o m, (env.locals, o) ∈ mu ∧ NsObj o m ∧ m x = some v

noncomputable def keys (ω : Os) : List Addr := ω.map (·.1)

structure Wd (c : Cx) (env : Env) (I : Heap) (ρ : Vs) (ω : Os) (mu : Led) : Prop where
  ok : EnvOk c env
  vars : ∀ x av, ρ.lookup x = some av → ∃ v, VarIn env mu x v ∧ Rv I v av
  loc : ∃ o m, (env.locals, o) ∈ mu ∧ NsObj o m
  own : ∀ q ∈ ω, ∃ o, (q.1, o) ∈ mu ∧ Ro c.w I o q.2
  sep : ∀ q ∈ ω, q.1 ≠ env.locals ∧ q.1 ≠ c.L
  nd : (keys ω).Nodup

/-- what may turn: the things at P; frames their slots alone -/
structure Fp (c : Cx) (P : Addr → Prop) (mu mu' : Led) : Prop where
  other : ∀ p ∈ mu, ¬ P p.1 → p.1 ≠ c.L → p ∈ mu'
  fr : ∀ o, (c.L, o) ∈ mu → ¬ P c.L → ∃ sl, (c.L, { o with slots := sl }) ∈ mu'
  ks : ∀ p ∈ mu, p.1 ∈ mu'.map (·.1)
noncomputable abbrev In (ω : Os) (a : Addr) : Prop := a ∈ keys ω
theorem Fp.refl (c : Cx) (P : Addr → Prop) (mu : Led) : Fp c P mu mu := ⟨fun _ h _ _ => h, fun o h _ => ⟨o.slots, h⟩, fun _ h => List.mem_map_of_mem h⟩
theorem Fp.sub {c : Cx} {P : Addr → Prop} {mu mu' : Led} (h : ∀ p ∈ mu, p ∈ mu') : Fp c P mu mu' := ⟨fun _ m _ _ => h _ m, fun o m _ => ⟨o.slots, h _ m⟩, fun _ m => List.mem_map_of_mem (h _ m)⟩
theorem Fp.mono {c : Cx} {P P' : Addr → Prop} {mu mu' : Led} (x : Fp c P mu mu') (h : ∀ a, P a → P' a) : Fp c P' mu mu' :=
  ⟨fun p m h1 h2 => x.other p m (fun q => h1 (h _ q)) h2, fun o m h1 => x.fr o m fun q => h1 (h _ q), x.ks⟩
noncomputable def Nw (ω ω' : Os) (mu : Led) : Prop := ∀ a ∈ keys ω', a ∈ keys ω ∨ a ∉ mu.map (·.1)
theorem Nw.refl (ω : Os) (mu : Led) : Nw ω ω mu := fun _ h => .inl h
theorem Fp.transP {c : Cx} {P P₁ : Addr → Prop} {mu mu₁ mu₂ : Led} (x : Fp c P mu mu₁) (n : ∀ a ∈ mu.map (·.1), P₁ a → P a) (y : Fp c P₁ mu₁ mu₂) : Fp c P mu mu₂ := by
  refine ⟨fun p hp h1 h2 => y.other p (x.other p hp h1 h2) (fun q => h1 (n _ (List.mem_map_of_mem hp) q)) h2, fun o ho h1 => ?_, fun p hp => ?_⟩
  · obtain ⟨s1, m1⟩ := x.fr o ho h1
    obtain ⟨s2, m2⟩ := y.fr _ m1 fun q => h1 (n _ (List.mem_map_of_mem (f := Prod.fst) ho) q)
    exact ⟨s2, m2⟩
  · obtain ⟨q, hq, e⟩ := List.mem_map.mp (x.ks p hp)
    rw [← e]
    exact y.ks q hq
theorem Fp.trans {c : Cx} {ω ω₁ : Os} {mu mu₁ mu₂ : Led} (x : Fp c (In ω) mu mu₁) (n : Nw ω ω₁ mu) (y : Fp c (In ω₁) mu₁ mu₂) : Fp c (In ω) mu mu₂ :=
  x.transP (fun a ha h2 => (n _ h2).elim id fun h3 => absurd ha h3) y
theorem Nw.trans {c : Cx} {P : Addr → Prop} {ω ω₁ ω₂ : Os} {mu mu₁ : Led} (x : Nw ω ω₁ mu) (f : Fp c P mu mu₁) (y : Nw ω₁ ω₂ mu₁) : Nw ω ω₂ mu := fun a h => by
  rcases y a h with h1 | h1
  · exact x a h1
  · refine .inr fun h2 => h1 ?_
    obtain ⟨p, hp, rfl⟩ := List.mem_map.mp h2
    exact f.ks p hp

structure Go (c : Cx) (env : Env) (ρ : Vs) (ω ω' : Os) (I : Heap) (mu : Led) (I' : Heap) (mu' : Led) (s' : Shared) : Prop where
  st : S c I' mu' s'
  le : HLe I I'
  fp : Fp c (In ω) mu mu'
  nw : Nw ω ω' mu
  wd : Wd c env I' ρ ω' mu'
theorem Go.trans {c : Cx} {env : Env} {ρ ρ' : Vs} {ω ω₁ ω₂ : Os} {I I₁ I₂ : Heap} {mu mu₁ mu₂ : Led} {s₁ s₂ : Shared} (x : Go c env ρ ω ω₁ I mu I₁ mu₁ s₁) (y : Go c env ρ' ω₁ ω₂ I₁ mu₁ I₂ mu₂ s₂) : Go c env ρ' ω ω₂ I mu I₂ mu₂ s₂ :=
  ⟨y.st, x.le.trans y.le, x.fp.trans x.nw y.fp, x.nw.trans x.fp y.nw, y.wd⟩

theorem NsObj.slots {o : Obj} {m : Str → Option Value} (h : NsObj o m) (sl : Array (Option Value)) : NsObj { o with slots := sl } m := h

theorem Wd.notIn {c : Cx} {env : Env} {I : Heap} {ρ : Vs} {ω : Os} {mu : Led} (W : Wd c env I ρ ω mu) : ¬ In ω env.locals := fun m => by
  obtain ⟨q, hq, e⟩ := List.mem_map.mp m
  exact (W.sep q hq).1 e
/-- the reading of what is owned, carried over a step -/
theorem Wd.step {c : Cx} {env : Env} {I I' : Heap} {ρ : Vs} {P : Addr → Prop} {ω ω' : Os} {mu mu' : Led} (W : Wd c env I ρ ω mu) (le : HLe I I') (fp : Fp c P mu mu')
    (nL : ¬ P env.locals) (own' : ∀ q ∈ ω', ∃ o, (q.1, o) ∈ mu' ∧ Ro c.w I' o q.2) (nw : Nw ω ω' mu) (nd : (keys ω').Nodup) (kL : ∃ o, (c.L, o) ∈ mu) : Wd c env I' ρ ω' mu' := by
  have ns : ∀ o m, (env.locals, o) ∈ mu → NsObj o m → ∃ o', (env.locals, o') ∈ mu' ∧ NsObj o' m := fun o m h1 h2 => by
    by_cases q : env.locals = c.L
    · rw [q] at h1
      obtain ⟨sl, h3⟩ := fp.fr o h1 (q ▸ nL)
      exact ⟨_, q ▸ h3, Mine.NsObj.slots h2 sl⟩
    · exact ⟨o, fp.other _ h1 nL q, h2⟩
  refine ⟨W.ok, fun x av h => ?_, ?_, own', fun q hq => ?_, nd⟩
  · obtain ⟨v, ⟨hk, o, m, h1, h2, h3⟩, r⟩ := W.vars x av h
    obtain ⟨o', h4, h5⟩ := ns o m h1 h2
    exact ⟨v, ⟨hk, o', m, h4, h5, h3⟩, r.mono le⟩
  · obtain ⟨o, m, h1, h2⟩ := W.loc
    obtain ⟨o', h3, h4⟩ := ns o m h1 h2
    exact ⟨o', m, h3, h4⟩
  · rcases nw q.1 (List.mem_map_of_mem hq) with h | h
    · obtain ⟨q', hq', e⟩ := List.mem_map.mp h
      rw [← e]
      exact W.sep q' hq'
    · refine ⟨fun e => h ?_, fun e => h ?_⟩
      · obtain ⟨o, m, h1, _⟩ := W.loc
        rw [e]; exact List.mem_map_of_mem (f := Prod.fst) h1
      · obtain ⟨o, h1⟩ := kL
        rw [e]; exact List.mem_map_of_mem (f := Prod.fst) h1

/-- nothing of what is named turns -/
theorem Wd.more {c : Cx} {env : Env} {I I' : Heap} {ρ : Vs} {ω : Os} {mu mu' : Led} (W : Wd c env I ρ ω mu) (le : HLe I I') (sub : ∀ p ∈ mu, p ∈ mu') (kL : ∃ o, (c.L, o) ∈ mu) : Wd c env I' ρ ω mu' :=
  W.step (P := fun _ => False) le (Fp.sub sub) (fun h => h) (fun q hq => let ⟨o, h1, h2⟩ := W.own q hq; ⟨o, sub _ h1, h2.mono le⟩) (Nw.refl _ _) W.nd kL

section
variable {c : Cx} {env : Env} {I : Heap} {mu : Led} {s : Shared} {ρ : Vs} {ω : Os}
theorem S.kL (X : S c I mu s) : ∃ o, (c.L, o) ∈ mu := let ⟨o, h, _⟩ := X.fr; ⟨o, h⟩
theorem Go.toks (X : S c I mu s) (W : Wd c env I ρ ω mu) {tk : Tok} {dr : Drawn} : Go c env ρ ω ω I mu I mu { s with toks := tk, drawn := dr } := ⟨X.toks, .refl _, .refl _ _ _, .refl _ _, W⟩
theorem Go.refl (X : S c I mu s) (W : Wd c env I ρ ω mu) : Go c env ρ ω ω I mu I mu s := ⟨X, .refl _, .refl _ _ _, .refl _ _, W⟩
theorem Go.grow (X : S c I mu s) (W : Wd c env I ρ ω mu) {h' : Heap} {tk : Tok} {dr : Drawn} (k : HLe s.heap h') : Go c env ρ ω ω I mu (imm c mu h') mu { s with heap := h', toks := tk, drawn := dr } :=
  let ⟨a, b⟩ := X.grow (tk := tk) (dr := dr) k
  ⟨a, b, .refl _ _ _, .refl _ _, W.more b (fun _ h => h) X.kL⟩
end

/-- the triple of an expression that gives a value -/
noncomputable def TE (c : Cx) (env : Env) (ρ : Vs) (ω : Os) (e : Expr) (ω' : Os) (av : AV) : Prop :=
  ∀ (I : Heap) (mu : Led) (s : Shared) (Q : Value → Shared → Prop) (E : Value → Shared → Prop), S c I mu s → Wd c env I ρ ω mu →
    (∀ v s' I' mu', Go c env ρ ω ω' I mu I' mu' s' → Rv I' v av → Q v s') → wpAny (model prg c.w) c.A (eval e env) Q E s
/-- of a test -/
noncomputable def TT (c : Cx) (env : Env) (ρ : Vs) (ω : Os) (e : Expr) (ω' : Os) (b : Bool) : Prop :=
  ∀ (I : Heap) (mu : Led) (s : Shared) (Q : Bool → Shared → Prop) (E : Value → Shared → Prop), S c I mu s → Wd c env I ρ ω mu →
    (∀ s' I' mu', Go c env ρ ω ω' I mu I' mu' s' → Q b s') → wpAny (model prg c.w) c.A (isTrue e env (eval e env)) Q E s

section
variable {c : Cx} {env : Env} {ρ : Vs} {ω ω₁ ω₂ : Os}

theorem TE.const_int (i : Int) (k : Nat) (p : Pos) : TE c env ρ ω (.Constant (.int i) k p) ω (.d (.int i)) := fun I mu s Q E X W h =>
  wpAny_Constant_int (h _ _ _ _ (Go.toks X W) ⟨_, Reads.int i _⟩)
theorem TE.const_str (x : Str) (k : Nat) (p : Pos) : TE c env ρ ω (.Constant (.str x) k p) ω (.d (.str x)) := fun I mu s Q E X W h =>
  Constant_str (h _ _ _ _ (Go.toks X W) ⟨_, Reads.str x _⟩)
theorem TE.const_none (k : Nat) (p : Pos) : TE c env ρ ω (.Constant .none k p) ω (.d .none) := fun I mu s Q E X W h =>
  wpAny_pure (h _ _ _ _ (Go.refl X W) ⟨_, Reads.none⟩)
theorem TE.const_bool (b : Bool) (k : Nat) (p : Pos) : TE c env ρ ω (.Constant (.bool b) k p) ω (.d (.bool b)) := fun I mu s Q E X W h =>
  wpAny_pure (h _ _ _ _ (Go.refl X W) ⟨_, Reads.bool b⟩)

theorem TE.name {x : Str} {p : Pos} {av : AV} (hx : ρ.lookup x = some av) (hd : (x == ("__debug__" : Str)) = false := by decide) :
    TE c env ρ ω (.Name x p) ω av := fun I mu s Q E X W h => by
  obtain ⟨v, ⟨hl, o, m, h1, h2, h3⟩, r⟩ := W.vars x av hx
  exact wpAny_Name (wpAny_loadName_local W.ok.kind hl (h2.ns (X.ow _ h1)) h3 (h _ _ _ _ (Go.refl X W) r)) hd
theorem TE.cell {x : Str} {p : Pos} {av : AV} {a : Addr} (hk : env.kindOf x = some .cell ∨ env.kindOf x = some .free) (ha : env.cells.lookup x = some a) (hm : (a, AO.cell (some av)) ∈ ω) (hd : (x == ("__debug__" : Str)) = false := by decide) (hn : (x == ("__classdict__" : Str)) = false := by decide) :
    TE c env ρ ω (.Name x p) ω av := fun I mu s Q E X W h => by
  obtain ⟨o, h1, v, h2, r⟩ := W.own _ hm
  refine wpAny_Name ?_ hd
  rcases hk with hl | hl
  · exact wpAny_loadName_cell W.ok.kind hl ha ⟨o, X.ow _ h1, h2⟩ (h _ _ _ _ (Go.refl X W) r)
  · exact wpAny_loadName_free W.ok.kind hl ha ⟨o, X.ow _ h1, h2⟩ (h _ _ _ _ (Go.refl X W) r) hn

theorem TE.global {x : Str} {p : Pos} {v : Value} {lv : Nat} (hc : c.Ok lv) (e : nsIn (KK c.w) mainGlobals x = some (some v)) (hx : env.kindOf x = some .globalImplicit) (hd : (x == ("__debug__" : Str)) = false := by decide) :
    TE c env ρ ω (.Name x p) ω (.v v) := fun I mu s Q E X W h => by
  obtain ⟨pp, loose, mean, mg, mb, T⟩ := hc.st.T
  refine Name_function_global W.ok.kind hx ?_ hd
  refine loadGlobal_global (mg := mg) ?_ (mg_of hc.st.X T.g e) (h _ _ _ _ (Go.refl X W) rfl)
  rw [W.ok.glob]
  exact T.g.keeps fun b o q => X.im _ _ (X.gi _ _ q)
theorem TE.builtin {x : Str} {p : Pos} {v : Value} {lv : Nat} (hc : c.Ok lv) (e : nsIn (KK c.w) mainGlobals x = some none) (hv : bootBuiltins x = some v) (hn : x ≠ "__name__") (hx : env.kindOf x = some .globalImplicit) (hd : (x == ("__debug__" : Str)) = false := by decide) :
    TE c env ρ ω (.Name x p) ω (.v v) := fun I mu s Q E X W h => by
  obtain ⟨pp, loose, mean, mg, mb, T⟩ := hc.st.T
  refine Name_function_global W.ok.kind hx ?_ hd
  refine loadGlobal_builtin (mg := mg) (mb := mb) ?_ (mg_none_of hc.st.X T.g e) ?_ ((T.builtins x hn).trans hv) (h _ _ _ _ (Go.refl X W) rfl)
  · rw [W.ok.glob]
    exact T.g.keeps fun b o q => X.im _ _ (X.gi _ _ q)
  · rw [W.ok.bins]
    exact T.b.keeps fun b o q => X.im _ _ (X.gi _ _ q)

/-- two sub-expressions, then a step -/
theorem TE.conseq {e : Expr} {av av' : AV} (h : TE c env ρ ω e ω₁ av) (he : av = av') : TE c env ρ ω e ω₁ av' := he ▸ h

theorem TE.binop {l r : Expr} {op : Operator} {p : Pos} {a b r' : AV} (hl : TE c env ρ ω l ω₁ a) (hr : TE c env ρ ω₁ r ω₂ b)
    (hop : ∀ I mu s u v Q E, S c I mu s → Wd c env I ρ ω₂ mu → Rv I u a → Rv I v b → (∀ x s' I' mu', Go c env ρ ω₂ ω₂ I mu I' mu' s' → Rv I' x r' → Q x s') → wpAny (model prg c.w) c.A (binaryOp op u v) Q E s) :
    TE c env ρ ω (.BinOp l op r p) ω₂ r' := fun I mu s Q E X W h => by
  refine wpAny_BinOp (hl I mu s _ _ X W fun u s₁ I₁ mu₁ g₁ r₁ => hr I₁ mu₁ s₁ _ _ g₁.st g₁.wd fun v s₂ I₂ mu₂ g₂ r₂ => ?_)
  exact hop _ _ _ _ _ _ _ g₂.st g₂.wd (r₁.mono g₂.le) r₂ fun x s₃ I₃ mu₃ g₃ r₃ => h _ _ _ _ ((g₁.trans g₂).trans g₃) r₃

theorem Rv.int {I : Heap} {v : Value} {i : Int} (h : Rv I v (.d (.int i))) : ∃ t, v = .int i t := by
  obtain ⟨as, r⟩ := h
  cases r
  exact ⟨_, rfl⟩
theorem Rv.str {I : Heap} {v : Value} {x : Str} (h : Rv I v (.d (.str x))) : ∃ t, v = .str x t := by
  obtain ⟨as, r⟩ := h
  cases r
  exact ⟨_, rfl⟩
theorem Rv.none {I : Heap} {v : Value} (h : Rv I v (.d .none)) : v = .none := by
  obtain ⟨as, r⟩ := h
  cases r
  rfl
theorem Rv.bool {I : Heap} {v : Value} {b : Bool} (h : Rv I v (.d (.bool b))) : v = .bool b := by
  obtain ⟨as, r⟩ := h
  cases r
  rfl

theorem TE.add {l r : Expr} {p : Pos} {a b : Int} (hl : TE c env ρ ω l ω₁ (.d (.int a))) (hr : TE c env ρ ω₁ r ω₂ (.d (.int b))) : TE c env ρ ω (.BinOp l .Add r p) ω₂ (.d (.int (a + b))) :=
  TE.binop hl hr fun I mu s u v Q E X W r1 r2 h => by
    obtain ⟨t1, rfl⟩ := r1.int
    obtain ⟨t2, rfl⟩ := r2.int
    exact add_int (h _ _ _ _ (Go.toks X W) ⟨_, Reads.int _ _⟩)
theorem TE.sub {l r : Expr} {p : Pos} {a b : Int} (hl : TE c env ρ ω l ω₁ (.d (.int a))) (hr : TE c env ρ ω₁ r ω₂ (.d (.int b))) : TE c env ρ ω (.BinOp l .Sub r p) ω₂ (.d (.int (a - b))) :=
  TE.binop hl hr fun I mu s u v Q E X W r1 r2 h => by
    obtain ⟨t1, rfl⟩ := r1.int
    obtain ⟨t2, rfl⟩ := r2.int
    exact sub_int (h _ _ _ _ (Go.toks X W) ⟨_, Reads.int _ _⟩)
theorem TE.mod {l r : Expr} {p : Pos} {a b : Int} (hl : TE c env ρ ω l ω₁ (.d (.int a))) (hr : TE c env ρ ω₁ r ω₂ (.d (.int b))) (hb : b ≠ 0) : TE c env ρ ω (.BinOp l .Mod r p) ω₂ (.d (.int (Int.fmod a b))) :=
  TE.binop hl hr fun I mu s u v Q E X W r1 r2 h => by
    obtain ⟨t1, rfl⟩ := r1.int
    obtain ⟨t2, rfl⟩ := r2.int
    exact mod_int hb (h _ _ _ _ (Go.toks X W) ⟨_, Reads.int _ _⟩)
end
end Mine
set_option Elab.async false
set_option maxRecDepth 100000
set_option linter.unusedVariables false
namespace Mine
open PySem PySem.W PySem.Calls PyProof.Rows PySem.Spec PyProof.Rows.LCg

noncomputable abbrev dI (i : Int) : AV := .d (.int i)
noncomputable abbrev dB (b : Bool) : AV := .d (.bool b)
noncomputable abbrev dS (x : Str) : AV := .d (.str x)
noncomputable abbrev dN : AV := .d .none
noncomputable abbrev vR (a : Addr) : AV := .v (.ref a)
/-- an int or None -/
noncomputable def oI : Option Int → PyData
  | none => .none
  | some i => .int i

/-- data that may be compared at will -/
structure Nice (p : PyData) (n : Nat) : Prop where
  can : p.canLay0 = true
  dep : p.depth ≤ n
theorem Nice.int (i : Int) (n : Nat) : Nice (.int i) n := ⟨rfl, Nat.zero_le _⟩
theorem Nice.bool (i : Bool) (n : Nat) : Nice (.bool i) n := ⟨rfl, Nat.zero_le _⟩
theorem Nice.none (n : Nat) : Nice .none n := ⟨rfl, Nat.zero_le _⟩
theorem Nice.oI (o : Option Int) (n : Nat) : Nice (oI o) n := by cases o <;> constructor <;> first | rfl | exact Nat.zero_le _
theorem Nice.str {x : Str} (h : PyData.strOk x = true) (n : Nat) : Nice (.str x) n := ⟨h, Nat.zero_le _⟩
theorem niceAll {n : Nat} : ∀ {l : List PyData}, (∀ d ∈ l, Nice d n) → PyData.canLayAll0 l = true ∧ PyData.depthAll l ≤ n
  | [], _ => ⟨rfl, Nat.zero_le _⟩
  | d :: l, h => by
    have a := h d (.head _)
    have b := niceAll (l := l) fun e he => h e (.tail _ he)
    simp only [PyData.canLayAll0, PyData.depthAll, a.can, b.1, Bool.and_self, true_and]
    have a1 := a.dep
    have b1 := b.2
    omega
theorem Nice.tuple {l : List PyData} {n : Nat} (h : ∀ d ∈ l, Nice d n) : Nice (.tuple l) (n + 1) := by
  have a := niceAll h
  have a2 := a.2
  constructor
  · simp only [PyData.canLay0, a.1]
  · simp only [PyData.depth]; omega
theorem Nice.list {l : List PyData} {n : Nat} (h : ∀ d ∈ l, Nice d n) : Nice (.list l) (n + 1) := by
  have a := niceAll h
  have a2 := a.2
  constructor
  · simp only [PyData.canLay0, a.1]
  · simp only [PyData.depth]; omega
theorem Nice.shaped {p : PyData} {n : Nat} (h : Nice p n) (hn : n ≤ 64) : SeqAt.shaped p = true := by
  unfold SeqAt.shaped
  rw [h.can, Bool.true_and]
  exact decide_eq_true (Nat.le_trans h.dep hn)
theorem Nice.refl {p : PyData} {n : Nat} (h : Nice p n) : PyData.eqv p p = true := PySem.SeqAt.eqv_refl p h.can

section
variable {c : Cx} {env : Env} {ρ : Vs} {ω ω₁ ω₂ : Os}

/-- what a comparison answers -/
noncomputable def OpR (c : Cx) (env : Env) (ρ : Vs) (ω : Os) (op : CmpOp) (a b : AV) (r : Bool) : Prop :=
  ∀ (I : Heap) (mu : Led) (s : Shared) (u v : Value) (Q : Value → Shared → Prop) (E : Value → Shared → Prop), S c I mu s → Wd c env I ρ ω mu → Rv I u a → Rv I v b →
    (∀ s' I' mu', Go c env ρ ω ω I mu I' mu' s' → Q (.bool r) s') → wpAny (model prg c.w) c.A (compareOp op u v) Q E s

theorem TE.cmp {l r : Expr} {op : CmpOp} {p : Pos} {a b : AV} {x : Bool} (hl : TE c env ρ ω l ω₁ a) (hr : TE c env ρ ω₁ r ω₂ b) (ho : OpR c env ρ ω₂ op a b x) (hm : behindInMarks op r = false := by rfl) :
    TE c env ρ ω (.Compare l [op] [r] p) ω₂ (dB x) := fun I mu s Q E X W h =>
  wpAny_Compare1 (hl I mu s _ _ X W fun u s₁ I₁ mu₁ g₁ r₁ => hr I₁ mu₁ s₁ _ _ g₁.st g₁.wd fun v s₂ I₂ mu₂ g₂ r₂ =>
    ho _ _ _ _ _ _ _ g₂.st g₂.wd (r₁.mono g₂.le) r₂ fun s₃ I₃ mu₃ g₃ => h _ _ _ _ ((g₁.trans g₂).trans g₃) ⟨_, Reads.bool _⟩) hm
theorem TT.cmp {l r : Expr} {op : CmpOp} {p : Pos} {a b : AV} {x : Bool} (hl : TE c env ρ ω l ω₁ a) (hr : TE c env ρ ω₁ r ω₂ b) (ho : OpR c env ρ ω₂ op a b x) (hm : behindInMarks op r = false := by rfl) :
    TT c env ρ ω (.Compare l [op] [r] p) ω₂ x := fun I mu s Q E X W h =>
  wpAny_isTrue_Compare1 (hl I mu s _ _ X W fun u s₁ I₁ mu₁ g₁ r₁ => hr I₁ mu₁ s₁ _ _ g₁.st g₁.wd fun v s₂ I₂ mu₂ g₂ r₂ =>
    ho _ _ _ _ _ _ _ g₂.st g₂.wd (r₁.mono g₂.le) r₂ fun s₃ I₃ mu₃ g₃ => wpAny_truthy_bool (h _ _ _ ((g₁.trans g₂).trans g₃))) hm

theorem OpR.lt (a b : Int) : OpR c env ρ ω .Lt (dI a) (dI b) (decide (a < b)) := fun I mu s u v Q E X W r1 r2 h => by
  obtain ⟨t1, rfl⟩ := r1.int
  obtain ⟨t2, rfl⟩ := r2.int
  exact lt_int (h _ _ _ (Go.refl X W))
theorem OpR.gt (a b : Int) : OpR c env ρ ω .Gt (dI a) (dI b) (decide (b < a)) := fun I mu s u v Q E X W r1 r2 h => by
  obtain ⟨t1, rfl⟩ := r1.int
  obtain ⟨t2, rfl⟩ := r2.int
  exact gt_int (h _ _ _ (Go.refl X W))
theorem OpR.le (a b : Int) : OpR c env ρ ω .LtE (dI a) (dI b) (decide (a ≤ b)) := fun I mu s u v Q E X W r1 r2 h => by
  obtain ⟨t1, rfl⟩ := r1.int
  obtain ⟨t2, rfl⟩ := r2.int
  exact PyProof.Rows.le_int (h _ _ _ (Go.refl X W))
theorem OpR.ge (a b : Int) : OpR c env ρ ω .GtE (dI a) (dI b) (decide (b ≤ a)) := fun I mu s u v Q E X W r1 r2 h => by
  obtain ⟨t1, rfl⟩ := r1.int
  obtain ⟨t2, rfl⟩ := r2.int
  exact PyProof.Rows.ge_int (h _ _ _ (Go.refl X W))
theorem OpR.eqI (a b : Int) : OpR c env ρ ω .Eq (dI a) (dI b) (a == b) := fun I mu s u v Q E X W r1 r2 h => by
  obtain ⟨t1, rfl⟩ := r1.int
  obtain ⟨t2, rfl⟩ := r2.int
  exact eq_int (h _ _ _ (Go.refl X W))
theorem OpR.neI (a b : Int) : OpR c env ρ ω .NotEq (dI a) (dI b) (a != b) := fun I mu s u v Q E X W r1 r2 h => by
  obtain ⟨t1, rfl⟩ := r1.int
  obtain ⟨t2, rfl⟩ := r2.int
  exact ne_int (h _ _ _ (Go.refl X W))
theorem OpR.eqD {a b : PyData} {n m lv : Nat} (hc : c.Ok lv) (ha : Nice a n) (hb : Nice b m) (hn : n ≤ 64) (hm : m ≤ 64) (hv : lv ≤ 20) : OpR c env ρ ω .Eq (.d a) (.d b) (PyData.eqv a b) := fun I mu s u v Q E X W r1 r2 h => by
  obtain ⟨as, r1⟩ := r1
  obtain ⟨bs, r2⟩ := r2
  refine eq_dataH (Reads.keeps X.im r1) (Reads.keeps X.im r2) (ha.shaped hn) (hb.shaped hm) ?_ (h _ _ _ (Go.refl X W))
  have := hc.units
  unfold cLine
  omega
theorem OpR.neD {a b : PyData} {n m lv : Nat} (hc : c.Ok lv) (ha : Nice a n) (hb : Nice b m) (hn : n ≤ 64) (hm : m ≤ 64) (hv : lv ≤ 20) : OpR c env ρ ω .NotEq (.d a) (.d b) (!PyData.eqv a b) := fun I mu s u v Q E X W r1 r2 h => by
  obtain ⟨as, r1⟩ := r1
  obtain ⟨bs, r2⟩ := r2
  refine ne_dataH (Reads.keeps X.im r1) (Reads.keeps X.im r2) (ha.shaped hn) (hb.shaped hm) ?_ (h _ _ _ (Go.refl X W))
  have := hc.units
  unfold cLine
  omega
theorem OpR.isN (o : Option Int) : OpR c env ρ ω .Is (.d (oI o)) dN o.isNone := fun I mu s u v Q E X W r1 r2 h => by
  cases r2.none
  cases o with
  | none => cases r1.none; exact wpAny_is_self rfl (h _ _ _ (Go.refl X W))
  | some i =>
    obtain ⟨t, rfl⟩ := r1.int
    exact is_int_none (h _ _ _ (Go.refl X W))
theorem OpR.isNotN (o : Option Int) : OpR c env ρ ω .IsNot (.d (oI o)) dN o.isSome := fun I mu s u v Q E X W r1 r2 h => by
  cases r2.none
  cases o with
  | none => cases r1.none; exact wpAny_isNot_self rfl (h _ _ _ (Go.refl X W))
  | some i =>
    obtain ⟨t, rfl⟩ := r1.int
    exact isnot_int_none (h _ _ _ (Go.refl X W))

theorem OpR.conseq {op : CmpOp} {a b : AV} {r r' : Bool} (h : OpR c env ρ ω op a b r) (e : r = r') : OpR c env ρ ω op a b r' := e ▸ h

/-! ## tests -/
theorem TT.not {e : Expr} {p : Pos} {b : Bool} (h : TT c env ρ ω e ω₁ b) : TT c env ρ ω (.UnaryOp .Not e p) ω₁ (!b) := fun I mu s Q E X W k =>
  isTrue_not (h I mu s _ _ X W fun s' I' mu' g => k _ _ _ g)
theorem TT.conseq {e : Expr} {b b' : Bool} (h : TT c env ρ ω e ω₁ b) (e' : b = b') : TT c env ρ ω e ω₁ b' := e' ▸ h
/-- a test that is no comparison, no not, no and, no or -/
theorem TT.val {e : Expr} {b : Bool} (h : TE c env ρ ω e ω₁ (dB b)) (he : ∀ whole, isTrue e env whole = (do let v ← whole; standAt e.pos; holding [v] (truthy v)) := by intro _; rfl) : TT c env ρ ω e ω₁ b := fun I mu s Q E X W k =>
  isTrue_plain (h I mu s _ _ X W fun v s' I' mu' g r => by cases r.bool; exact wpAny_truthy_bool (k _ _ _ g)) (he _)
theorem TT.and2 {e₁ e₂ : Expr} {p : Pos} {b₁ b₂ : Bool} (h1 : TT c env ρ ω e₁ ω b₁) (h2 : b₁ = true → TT c env ρ ω e₂ ω b₂) : TT c env ρ ω (.BoolOp .And [e₁, e₂] p) ω (b₁ && b₂) := fun I mu s Q E X W k => by
  refine isTrue_and (h1 I mu s _ _ X W fun s' I' mu' g => ?_)
  cases b₁ with
  | false => exact k _ _ _ g
  | true => exact isTrue_and (h2 rfl _ _ _ _ _ g.st g.wd fun s'' I'' mu'' g' => by
      cases b₂ with
      | false => exact k _ _ _ (g.trans g')
      | true => exact isTrue_and_nil (k _ _ _ (g.trans g')))
theorem TT.or2 {e₁ e₂ : Expr} {p : Pos} {b₁ b₂ : Bool} (h1 : TT c env ρ ω e₁ ω b₁) (h2 : b₁ = false → TT c env ρ ω e₂ ω b₂) : TT c env ρ ω (.BoolOp .Or [e₁, e₂] p) ω (b₁ || b₂) := fun I mu s Q E X W k => by
  refine isTrue_or (h1 I mu s _ _ X W fun s' I' mu' g => ?_)
  cases b₁ with
  | true => exact k _ _ _ g
  | false => exact isTrue_or (h2 rfl _ _ _ _ _ g.st g.wd fun s'' I'' mu'' g' => by
      cases b₂ with
      | true => exact k _ _ _ (g.trans g')
      | false => exact isTrue_or_nil (k _ _ _ (g.trans g')))
theorem TE.and2 {e₁ e₂ : Expr} {p : Pos} {b₁ b₂ : Bool} (h1 : TE c env ρ ω e₁ ω (dB b₁)) (h2 : b₁ = true → TE c env ρ ω e₂ ω (dB b₂)) : TE c env ρ ω (.BoolOp .And [e₁, e₂] p) ω (dB (b₁ && b₂)) := fun I mu s Q E X W k => by
  refine BoolOp_and (h1 I mu s _ _ X W fun v s' I' mu' g r => ?_)
  cases r.bool
  refine wpAny_truthy_bool ?_
  cases b₁ with
  | false => exact k _ _ _ _ g r
  | true => exact BoolOp_one (h2 rfl _ _ _ _ _ g.st g.wd fun v s'' I'' mu'' g' r' => k _ _ _ _ (g.trans g') r')
theorem TE.ifexp {t a b : Expr} {p : Pos} {x : Bool} {av : AV} (ht : TT c env ρ ω t ω₁ x) (h1 : x = true → TE c env ρ ω₁ a ω₂ av) (h2 : x = false → TE c env ρ ω₁ b ω₂ av) : TE c env ρ ω (.IfExp t a b p) ω₂ av := fun I mu s Q E X W k => by
  refine IfExp_ (ht I mu s _ _ X W fun s' I' mu' g => ?_)
  cases x with
  | true => exact h1 rfl _ _ _ _ _ g.st g.wd fun v s'' I'' mu'' g' r' => k _ _ _ _ (g.trans g') r'
  | false => exact h2 rfl _ _ _ _ _ g.st g.wd fun v s'' I'' mu'' g' r' => k _ _ _ _ (g.trans g') r'

/-! ## several expressions -/
noncomputable def TEs (c : Cx) (env : Env) (ρ : Vs) (ω : Os) (es : List Expr) (ω' : Os) (avs : List AV) : Prop :=
  ∀ (p : Pos) (I : Heap) (mu : Led) (s : Shared) (Q : List Value → Shared → Prop) (E : Value → Shared → Prop), S c I mu s → Wd c env I ρ ω mu →
    (∀ vs s' I' mu', Go c env ρ ω ω' I mu I' mu' s' → All2 (Rv I') vs avs → Q vs s') → wpAny (model prg c.w) c.A (spliced (backTo p (starEach es env))) Q E s
theorem TEs.nil : TEs c env ρ ω [] ω [] := fun p I mu s Q E X W h => spliced_nil (h _ _ _ _ (Go.refl X W) .nil)
theorem TEs.cons {e : Expr} {es : List Expr} {a : AV} {as : List AV} (h1 : TE c env ρ ω e ω₁ a) (h2 : TEs c env ρ ω₁ es ω₂ as) (he : starEach (e :: es) env = (false, eval e env) :: starEach es env := by rfl) : TEs c env ρ ω (e :: es) ω₂ (a :: as) :=
  fun p I mu s Q E X W h => by
  rw [he]
  refine spliced_cons (h1 I mu s _ _ X W fun v s₁ I₁ mu₁ g₁ r₁ => h2 p _ _ _ _ _ g₁.st g₁.wd fun vs s₂ I₂ mu₂ g₂ r₂ => ?_)
  exact h _ _ _ _ (g₁.trans g₂) (.cons (r₁.mono g₂.le) r₂)

theorem reads_of_all2 {I : Heap} : ∀ {vs : List Value} {ds : List PyData}, All2 (Rv I) vs (ds.map .d) → ∃ as, ReadsAll I vs ds as
  | [], [], _ => ⟨_, ReadsAll.nil⟩
  | v :: vs, d :: ds, .cons ⟨as, r⟩ t => by
    obtain ⟨bs, q⟩ := reads_of_all2 t
    exact ⟨_, ReadsAll.cons r q⟩
theorem all2_of_reads {I : Heap} : ∀ {vs : List Value} {ds : List PyData} {as : List Addr}, ReadsAll I vs ds as → All2 (Rv I) vs (ds.map .d)
  | [], _, _, h => by cases h; exact .nil
  | v :: vs, _, _, h => by
    cases h with
    | cons r t => exact .cons ⟨_, r⟩ (all2_of_reads t)

theorem TE.tuple {es : List Expr} {k : Nat} {p : Pos} {ds : List PyData} (h : TEs c env ρ ω es ω₁ (ds.map .d)) (hn : ds.length ≤ 1000) : TE c env ρ ω (.Tuple es k p) ω₁ (.d (.tuple ds)) := fun I mu s Q E X W q => by
  refine Tuple_ (h p I mu s _ _ X W fun vs s₁ I₁ mu₁ g r => ?_)
  obtain ⟨as, ra⟩ := reads_of_all2 r
  have hl : vs.length ≤ 1000 := by rw [r.length, List.length_map]; exact hn
  refine wpAny_newObj_type ?_ (by show vs.toArray.size ≤ sizeLine; rw [List.size_toArray]; unfold sizeLine; omega)
  have G := Go.grow g.st g.wd (tk := s₁.toks) (dr := s₁.drawn) (HLe.push s₁.heap { cls := .type "tuple", data := .seq vs.toArray })
  refine q _ _ _ _ (g.trans G) ⟨_, reads_tuple_at (g.st.grow_get (Heap.get?_push_size _ rfl) ?_) rfl rfl (ReadsAll.keeps G.le (by simpa using ra))⟩
  exact Heap.get?_none_of_le (Nat.le_refl _)
theorem TE.list {es : List Expr} {p : Pos} {ds : List PyData} (h : TEs c env ρ ω es ω₁ (ds.map .d)) (hn : ds.length ≤ 1000) : TE c env ρ ω (.List es p) ω₁ (.d (.list ds)) := fun I mu s Q E X W q => by
  refine List_ (h p I mu s _ _ X W fun vs s₁ I₁ mu₁ g r => ?_)
  obtain ⟨as, ra⟩ := reads_of_all2 r
  have hl : vs.length ≤ 1000 := by rw [r.length, List.length_map]; exact hn
  refine wpAny_newObj_type ?_ (by show vs.toArray.size ≤ sizeLine; rw [List.size_toArray]; unfold sizeLine; omega)
  have G := Go.grow g.st g.wd (tk := s₁.toks) (dr := s₁.drawn) (HLe.push s₁.heap { cls := .type "list", data := .seq vs.toArray })
  refine q _ _ _ _ (g.trans G) ⟨_, reads_list_at (g.st.grow_get (Heap.get?_push_size _ rfl) ?_) rfl rfl (ReadsAll.keeps G.le (by simpa using ra))⟩
  exact Heap.get?_none_of_le (Nat.le_refl _)
end
end Mine
set_option Elab.async false
set_option maxRecDepth 100000
set_option linter.unusedVariables false
namespace Mine
open PySem PySem.W PySem.Calls PyProof.Rows PySem.Spec PyProof.Rows.LCg

/-- an exception e of class C is under way: what is here lies still, frames their slots alone -/
noncomputable def Exc (c : Cx) (I : Heap) (mu : Led) (e C : Addr) (s : Shared) : Prop :=
  ∃ (B : Heap) (a0 : Value), HLe I B ∧ (∀ p ∈ mu, p.1 ≠ c.L → B.get? p.1 = some p.2) ∧ B.StaysIn s.heap ∧ B.get? e = none ∧ s.heap.FunFrames B (c.env :: c.outer) ∧
    ((∃ oe vs, s.heap.get? e = some oe ∧ oe.cls = .ref C ∧ oe.data = .fields vs ∧ vs[1]? = some .none ∧ vs[0]? = some a0) ∨ s.heap.TracedW B e (.ref C) a0)

inductive Oc where
  | val (a : AV)
  | exc (C : Addr)
inductive Fl where
  | next
  | ret (a : AV)
  | exc (C : Addr)
noncomputable def FlR (I : Heap) : Flow → Fl → Prop
  | .next, .next => True
  | .ret v, .ret a => Rv I v a
  | _, _ => False
noncomputable def OwnA (env : Env) (a : Addr) : Prop := a = env.locals
noncomputable abbrev InS (env : Env) (ω : Os) (a : Addr) : Prop := In ω a ∨ OwnA env a

structure GoS (c : Cx) (env : Env) (ω : Os) (ρ' : Vs) (ω' : Os) (I : Heap) (mu : Led) (I' : Heap) (mu' : Led) (s' : Shared) : Prop where
  st : S c I' mu' s'
  le : HLe I I'
  fp : Fp c (InS env ω) mu mu'
  nw : Nw ω ω' mu
  wd : Wd c env I' ρ' ω' mu'
section
variable {c : Cx} {env : Env} {ρ ρ₁ ρ₂ : Vs} {ω ω₁ ω₂ : Os} {I I₁ I₂ : Heap} {mu mu₁ mu₂ : Led} {s s₁ s₂ : Shared}
theorem Go.toS (g : Go c env ρ ω ω₁ I mu I₁ mu₁ s₁) : GoS c env ω ρ ω₁ I mu I₁ mu₁ s₁ := ⟨g.st, g.le, g.fp.mono fun _ h => .inl h, g.nw, g.wd⟩
theorem GoS.trans (x : GoS c env ω ρ₁ ω₁ I mu I₁ mu₁ s₁) (y : GoS c env ω₁ ρ₂ ω₂ I₁ mu₁ I₂ mu₂ s₂) : GoS c env ω ρ₂ ω₂ I mu I₂ mu₂ s₂ :=
  ⟨y.st, x.le.trans y.le, x.fp.transP (fun a ha h => h.elim (fun h => (x.nw _ h).elim .inl fun h3 => absurd ha h3) .inr) y.fp, x.nw.trans x.fp y.nw, y.wd⟩
theorem GoS.refl (X : S c I mu s) (W : Wd c env I ρ ω mu) : GoS c env ω ρ ω I mu I mu s := (Go.refl X W).toS
end

/-- what comes after: by a way on, or by an exception -/
structure KS (c : Cx) (env : Env) (ω : Os) (I : Heap) (mu : Led) (Ψ : Fl → Vs → Os → Prop) (Q : Flow → Shared → Prop) (E : Value → Shared → Prop) : Prop where
  on : ∀ f fl ρ' ω' s' I' mu', GoS c env ω ρ' ω' I mu I' mu' s' → FlR I' f fl → Ψ fl ρ' ω' → Q f s'
  up : ∀ e C ρ' ω' s' I' mu', GoS c env ω ρ' ω' I mu I' mu' s' → Exc c I' mu' e C s' → Ψ (.exc C) ρ' ω' → E (.ref e) s'
noncomputable def TS (c : Cx) (env : Env) (ρ : Vs) (ω : Os) (st : List Stmt) (Ψ : Fl → Vs → Os → Prop) : Prop :=
  ∀ (I : Heap) (mu : Led) (s : Shared) (Q : Flow → Shared → Prop) (E : Value → Shared → Prop), S c I mu s → Wd c env I ρ ω mu → KS c env ω I mu Ψ Q E → wpAny (model prg c.w) c.A (execs st env) Q E s
noncomputable def TX (c : Cx) (env : Env) (ρ : Vs) (ω : Os) (st : Stmt) (Ψ : Fl → Vs → Os → Prop) : Prop :=
  ∀ (I : Heap) (mu : Led) (s : Shared) (Q : Flow → Shared → Prop) (E : Value → Shared → Prop), S c I mu s → Wd c env I ρ ω mu → KS c env ω I mu Ψ Q E → wpAny (model prg c.w) c.A (exec st env) Q E s
/-- the triple of an expression that may give many a value, or raise -/
structure KE (c : Cx) (env : Env) (ρ : Vs) (ω : Os) (I : Heap) (mu : Led) (Φ : Os → Oc → Prop) (Q : Value → Shared → Prop) (E : Value → Shared → Prop) : Prop where
  on : ∀ v av ω' s' I' mu', Go c env ρ ω ω' I mu I' mu' s' → Rv I' v av → Φ ω' (.val av) → Q v s'
  up : ∀ e C ω' s' I' mu', Go c env ρ ω ω' I mu I' mu' s' → Exc c I' mu' e C s' → Φ ω' (.exc C) → E (.ref e) s'
noncomputable def TV (c : Cx) (env : Env) (ρ : Vs) (ω : Os) (e : Expr) (Φ : Os → Oc → Prop) : Prop :=
  ∀ (I : Heap) (mu : Led) (s : Shared) (Q : Value → Shared → Prop) (E : Value → Shared → Prop), S c I mu s → Wd c env I ρ ω mu → KE c env ρ ω I mu Φ Q E → wpAny (model prg c.w) c.A (eval e env) Q E s
/-- one way on, and just this -/
noncomputable def Nx (ρ' : Vs) (ω' : Os) : Fl → Vs → Os → Prop := fun f r o => f = .next ∧ r = ρ' ∧ o = ω'

section
variable {c : Cx} {env : Env} {ρ ρ₁ ρ₂ : Vs} {ω ω₁ ω₂ : Os} {I I₁ : Heap} {mu mu₁ : Led} {s₁ : Shared} {Ψ Ψ₁ : Fl → Vs → Os → Prop} {Φ Φ₁ : Os → Oc → Prop} {Q : Flow → Shared → Prop} {E : Value → Shared → Prop}
theorem KS.after (k : KS c env ω I mu Ψ Q E) (g : GoS c env ω ρ₁ ω₁ I mu I₁ mu₁ s₁) : KS c env ω₁ I₁ mu₁ Ψ Q E :=
  ⟨fun f fl ρ' ω' s' I' mu' g' r p => k.on _ _ _ _ _ _ _ (g.trans g') r p, fun e C ρ' ω' s' I' mu' g' x p => k.up _ _ _ _ _ _ _ (g.trans g') x p⟩
theorem KE.after {Q : Value → Shared → Prop} (k : KE c env ρ ω I mu Φ Q E) (g : Go c env ρ ω ω₁ I mu I₁ mu₁ s₁) : KE c env ρ ω₁ I₁ mu₁ Φ Q E :=
  ⟨fun f fl ω' s' I' mu' g' r p => k.on _ _ _ _ _ _ (g.trans g') r p, fun e C ω' s' I' mu' g' x p => k.up _ _ _ _ _ _ (g.trans g') x p⟩

theorem TE.v {e : Expr} {av : AV} (h : TE c env ρ ω e ω₁ av) (hp : Φ ω₁ (.val av)) : TV c env ρ ω e Φ := fun I mu s Q E X W k => h I mu s Q E X W fun v s' I' mu' g r => k.on _ _ _ _ _ _ g r hp
theorem TV.mono {e : Expr} (h : TV c env ρ ω e Φ₁) (hm : ∀ o a, Φ₁ o a → Φ o a) : TV c env ρ ω e Φ := fun I mu s Q E X W k => h I mu s Q E X W ⟨fun v av ω' s' I' mu' g r p => k.on _ _ _ _ _ _ g r (hm _ _ p), fun e C ω' s' I' mu' g x p => k.up _ _ _ _ _ _ g x (hm _ _ p)⟩
theorem TV.e {e : Expr} {av : AV} (h : TV c env ρ ω e fun o a => o = ω₁ ∧ a = .val av) : TE c env ρ ω e ω₁ av := fun I mu s Q E X W k => h I mu s Q E X W
  ⟨fun v av' ω' s' I' mu' g r p => by obtain ⟨rfl, p⟩ := p; cases p; exact k _ _ _ _ g r, fun e C ω' s' I' mu' g x p => by cases p.2⟩

theorem TS.nil (h : Ψ .next ρ ω) : TS c env ρ ω [] Ψ := fun I mu s Q E X W k => wpAny_execs_nil (k.on _ _ _ _ _ _ _ (GoS.refl X W) (show FlR _ .next .next from trivial) h)
theorem TS.cons {st : Stmt} {rest : List Stmt} (h1 : TX c env ρ ω st Ψ₁) (h2 : ∀ ρ' ω', Ψ₁ .next ρ' ω' → TS c env ρ' ω' rest Ψ) (h3 : ∀ a ρ' ω', Ψ₁ (.ret a) ρ' ω' → Ψ (.ret a) ρ' ω') (h4 : ∀ a ρ' ω', Ψ₁ (.exc a) ρ' ω' → Ψ (.exc a) ρ' ω') : TS c env ρ ω (st :: rest) Ψ := fun I mu s Q E X W k => by
  refine wpAny_execs_cons (h1 I mu s _ _ X W ⟨fun f fl ρ' ω' s' I' mu' g r p => ?_, fun e C ρ' ω' s' I' mu' g x p => k.up _ _ _ _ _ _ _ g x (h4 _ _ _ p)⟩)
  cases f <;> cases fl <;> first | exact r.elim | skip
  · exact h2 _ _ p _ _ _ _ _ g.st g.wd (k.after g)
  · exact k.on _ _ _ _ _ _ _ g r (h3 _ _ _ p)
theorem TS.seq {st : Stmt} {rest : List Stmt} (h1 : TX c env ρ ω st (Nx ρ₁ ω₁)) (h2 : TS c env ρ₁ ω₁ rest Ψ) : TS c env ρ ω (st :: rest) Ψ :=
  TS.cons h1 (fun ρ' ω' h => by obtain ⟨_, rfl, rfl⟩ := h; exact h2) (fun a ρ' ω' h => by cases h.1) (fun a ρ' ω' h => by cases h.1)
theorem TS.mono {st : List Stmt} (h : TS c env ρ ω st Ψ₁) (hm : ∀ f r o, Ψ₁ f r o → Ψ f r o) : TS c env ρ ω st Ψ := fun I mu s Q E X W k =>
  h I mu s Q E X W ⟨fun f fl ρ' ω' s' I' mu' g r p => k.on _ _ _ _ _ _ _ g r (hm _ _ _ p), fun e C ρ' ω' s' I' mu' g x p => k.up _ _ _ _ _ _ _ g x (hm _ _ _ p)⟩
theorem TX.mono {st : Stmt} (h : TX c env ρ ω st Ψ₁) (hm : ∀ f r o, Ψ₁ f r o → Ψ f r o) : TX c env ρ ω st Ψ := fun I mu s Q E X W k =>
  h I mu s Q E X W ⟨fun f fl ρ' ω' s' I' mu' g r p => k.on _ _ _ _ _ _ _ g r (hm _ _ _ p), fun e C ρ' ω' s' I' mu' g x p => k.up _ _ _ _ _ _ _ g x (hm _ _ _ p)⟩
theorem TS.last {st : Stmt} (h1 : TX c env ρ ω st Ψ) : TS c env ρ ω [st] Ψ :=
  TS.cons h1 (fun ρ' ω' h => TS.nil h) (fun a ρ' ω' h => h) (fun a ρ' ω' h => h)

theorem TX.retV {e : Expr} {p : Pos} (h : TV c env ρ ω e Φ) (hp : ∀ o a, Φ o (.val a) → Ψ (.ret a) ρ o) (hx : ∀ o C, Φ o (.exc C) → Ψ (.exc C) ρ o) : TX c env ρ ω (.Return (some e) p) Ψ := fun I mu s Q E X W k =>
  wpAny_Return_some (h I mu s _ _ X W ⟨fun v av ω' s' I' mu' g r p => k.on (.ret v) (.ret av) _ _ _ _ _ g.toS r (hp _ _ p), fun e C ω' s' I' mu' g x p => k.up _ _ _ _ _ _ _ g.toS x (hx _ _ p)⟩)
theorem TX.ret {e : Expr} {p : Pos} {a : AV} (h : TE c env ρ ω e ω₁ a) (hp : Ψ (.ret a) ρ ω₁) : TX c env ρ ω (.Return (some e) p) Ψ := fun I mu s Q E X W k =>
  wpAny_Return_some (h I mu s _ _ X W fun v s' I' mu' g r => k.on (.ret v) (.ret a) _ _ _ _ _ g.toS r hp)
theorem TX.cond {t : Expr} {b o : List Stmt} {p : Pos} {x : Bool} (ht : TT c env ρ ω t ω₁ x) (h1 : x = true → TS c env ρ ω₁ b Ψ) (h2 : x = false → TS c env ρ ω₁ o Ψ) : TX c env ρ ω (.If t b o p) Ψ := fun I mu s Q E X W k => by
  refine wpAny_If (ht I mu s _ _ X W fun s' I' mu' g => ?_)
  cases x with
  | true => exact h1 rfl _ _ _ _ _ g.st g.wd (k.after g.toS)
  | false => exact h2 rfl _ _ _ _ _ g.st g.wd (k.after g.toS)
/-- an expression for its effect -/
theorem TX.exprV {e : Expr} {p : Pos} (h : TV c env ρ ω e Φ) (hp : ∀ o a, Φ o (.val a) → Ψ .next ρ o) (hx : ∀ o C, Φ o (.exc C) → Ψ (.exc C) ρ o) (hs : swapsWith e none p.line env = pure false := by rfl) (hi : interactive env = false := by rfl) : TX c env ρ ω (.Expr e p) Ψ := fun I mu s Q E X W k => by
  rw [exec_Expr env e p hi hs]
  exact wpAny_bind (wpAny_standAt (wpAny_bind (h I mu s _ _ X W ⟨fun v av ω' s' I' mu' g r p => wpAny_dropValue (k.on .next .next _ _ _ _ _ g.toS trivial (hp _ _ p)), fun e C ω' s' I' mu' g x p => k.up _ _ _ _ _ _ _ g.toS x (hx _ _ p)⟩)))
theorem TX.expr {e : Expr} {p : Pos} {a : AV} (h : TE c env ρ ω e ω₁ a) (hs : swapsWith e none p.line env = pure false := by rfl) (hi : interactive env = false := by rfl) : TX c env ρ ω (.Expr e p) (Nx ρ ω₁) :=
  TX.exprV (Φ := fun o a' => o = ω₁ ∧ a' = .val a) (TE.v h ⟨rfl, rfl⟩) (fun o a h => ⟨rfl, rfl, h.1⟩) (fun o C h => nomatch h.2) hs hi

theorem NsObj.fn {o : Obj} {m m' : Str → Option Value} (h : NsObj o m) (h' : NsObj o m') : m = m' := by
  obtain ⟨es, ep, hd, _, hf⟩ := h
  obtain ⟨es', ep', hd', _, hf'⟩ := h'
  rw [hd] at hd'
  cases hd'
  funext x
  rw [← hf, ← hf']

noncomputable def updO (a : Addr) (ao : AO) (ω : Os) : Os := ω.map fun q => if q.1 = a then (a, ao) else q
theorem wd_put {I : Heap} {mu : Led} {a : Addr} {o' : Obj} {ao : AO} (W : Wd c env I ρ ω mu) (kL : ∃ o, (c.L, o) ∈ mu) (hm : ∃ o, (a, o) ∈ mu) {aw : AO} (ha : (a, aw) ∈ ω) (r : Ro c.w I o' ao) :
    Wd c env I ρ (updO a ao ω) (updL a o' mu) ∧ Fp c (In ω) mu (updL a o' mu) ∧ Nw ω (updO a ao ω) mu := by
  have ka : a ∈ keys ω := List.mem_map_of_mem (f := Prod.fst) ha
  have kk : keys (updO a ao ω) = keys ω := by
    unfold keys updO
    rw [List.map_map]
    refine List.map_congr_left fun q _ => ?_
    show (if q.1 = a then (a, ao) else q).1 = q.1
    split <;> rename_i h
    · exact h.symm
    · rfl
  obtain ⟨o₀, hm⟩ := hm
  have fp : Fp c (In ω) mu (updL a o' mu) := ⟨fun p hp n1 n2 => updL_mem hp fun q => n1 (by rw [q]; exact ka), fun o ho n1 => ⟨o.slots, updL_mem ho fun q => n1 (by rw [q]; exact ka)⟩, fun p hp => by rw [updL_keys]; exact List.mem_map_of_mem hp⟩
  have nw : Nw ω (updO a ao ω) mu := fun b hb => .inl (kk ▸ hb)
  refine ⟨W.step (HLe.refl I) fp W.notIn (fun q hq => ?_) nw (by rw [kk]; exact W.nd) kL, fp, nw⟩
  obtain ⟨p, hp, rfl⟩ := List.mem_map.mp hq
  by_cases e : p.1 = a
  · rw [if_pos e]
    exact ⟨o', updL_self hm, r⟩
  · rw [if_neg e]
    obtain ⟨o, h1, h2⟩ := W.own p hp
    exact ⟨o, updL_mem h1 e, h2⟩
/-- a local name is stored -/
theorem wp_store {E : Value → Shared → Prop} {I : Heap} {mu : Led} {s : Shared} {x : Str} {v : Value} {av : AV} {Q : Unit → Shared → Prop} (X : S c I mu s) (W : Wd c env I ρ ω mu) (r : Rv I v av)
    (hx : env.kindOf x = some .local) (h : ∀ s' I' mu', GoS c env ω ((x, av) :: ρ) ω I mu I' mu' s' → Q () s') : wpAny (model prg c.w) c.A (storeName env x v) Q E s := by
  obtain ⟨o, m, h1, h2⟩ := W.loc
  have hns := h2.ns (X.ow _ h1)
  refine wpAny_storeName_local hx hns (fun h' hn hs => ?_) (by rw [W.ok.kind]; rfl)
  obtain ⟨o', e', n'⟩ := ns_obj hn
  have X' := X.upd (tk := s.toks + 1) (dr := s.drawn) h1 hs e' fun _ => let ⟨es, ep, hd, _⟩ := n'; ⟨es, ep, hd⟩
  have other : ∀ a o₂, (a, o₂) ∈ mu → a ≠ env.locals → (a, o₂) ∈ updL env.locals o' mu := fun a o₂ k n => updL_mem k n
  refine h _ I _ ⟨X', .refl _, ⟨fun p hp n1 n2 => other p.1 p.2 hp fun q => n1 (.inr q), fun o₂ k n1 => ⟨o₂.slots, other _ _ k fun q => n1 (.inr q)⟩, fun p hp => by rw [updL_keys]; exact List.mem_map_of_mem hp⟩, .refl _ _, ?_⟩
  refine ⟨W.ok, fun y bv hy => ?_, ⟨o', _, updL_self h1, n'⟩, fun q hq => ?_, W.sep, W.nd⟩
  · rw [List.lookup_cons] at hy
    cases hb : y == x with
    | true =>
      rw [hb] at hy
      cases hy
      have := beq_iff_eq.mp hb
      subst this
      exact ⟨v, ⟨hx, o', _, updL_self h1, n', by simp⟩, r⟩
    | false =>
      rw [hb] at hy
      have hne := beq_eq_false_iff_ne.mp hb
      obtain ⟨w, ⟨hl, o₂, m₂, k1, k2, k3⟩, rw'⟩ := W.vars y bv hy
      have := X.uniq k1 h1
      subst this
      have e2 := NsObj.fn k2 h2
      subst e2
      exact ⟨w, ⟨hl, o', _, updL_self h1, n', by simp [hne, k3]⟩, rw'⟩
  · obtain ⟨oq, k1, k2⟩ := W.own q hq
    exact ⟨oq, other _ _ k1 (W.sep q hq).1, k2⟩
theorem wp_storeC {E : Value → Shared → Prop} {I : Heap} {mu : Led} {s : Shared} {x : Str} {v : Value} {av : AV} {a : Addr} {ov : Option AV} {Q : Unit → Shared → Prop} (X : S c I mu s) (W : Wd c env I ρ ω mu) (r : Rv I v av)
    (hx : env.kindOf x = some .cell) (ha : env.cells.lookup x = some a) (hm : (a, AO.cell ov) ∈ ω) (h : ∀ s' I' mu', Go c env ρ ω (updO a (.cell (some av)) ω) I mu I' mu' s' → Q () s') : wpAny (model prg c.w) c.A (storeName env x v) Q E s := by
  obtain ⟨o, h1, h2⟩ := W.own _ hm
  have h3 : ∃ v₀, o.data = .cell v₀ := by
    cases ov with
    | none => exact ⟨_, h2⟩
    | some av => obtain ⟨v, h, _⟩ := h2; exact ⟨_, h⟩
  obtain ⟨v₀, h3⟩ := h3
  refine wpAny_storeName_cell W.ok.kind hx ha ⟨o, X.ow _ h1, h3⟩ fun h' hv hs => ?_
  obtain ⟨o', e', d'⟩ := hv
  have X' := X.upd (tk := s.toks) (dr := s.drawn) h1 hs e' fun q => absurd q (W.sep _ hm).2
  obtain ⟨W', fp, nw⟩ := wd_put W X.kL ⟨o, h1⟩ hm (show Ro c.w I o' (.cell (some av)) from ⟨v, d', r⟩)
  exact h _ I _ ⟨X', .refl _, fp, nw, W'⟩

theorem TX.assignV {x : Str} {p' p : Pos} {e : Expr} (h : TV c env ρ ω e Φ) (hx : env.kindOf x = some .local)
    (hp : ∀ o a, Φ o (.val a) → Ψ .next ((x, a) :: ρ) o) (hq : ∀ o C, Φ o (.exc C) → Ψ (.exc C) ρ o)
    (hs : swapsWith e (some (.Name x p')) p.line env = pure false := by rfl) : TX c env ρ ω (.Assign [.Name x p'] e p) Ψ := fun I mu s Q E X W k =>
  wpAny_Assign_Name (h I mu s _ _ X W ⟨fun v av ω' s' I' mu' g r p => wp_store g.st g.wd r hx fun s'' I'' mu'' g' => k.on .next .next _ _ _ _ _ (g.toS.trans g') trivial (hp _ _ p),
    fun e C ω' s' I' mu' g x p => k.up _ _ _ _ _ _ _ g.toS x (hq _ _ p)⟩) hs
theorem TX.assign {x : Str} {p' p : Pos} {e : Expr} {a : AV} (h : TE c env ρ ω e ω₁ a) (hx : env.kindOf x = some .local)
    (hs : swapsWith e (some (.Name x p')) p.line env = pure false := by rfl) : TX c env ρ ω (.Assign [.Name x p'] e p) (Nx ((x, a) :: ρ) ω₁) :=
  TX.assignV (Φ := fun o a' => o = ω₁ ∧ a' = .val a) (TE.v h ⟨rfl, rfl⟩) hx (fun o a' hh => by obtain ⟨rfl, hh⟩ := hh; injection hh with hh; subst hh; exact ⟨rfl, rfl, rfl⟩) (fun o C h => nomatch h.2) hs
theorem TX.assignC {x : Str} {p' p : Pos} {e : Expr} {av : AV} {a : Addr} {ov : Option AV} (h : TE c env ρ ω e ω₁ av) (hx : env.kindOf x = some .cell) (ha : env.cells.lookup x = some a) (hm : (a, AO.cell ov) ∈ ω₁)
    (hs : swapsWith e (some (.Name x p')) p.line env = pure false := by rfl) : TX c env ρ ω (.Assign [.Name x p'] e p) (Nx ρ (updO a (.cell (some av)) ω₁)) := fun I mu s Q E X W k =>
  wpAny_Assign_Name (h I mu s _ _ X W fun v s' I' mu' g r => wp_storeC g.st g.wd r hx ha hm fun s'' I'' mu'' g' => k.on .next .next _ _ _ _ _ (g.trans g').toS trivial ⟨rfl, rfl, rfl⟩) hs
end
end Mine
set_option Elab.async false
set_option maxRecDepth 100000
set_option linter.unusedVariables false
namespace Mine
open PySem PySem.W PySem.Calls PyProof.Rows PySem.Spec PyProof.Rows.LCg

/-! ## fields -/
noncomputable def fldIn (K : Frag) (C : Addr) (x : Str) : Bool := plainGet K C x && hasDictIn K C && (match findIn K (.ref C) x with | some attr => noGet K attr | none => false)
noncomputable def setIn (K : Frag) (C : Addr) (x : Str) : Bool := plainOver K C && hasDictIn K C && (findIn K (.ref C) "__setattr__" == some (some (.builtin "object.__setattr__"))) && (takerIn K C x == some none)
noncomputable def metIn (K : Frag) (C : Addr) (x : Str) (f : Addr) : Bool := plainGet K C x && (findIn K (.ref C) x == some (some (.ref f))) && isFn K (.ref f)

theorem nsFind_lookIn {es : Array DictEntry} {ep : Nat} {x : Str} {o : Obj} (hd : o.data = .dict es ep) (k : StrKeys es) : lookIn x o = some (nsFind es x) := by
  unfold lookIn
  rw [hd]
  dsimp only
  unfold nsFind findBy
  rw [← Array.find?_toList]
  cases h : es.toList.find? fun e => e.key.isStr x with
  | some e => rfl
  | none =>
    have : es.toList.any (·.refKey) = false := by
      rw [List.any_eq_false]
      intro e he
      obtain ⟨n, t, q⟩ := k e (Array.mem_toList_iff.mp he)
      simp [DictEntry.refKey, q]
    simp [this]

theorem handed_of {I : Heap} {v : Value} {av : AV} (r : Rv I v av) (h : ∀ x, av = .v x → handedIn x = true) : handedIn v = true := by
  cases av with
  | v x => rw [show v = x from r]; exact h x rfl
  | d p =>
    obtain ⟨as, r⟩ := r
    cases r <;> rfl
  | fz P =>
    obtain ⟨a, o, rfl, _⟩ := r
    rfl

section
variable {c : Cx} {env : Env} {ρ : Vs} {ω ω₁ ω₂ : Os}

theorem S.kin {lv : Nat} {I : Heap} {mu : Led} {s : Shared} (X : S c I mu s) (hc : c.Ok lv) : (KK c.w).In s.heap := hc.st.X.keeps fun b o e => X.im _ _ (X.gi _ _ e)

/-- an object of an own class and its dict, as they lie -/
theorem inst_at {I : Heap} {mu : Led} {s : Shared} {g dx C n : Nat} {fs : List (Str × AV)} (X : S c I mu s) (W : Wd c env I ρ ω mu) (hg : (g, AO.raw (instObj C dx)) ∈ ω) (hd : (dx, AO.ns n fs) ∈ ω) :
    ∃ es ep, InstAt s.heap g (instObj C dx) C (some { cls := .type "dict", data := .dict es ep }) ∧ (dx, ({ cls := .type "dict", data := .dict es ep } : Obj)) ∈ mu ∧ es.size ≤ n ∧ StrKeys es ∧ NsR I fs (nsFind es) := by
  obtain ⟨o, h1, h2⟩ := W.own _ hg
  obtain ⟨od, k1, es, ep, k2, k3, k4, k5⟩ := W.own _ hd
  have h2 : o = instObj C dx := h2
  subst h2
  subst k2
  exact ⟨es, ep, ⟨X.ow _ h1, rfl, rfl, X.ow _ k1⟩, k1, k3, k4, k5⟩

theorem eval_attr {e : Expr} {x : Str} {p : Pos} {M : Model} {A : Around} {E : Value → Shared → Prop} {s : Shared} {Q : Value → Shared → Prop} (hb : ∀ whole, attributeBase e x env whole = whole) (ht : ∀ o r, letTemporaryGo e o r = pure () ∨ ∃ a, r = .ref a ∧ letTemporaryGo e o r = (do let _ ← holding [r] (runValue (.builtin "proto.let_go" {}))))
    (h : wpAny M A (eval e env) (fun o s₁ => wpAny M A (getAttr o x true) (fun r s₂ => wpAny M A (letTemporaryGo e o r) (fun _ s₃ => Q r s₃) E s₂) E s₁) E s) : wpAny M A (eval (.Attribute e x p) env) Q E s := by
  rw [arm_eval_Attribute, hb]
  exact wpAny_bind (wpAny_mono h (fun o s₁ h₁ => wpAny_bind (wpAny_standAt (wpAny_bind (wpAny_holding (wpAny_mono h₁ (fun r s₂ h₂ => wpAny_bind (wpAny_mono h₂ (fun _ s₃ h₃ => wpAny_pure h₃) fun _ _ y => y)) fun _ _ y => y))))) fun _ _ y => y)
theorem letgo {w : World} {A : Around} {E : Value → Shared → Prop} {s : Shared} {e : Expr} {o r : Value} {Q : Unit → Shared → Prop} (h : Q () s) : wpAny (model prg w) A (letTemporaryGo e o r) Q E s := by
  unfold letTemporaryGo
  split
  · exact wpAny_pure h
  · exact wpAny_bind (wpAny_holding (wpAny_runValue (codeAny_builtin entry_let_go (show wpAny _ _ (ret .none) _ _ s from wpAny_pure (wpAny_pure h)))))
  · exact wpAny_pure h

theorem TE.attr {e : Expr} {x : Str} {p : Pos} {g dx C n lv : Nat} {fs : List (Str × AV)} {av : AV} (hc : c.Ok lv) (h : TE c env ρ ω e ω₁ (vR g)) (hg : (g, AO.raw (instObj C dx)) ∈ ω₁) (hd : (dx, AO.ns n fs) ∈ ω₁) (hl : fs.lookup x = some av)
    (hk : fldIn (KK c.w) C x = true) (hv : ∀ y, av = .v y → handedIn y = true) (hb : ∀ whole, attributeBase e x env whole = whole := by intro _; rfl) : TE c env ρ ω (.Attribute e x p) ω₁ av := fun I mu s Q E X W q => by
  rw [arm_eval_Attribute, hb]
  refine wpAny_bind (h I mu s _ _ X W fun o s₁ I₁ mu₁ g₁ r₁ => ?_)
  have r₁ : o = .ref g := r₁
  subst r₁
  obtain ⟨es, ep, IA, -, -, k4, k5⟩ := inst_at g₁.st g₁.wd hg hd
  have z := k5 x
  rw [hl] at z
  obtain ⟨v, hv1, hv2⟩ := z
  obtain ⟨hk, hk3⟩ := Bool.and_eq_true_iff.mp hk
  obtain ⟨hk1, hk2⟩ := Bool.and_eq_true_iff.mp hk
  split at hk3
  · rename_i attr ha
    refine wpAny_bind (wpAny_standAt (wpAny_bind (wpAny_holding ?_)))
    refine get_value (K := KK c.w) (g₁.st.kin hc) IA (plainGet_of hk1).1 (findObj_own hk2 ha hk3 ((nsFind_lookIn rfl k4).trans (congrArg some hv1))) (handed_of hv2 hv) ?_
    exact wpAny_bind (letgo (wpAny_pure (q _ _ _ _ (g₁.trans (Go.toks g₁.st g₁.wd)) hv2)))
  · cases hk3

noncomputable def upF (x : Str) (av : AV) (fs : List (Str × AV)) : List (Str × AV) := fs.map fun p => if p.1 = x then (x, av) else p
theorem upF_lookup (x : Str) (av : AV) : ∀ (fs : List (Str × AV)) (y : Str), (upF x av fs).lookup y = if y = x then (if (fs.lookup x).isSome then some av else none) else fs.lookup y
  | [], y => by simp [upF]
  | (k, a) :: r, y => by
    have ih := upF_lookup x av r y
    unfold upF at ih ⊢
    rw [List.map_cons]
    by_cases hk : k = x
    · subst hk
      by_cases hy : y = k
      · subst hy; simp
      · have : (y == k) = false := by simpa using hy
        simp only [if_true, List.lookup_cons, this, ih, if_neg hy]
    · have hxk : (x == k) = false := by simpa using fun q : x = k => hk q.symm
      simp only [if_neg hk, List.lookup_cons, hxk, ih]
      by_cases hyk : y = k
      · subst hyk
        simp [hk]
      · have : (y == k) = false := by simpa using hyk
        simp only [this]
theorem NsR.put {I : Heap} {fs : List (Str × AV)} {f : Str → Option Value} {x : Str} {v : Value} {av : AV} (h : NsR I fs f) (r : Rv I v av) (hx : (fs.lookup x).isSome = true) : NsR I (upF x av fs) (fun y => if y = x then some v else f y) := fun y => by
  rw [upF_lookup]
  by_cases hy : y = x
  · simp [hy, hx, r]
  · simp only [if_neg hy]
    exact h y
theorem NsR.new {I : Heap} {fs : List (Str × AV)} {f : Str → Option Value} {x : Str} {v : Value} {av : AV} (h : NsR I fs f) (r : Rv I v av) (hx : fs.lookup x = none) : NsR I (fs ++ [(x, av)]) (fun y => if y = x then some v else f y) := fun y => by
  have app : ∀ l : List (Str × AV), (l ++ [(x, av)]).lookup y = match l.lookup y with | some a => some a | none => if y = x then some av else none := by
    intro l
    induction l with
    | nil =>
      by_cases hy : y = x
      · subst hy; simp
      · have : (y == x) = false := by simpa using hy
        simp [List.lookup_cons, hy, this]
    | cons p r ih =>
      rw [List.cons_append, List.lookup_cons, List.lookup_cons, ih]
      cases y == p.1 <;> rfl
  rw [app]
  by_cases hy : y = x
  · subst hy; simp [hx, r]
  · have z := h y
    simp only [if_neg hy]
    cases e : fs.lookup y with
    | none => rw [e] at z; exact z
    | some a => rw [e] at z; exact z

theorem putName_ns {name : Str} {hsh : Int} {t : Tok} {v : Value} {es : Array DictEntry} {ep : Nat} (k : StrKeys es) :
    ∃ es' ep', Obj.putName name hsh (.str name t) v { cls := .type "dict", data := .dict es ep } = { cls := .type "dict", data := .dict es' ep' } ∧ StrKeys es' ∧ (∀ y, nsFind es' y = if y = name then some v else nsFind es y) ∧
      es'.size ≤ es.size + 1 ∧ ((nsFind es name).isSome = true → es'.size = es.size) := by
  rw [Obj.putName_eq]
  unfold Obj.putNameByArray
  cases hi : es.findIdx? (·.key.isStr name) with
  | some i =>
    refine ⟨es.modify i fun e => { e with val := v }, ep, by simp only [hi], k.modify _ _, fun y => ?_, by simp, fun _ => by simp⟩
    exact findBy_modify (fun n v => v.isStr n) Value.isStr_inj es name y v i hi
  | none =>
    refine ⟨es.push ⟨hsh, .str name t, v⟩, ep + 1, by simp only [hi], k.push _ _ _ _, fun y => ?_, by simp, fun q => ?_⟩
    · exact findBy_push (fun n v => v.isStr n) es name y _ _ v (fun y => by
        show (name == y) = decide (y = name)
        by_cases h : y = name
        · subst h; simp
        · have : ¬ name = y := fun e => h e.symm
          simp [h, this]) hi
    · exfalso
      unfold nsFind at q
      rw [findBy_of_findIdx?, hi] at q
      cases q

theorem osa_mine {w : World} {K : Frag} {A : Around} {R : Result → Shared → Prop} {s : Shared} {x C dx : Addr} {name : Str} {tk : Tok} {v : Value} {es : Array DictEntry} {ep : Nat} (X : K.In s.heap)
    (I : InstAt s.heap x (instObj C dx) C (some { cls := .type "dict", data := .dict es ep })) (hp : plainOver K C = true) (ht : takerIn K C name = some none) (hh : (clsIn K C).any (·.hasDict) = true) (k : StrKeys es) (hz : es.size ≤ 1000)
    (D : s.heap.get? dx = some { cls := .type "dict", data := .dict es ep })
    (h : ∀ h' es' ep', Heap.SameBut dx s.heap h' → h'.get? dx = some { cls := .type "dict", data := .dict es' ep' } → StrKeys es' → (∀ y, nsFind es' y = if y = name then some v else nsFind es y) → es'.size ≤ es.size + 1 → ((nsFind es name).isSome = true → es'.size = es.size) →
      R (.ok (.ret .none)) { s with heap := h', toks := s.toks + 1 }) :
    codeAny (model prg w) A (.call (.builtin "object.__setattr__") ⟨[.ref x, .str name tk, v], []⟩) R s := by
  refine osa_open X I hp ht fun b => ?_
  obtain ⟨cd, hc, hd'⟩ := any_some hh
  obtain ⟨hx, hcl, hn, -⟩ := I
  refine wpAny_bind (wpAny_pure (wpAny_bind (wpAny_bind (wpAny_loadPart hx (wpAny_bind ((looks_clsIn X hc).here ?_))))))
  rw [hd']
  refine wpAny_pure (a := some dx) (wpAny_bind (wpAny_pure (wpAny_bind ?_)))
  unfold nsSet
  refine wpAny_bind (wpAny_bind (wpAny_askSetting (wpAny_pure (wpAny_bind (wpAny_mkText (wpAny_bind (wpAny_loadPart D ?_)))))))
  dsimp only
  have c0 : (!es.any (·.key.isStr name) && es.any (·.refKey)) = false := by
    have : es.any (·.refKey) = false := by
      rw [Array.any_eq_false']; intro e he; obtain ⟨n, t, q⟩ := k e he; simp [DictEntry.refKey, q]
    rw [this, Bool.and_false]
  rw [aRefKeyMayBeTheName_at, c0]
  refine wpAny_updatePart D ?_
  obtain ⟨es', ep', e1, e2, e3, e4, e5⟩ := putName_ns (name := name) (hsh := (if name.cps.isEmpty = true then 0 else reduceHash ((model prg w).w.params.strHash name.cps))) (t := s.toks) (v := v) (es := es) (ep := ep) k
  have D' := Heap.get?_update_self (Obj.putName name (if name.cps.isEmpty = true then 0 else reduceHash ((model prg w).w.params.strHash name.cps)) (.str name s.toks) v) D (by rw [e1]; rfl)
  rw [e1] at D'
  refine wpAny_bind (wpAny_lookBehind D' (pastItsLine_dict (by unfold sizeLine; omega)) ?_)
  exact wpAny_pure (h _ es' ep' (Heap.SameBut.update ..) D' e2 e3 e4 e5)
theorem wp_setAttr {E : Value → Shared → Prop} {I : Heap} {mu : Led} {s : Shared} {g dx C n lv : Nat} {fs : List (Str × AV)} {x : Str} {v : Value} {Q : Unit → Shared → Prop} (hc : c.Ok lv) (X : S c I mu s) (W : Wd c env I ρ ω mu)
    (hg : (g, AO.raw (instObj C dx)) ∈ ω) (hd : (dx, AO.ns n fs) ∈ ω) (hk : setIn (KK c.w) C x = true) (hn : n ≤ 100)
    (h : ∀ es es' ep' h' tk, NsR I fs (nsFind es) → StrKeys es' → (∀ y, nsFind es' y = if y = x then some v else nsFind es y) →
      es'.size ≤ n + 1 → ((nsFind es x).isSome = true → es'.size ≤ n) → S c I (updL dx { cls := .type "dict", data := .dict es' ep' } mu) { s with heap := h', toks := tk } → Q () { s with heap := h', toks := tk }) :
    wpAny (model prg c.w) c.A (setAttr (.ref g) x v) Q E s := by
  obtain ⟨es, ep, IA, hdm, hsz, k4, k5⟩ := inst_at X W hg hd
  obtain ⟨hk, hk4⟩ := Bool.and_eq_true_iff.mp hk
  obtain ⟨hk, hk3⟩ := Bool.and_eq_true_iff.mp hk
  obtain ⟨hk1, hk2⟩ := Bool.and_eq_true_iff.mp hk
  have KX := X.kin hc
  refine set_plain KX IA (beq_iff_eq.mp hk3) (osa_mine (s := { s with toks := s.toks + 1 }) KX IA hk1 (beq_iff_eq.mp hk4) hk2 k4 (by omega) (X.ow _ hdm) fun h' es' ep' e1 e2 e3 e4 e5 e6 => ?_)
  exact h es es' ep' h' _ k5 e3 e4 (by omega) (fun q => by rw [e6 q]; exact hsz) (X.upd hdm e1 e2 fun _ => ⟨_, _, rfl⟩)

theorem TX.setattr {o value : Expr} {x : Str} {p' p : Pos} {g dx C n lv : Nat} {fs : List (Str × AV)} {av : AV} (hc : c.Ok lv) (hv : TE c env ρ ω value ω₁ av) (ho : TE c env ρ ω₁ o ω₂ (vR g))
    (hg : (g, AO.raw (instObj C dx)) ∈ ω₂) (hd : (dx, AO.ns n fs) ∈ ω₂) (hk : setIn (KK c.w) C x = true) (hn : n ≤ 100) (hl : (fs.lookup x).isSome = true)
    (hs : swapsWith value (some (.Attribute o x p')) p.line env = pure false := by rfl) :
    TX c env ρ ω (.Assign [.Attribute o x p'] value p) (Nx ρ (updO dx (.ns n (upF x av fs)) ω₂)) := fun I mu s Q E X W k => by
  refine plainObj_wpAny_Assign_Attribute (hv I mu s _ _ X W fun v s₁ I₁ mu₁ g₁ r₁ => ho _ _ _ _ _ g₁.st g₁.wd fun ov s₂ I₂ mu₂ g₂ r₂ => ?_) hs
  have r₂ : ov = .ref g := r₂
  subst r₂
  refine wp_setAttr hc g₂.st g₂.wd hg hd hk hn fun es es' ep' h' tk e1 e2 e3 e4 e5 X' => ?_
  have rv := r₁.mono g₂.le
  have nn : (nsFind es x).isSome = true := by
    have z := e1 x
    obtain ⟨a, ha⟩ := Option.isSome_iff_exists.mp hl
    rw [ha] at z
    obtain ⟨u, hu, _⟩ := z
    rw [hu]; rfl
  have ro : Ro c.w I₂ { cls := .type "dict", data := .dict es' ep' } (.ns n (upF x av fs)) :=
    ⟨es', ep', rfl, e5 nn, e2, by rw [show nsFind es' = fun y => if y = x then some v else nsFind es y from funext e3]; exact e1.put rv hl⟩
  obtain ⟨o₀, hm, _⟩ := g₂.wd.own _ hd
  obtain ⟨W', fp, nw⟩ := wd_put g₂.wd g₂.st.kL ⟨o₀, hm⟩ hd ro
  have G : Go c env ρ ω₂ (updO dx (.ns n (upF x av fs)) ω₂) I₂ mu₂ I₂ _ _ := ⟨X', HLe.refl _, fp, nw, W'⟩
  exact k.on .next .next _ _ _ _ _ ((g₁.trans g₂).trans G).toS trivial ⟨rfl, rfl, rfl⟩
end
end Mine
set_option Elab.async false
set_option maxRecDepth 100000
set_option linter.unusedVariables false
namespace Mine
open PySem PySem.W PySem.Calls PyProof.Rows PySem.Spec PyProof.Rows.LCg

/-! ## calls -/
theorem S.big {c : Cx} {lv : Nat} {I : Heap} {mu : Led} {s : Shared} (X : S c I mu s) (hc : c.Ok lv) : 1 < s.heap.objs.size := by
  obtain ⟨pp, loose, mean, mg, mb, T⟩ := hc.st.T
  exact modules_low (T.nolimit.keeps fun b o e => X.im _ _ (X.gi _ _ e))
noncomputable def Own (w : World) (I : Heap) (ω : Os) (mu : Led) : Prop := ∀ q ∈ ω, ∃ o, (q.1, o) ∈ mu ∧ Ro w I o q.2

structure Aft (c : Cx) (ω ω' : Os) (I : Heap) (mu : Led) (I' : Heap) (mu' : Led) (s' : Shared) : Prop where
  st : S c I' mu' s'
  le : HLe I I'
  fp : Fp c (In ω) mu mu'
  nw : Nw ω ω' mu
  own : Own c.w I' ω' mu'
  nd : (keys ω').Nodup

/-- what a call of f with such arguments does, wherever it is called -/
noncomputable def CV (lv : Nat) (f : Addr) (args : List AV) (ω : Os) (Φ : Os → Oc → Prop) : Prop :=
  ∀ (c : Cx) (I : Heap) (mu : Led) (s : Shared) (vals : List Value) (R : Result → Shared → Prop), c.Ok lv → S c I mu s → Own c.w I ω mu → (keys ω).Nodup → c.L ∉ keys ω → All2 (Rv I) vals args →
    (∀ v av ω' s' I' mu', Aft c ω ω' I mu I' mu' s' → Rv I' v av → Φ ω' (.val av) → R (.ok (.ret v)) s') →
    (∀ e C ω' s' I' mu', Aft c ω ω' I mu I' mu' s' → Exc c I' mu' e C s' → Φ ω' (.exc C) → R (.error (.ref e)) s') →
    codeAny (model prg c.w) c.A (.call (.ref f) ⟨vals, []⟩) R s
noncomputable abbrev Ph (ω' : Os) (av : AV) : Os → Oc → Prop := fun o a => o = ω' ∧ a = .val av
noncomputable abbrev CS (lv : Nat) (f : Addr) (args : List AV) (ω ω' : Os) (av : AV) : Prop := CV lv f args ω (Ph ω' av)
theorem CV.mono {lv : Nat} {f : Addr} {args : List AV} {ω : Os} {Φ Φ' : Os → Oc → Prop} (h : CV lv f args ω Φ) (hm : ∀ o a, Φ o a → Φ' o a) : CV lv f args ω Φ' := fun c I mu s vals R hc X o n l r k1 k2 =>
  h c I mu s vals R hc X o n l r (fun v av ω' s' I' mu' g r p => k1 v av ω' s' I' mu' g r (hm _ _ p)) fun e C ω' s' I' mu' g x p => k2 e C ω' s' I' mu' g x (hm _ _ p)

theorem All2.rest' {α β : Type} {R : α → β → Prop} {l : List α} {m : List β} (h : All2 R l m) : ∀ b ∈ m, ∃ a, a ∈ l ∧ R a b := by
  induction h with
  | nil => intro a h; cases h
  | cons x r ih =>
    intro a ha
    rcases List.mem_cons.mp ha with rfl | ha
    · exact ⟨_, .head _, x⟩
    · obtain ⟨b, h1, h2⟩ := ih a ha
      exact ⟨b, .tail _ h1, h2⟩

/-- the activation that a call opens -/
noncomputable abbrev actv (c : Cx) (env' : Env) (oL : Obj) (L' : Addr) : Cx := { w := c.w, A := c.A.deeper env', env := env', outer := c.env :: c.outer, fobj := (c.L, oL) :: c.fobj, G := c.G, os := c.os, L := L' }
theorem actv_ok {c : Cx} {lv : Nat} (hc : c.Ok lv) {env' : Env} {oL : Obj} {L' : Addr} (hL : isDict oL) (hk : env'.scope.kind = .function) (hf : env'.frame = some L') (hg : env'.globals = mainGlobals) (hb : env'.builtins = builtinsNs) : (actv c env' oL L').Ok (lv + 1) := by
  refine ⟨hc.st, ?_, hc.handled, ?_, ?_, hk, hf, hg, hb, .cons ⟨hc.frame, by rw [hc.kind]; decide, hL⟩ hc.outs⟩
  · show c.A.frames.map (env' :: ·) = _
    rw [hc.frames]; rfl
  · show c.A.depth + 1 ≤ _
    have := hc.depth
    omega
  · show c.A.units + 3 ≤ _
    have := hc.units
    omega

noncomputable def dropL (a : Addr) (mu : Led) : Led := mu.filter fun p => decide (p.1 ≠ a)
theorem dropL_mem {a : Addr} {mu : Led} {p : Addr × Obj} : p ∈ dropL a mu ↔ p ∈ mu ∧ p.1 ≠ a := by simp [dropL]

/-- into a call: the caller's frame stands back -/
theorem S.enter {c : Cx} {I : Heap} {mu : Led} {s : Shared} (X : S c I mu s) {env' : Env} {L' : Addr} {h₁ : Heap} {tk : Tok} {news : Led} {oN : Obj} (k : HLe s.heap h₁) (hn : ∀ p ∈ news, h₁.get? p.1 = some p.2 ∧ s.heap.get? p.1 = none)
    (nn : (news.map (·.1)).Nodup) (hN : (L', oN) ∈ news) (dN : isDict oN) (hi : ∀ p ∈ news, 1 < p.1) :
    ∃ oL, (c.L, oL) ∈ mu ∧ isDict oL ∧ ∃ I', HLe I I' ∧ S (actv c env' oL L') I' (news ++ dropL c.L mu) { s with heap := h₁, toks := tk } := by
  obtain ⟨oL, hL, dL⟩ := X.fr
  have nk : ∀ b o, s.heap.get? b = some o → b ∉ news.map (·.1) := fun b o e hm => by
    obtain ⟨p, hp, rfl⟩ := List.mem_map.mp hm
    rw [(hn p hp).2] at e; cases e
  have keep : ∀ b o, I.get? b = some o → (imm (actv c env' oL L') (news ++ dropL c.L mu) h₁).get? b = some o := fun b o e => by
    refine imm_get (k _ _ (X.im _ _ e)) (fun hm => ?_) (fun hm => ?_)
    · rw [List.map_append] at hm
      rcases List.mem_append.mp hm with q | hm
      · exact nk _ _ (X.im _ _ e) q
      · obtain ⟨p, hp, rfl⟩ := List.mem_map.mp hm
        exact X.notMu e (List.mem_map_of_mem (dropL_mem.mp hp).1)
    · rcases List.mem_cons.mp hm with q | hm
      · have q' : b = c.L := q
        rw [q'] at e
        exact X.notMu e (List.mem_map_of_mem (f := Prod.fst) hL)
      · exact X.notFo e hm
  refine ⟨oL, hL, dL, imm (actv c env' oL L') (news ++ dropL c.L mu) h₁, keep, fun b o e => keep _ _ (X.gi _ _ e), imm_le, fun p hp => ?_, fun p hp => imm_off (List.mem_map_of_mem hp), ?_, ⟨oN, List.mem_append_left _ hN, dN⟩, fun p hp => ?_, X.gens, X.os, fun p hp => (List.mem_append.mp hp).elim (hi p) fun h => X.hi p (dropL_mem.mp h).1⟩
  · rcases List.mem_append.mp hp with hp | hp
    · exact (hn p hp).1
    · exact k _ _ (X.ow p (dropL_mem.mp hp).1)
  · rw [List.map_append]
    refine List.nodup_append.mpr ⟨nn, (List.filter_sublist.map _).nodup X.nd, fun a ha b hb e => ?_⟩
    subst e
    obtain ⟨p, hp, rfl⟩ := List.mem_map.mp hb
    exact nk _ _ (X.ow p (dropL_mem.mp hp).1) ha
  · rcases List.mem_cons.mp hp with rfl | hp
    · refine ⟨⟨oL.slots, k _ _ (X.ow _ hL)⟩, imm_offF (.head _), fun hm => ?_⟩
      rw [List.map_append] at hm
      rcases List.mem_append.mp hm with q | hm
      · exact nk _ _ (X.ow _ hL) q
      · obtain ⟨p, hp, e⟩ := List.mem_map.mp hm
        exact (dropL_mem.mp hp).2 e
    · obtain ⟨⟨sl, h1⟩, h2, h3⟩ := X.fo p hp
      refine ⟨⟨sl, k _ _ h1⟩, imm_offF (.tail _ (List.mem_map_of_mem hp)), fun hm => ?_⟩
      rw [List.map_append] at hm
      rcases List.mem_append.mp hm with q | hm
      · exact nk _ _ h1 q
      · obtain ⟨q, hq, e⟩ := List.mem_map.mp hm
        exact h3 (e ▸ List.mem_map_of_mem (dropL_mem.mp hq).1)

/-- out of it: the caller's frame is taken up again -/
theorem S.leave {c : Cx} {env' : Env} {oL : Obj} {L' : Addr} {I' : Heap} {mu' : Led} {s' : Shared} (X : S (actv c env' oL L') I' mu' s') (dL : isDict oL) (nf : c.L ∉ c.fobj.map (·.1)) (hi : 1 < c.L) :
    ∃ sl, S c I' ((c.L, { oL with slots := sl }) :: mu') s' := by
  obtain ⟨⟨sl, h1⟩, h2, h3⟩ := X.fo (c.L, oL) (.head _)
  refine ⟨sl, X.gi, X.im, fun p hp => ?_, fun p hp => ?_, List.nodup_cons.mpr ⟨h3, X.nd⟩, ⟨_, .head _, dL⟩, fun p hp => ?_, X.gens, X.os, fun p hp => ?_⟩
  · rcases List.mem_cons.mp hp with rfl | hp
    · exact h1
    · exact X.ow p hp
  · rcases List.mem_cons.mp hp with rfl | hp
    · exact h2
    · exact X.off p hp
  · obtain ⟨k1, k2, k3⟩ := X.fo p (.tail _ hp)
    refine ⟨k1, k2, fun hm => ?_⟩
    rcases List.mem_cons.mp hm with q | hm
    · exact nf (by have q' : p.1 = c.L := q; rw [← q']; exact List.mem_map_of_mem hp)
    · exact k3 hm
  · rcases List.mem_cons.mp hp with rfl | hp
    · exact hi
    · exact X.hi p hp

/-- out of it by an exception -/
theorem leave_exc {c : Cx} {lv : Nat} {env' : Env} {oL : Obj} {L' e C : Addr} {I' : Heap} {mu' : Led} {s' : Shared} {E : Value → Shared → Prop} {Q : Unit → Shared → Prop} (hc : c.Ok lv) (X : S (actv c env' oL L') I' mu' s') (x : Exc (actv c env' oL L') I' mu' e C s') (dL : isDict oL) (nf : c.L ∉ c.fobj.map (·.1))
    (hf : env'.frame = some L') (hi : 1 < c.L) (h : ∀ s'' sl, S c I' ((c.L, { oL with slots := sl }) :: dropL L' mu') s'' → Exc c I' ((c.L, { oL with slots := sl }) :: dropL L' mu') e C s'' → Q () s'') :
    wpAny (model prg c.w) (c.A.deeper env') (leaving env' (.ref e)) Q E s' := by
  obtain ⟨B, a0, x1, x2, x3, x4, x5, x6⟩ := x
  have hfr : (c.A.deeper env').frames = some (env' :: c.env :: c.outer) := by
    show c.A.frames.map (env' :: ·) = _
    rw [hc.frames]; rfl
  have nfd : ∀ o : Obj, isDict o → ∀ vs, o.data ≠ .fields vs := fun o ⟨es, n, d⟩ vs q => by rw [d] at q; cases q
  have fin : ∀ h', Heap.LeftW B (env' :: c.env :: c.outer) e (.ref C) a0 s'.heap h' → Q () { s' with heap := h' } := fun h' hl => by
    obtain ⟨k1, k2, k3, k4⟩ := hl
    obtain ⟨⟨sl, h1⟩, h2, h3⟩ := X.fo (c.L, oL) (.head _)
    obtain ⟨sl', h1'⟩ := k4 _ _ h1 (nfd _ dL)
    refine h _ sl' ⟨X.gi, fun b o q => k1 _ _ (x1 _ _ q), fun p hp => ?_, fun p hp => ?_, ?_, ⟨_, .head _, dL⟩, fun p hp => ?_, X.gens, X.os, fun p hp => (List.mem_cons.mp hp).elim (fun e => by rw [e]; exact hi) fun h => X.hi p (dropL_mem.mp h).1⟩ ⟨B, a0, x1, fun p hp n => ?_, k1, x4, k2.2.2, .inr k3⟩
    · rcases List.mem_cons.mp hp with rfl | hp
      · exact h1'
      · exact k1 _ _ (x2 p (dropL_mem.mp hp).1 (dropL_mem.mp hp).2)
    · rcases List.mem_cons.mp hp with rfl | hp
      · exact h2
      · exact X.off p (dropL_mem.mp hp).1
    · refine List.nodup_cons.mpr ⟨fun m => ?_, (List.filter_sublist.map _).nodup X.nd⟩
      obtain ⟨q, hq, e⟩ := List.mem_map.mp m
      exact h3 (by have e' : q.1 = c.L := e; show c.L ∈ _; rw [← e']; exact List.mem_map_of_mem (dropL_mem.mp hq).1)
    · obtain ⟨⟨sl₁, g1⟩, g2, g3⟩ := X.fo p (.tail _ hp)
      obtain ⟨e', _, _, _, de⟩ := All2.rest' hc.outs p hp
      obtain ⟨sl₂, g1'⟩ := k4 _ _ g1 (nfd _ de)
      refine ⟨⟨sl₂, g1'⟩, g2, fun hm => ?_⟩
      rcases List.mem_cons.mp hm with q | hm
      · exact nf (by have q' : p.1 = c.L := q; rw [← q']; exact List.mem_map_of_mem hp)
      · obtain ⟨q, hq, e⟩ := List.mem_map.mp hm
        exact g3 (by have e' : q.1 = p.1 := e; rw [← e']; exact List.mem_map_of_mem (dropL_mem.mp hq).1)
    · rcases List.mem_cons.mp hp with rfl | hp
      · exact absurd rfl n
      · exact x2 p (dropL_mem.mp hp).1 (dropL_mem.mp hp).2
  rcases x6 with ⟨oe, vs, h1, h2, h3, h4, h5⟩ | x6
  · rw [← h2] at fin
    exact wpAny_leaving_firstW hfr x5 hf h1 x3 x4 h3 h4 h5 fin
  · exact wpAny_leaving_nextW hfr x5 hf x6 x3 x4 fin

/-- what the end of a body must be -/
noncomputable def Fin (Φ : Os → Oc → Prop) : Fl → Vs → Os → Prop := fun fl _ ω'' => ∃ ω' ωr, ω''.Perm (ωr ++ ω') ∧ match fl with
  | .next => Φ ω' (.val dN)
  | .ret a => Φ ω' (.val a)
  | .exc C => Φ ω' (.exc C)
theorem Fin.same {Φ : Os → Oc → Prop} {a : AV} {ρ : Vs} {ω : Os} (h : Φ ω (.val a)) : Fin Φ (.ret a) ρ ω := ⟨ω, [], .refl _, h⟩
theorem Fin.none {Φ : Os → Oc → Prop} {ρ : Vs} {ω : Os} (h : Φ ω (.val dN)) : Fin Φ .next ρ ω := ⟨ω, [], .refl _, h⟩
theorem Fin.exc {Φ : Os → Oc → Prop} {C : Addr} {ρ : Vs} {ω : Os} (h : Φ ω (.exc C)) : Fin Φ (.exc C) ρ ω := ⟨ω, [], .refl _, h⟩

theorem body_core {c : Cx} {lv : Nat} {env' : Env} {oL : Obj} {L' : Addr} {I I₁ : Heap} {mu : Led} {news : Led} {s s₁ : Shared} {ρ : Vs} {ω ωc : Os} {P : (Flow → Shared → Prop) → (Value → Shared → Prop) → Prop} {Φ : Os → Oc → Prop} {R : Result → Shared → Prop} (hc : c.Ok lv) (X : S c I mu s) (hL : (c.L, oL) ∈ mu) (dL : isDict oL)
    (hf : env'.frame = some L') (hlo : env'.locals ∈ news.map (·.1)) (hL' : L' ∈ news.map (·.1)) (hn : ∀ p ∈ news, s.heap.get? p.1 = none) (hwc : ∀ a ∈ keys ωc, a ∈ news.map (·.1)) (le₁ : HLe I I₁) (X₁ : S (actv c env' oL L') I₁ (news ++ dropL c.L mu) s₁)
    (W₁ : Wd (actv c env' oL L') env' I₁ ρ (ωc ++ ω) (news ++ dropL c.L mu)) (h : ∀ Q E, KS (actv c env' oL L') env' (ωc ++ ω) I₁ (news ++ dropL c.L mu) (Fin Φ) Q E → P Q E)
    (k1 : ∀ v av ω' s' I' mu', Aft c ω ω' I mu I' mu' s' → Rv I' v av → Φ ω' (.val av) → R (.ok (.ret v)) s')
    (k2 : ∀ e C ω' s' I' mu', Aft c ω ω' I mu I' mu' s' → Exc c I' mu' e C s' → Φ ω' (.exc C) → R (.error (.ref e)) s') :
    P (fun f s' => R (.ok (.ret (match f with | .ret v => v | _ => .none))) s')
      (fun e s' => wpAny (model prg c.w) (c.A.deeper env') (leaving env' e) (fun _ s'' => R (.error e) s'') (fun e' s'' => R (.error e') s'') s') := by
  have nLf : c.L ∉ c.fobj.map (·.1) := fun m => X.foMu m (List.mem_map_of_mem (f := Prod.fst) hL)
  have fresh : ∀ a o, (a, o) ∈ mu → a ∉ news.map (·.1) := fun a o ha hm => by
    obtain ⟨p, hp, rfl⟩ := List.mem_map.mp hm
    have := X.ow _ ha
    rw [hn p hp] at this; cases this
  have aft : ∀ {fl ρ' ω'' s' I' mu'} (sl : Array (Option Value)) (mu₂ : Led) (s₂ : Shared) (ω' ωr : Os), GoS (actv c env' oL L') env' (ωc ++ ω) ρ' ω'' I₁ (news ++ dropL c.L mu) I' mu' s' → Fin Φ fl ρ' ω'' → ω''.Perm (ωr ++ ω') →
      S c I' ((c.L, { oL with slots := sl }) :: mu₂) s₂ → (∀ p ∈ mu', p.1 ≠ L' → p ∈ mu₂) → (∀ p ∈ mu₂, p ∈ mu') → Aft c ω ω' I mu I' ((c.L, { oL with slots := sl }) :: mu₂) s₂ := by
    intro fl ρ' ω'' s' I' mu' sl mu₂ s₂ ω' ωr g p hp X₂ sub sup
    have kp : (keys ω'').Perm (keys ωr ++ keys ω') := by
      have := hp.map (fun q : Addr × AO => q.1)
      rw [List.map_append] at this
      exact this
    have kin : ∀ a ∈ keys ω', a ∈ keys ω'' := fun a ha => kp.mem_iff.mpr (List.mem_append_right _ ha)
    have keep : ∀ a o, (a, o) ∈ mu → a ∉ keys ω → a ≠ c.L → (a, o) ∈ mu' := fun a o h1 h2 h3 => by
      refine g.fp.other (a, o) (List.mem_append_right _ (dropL_mem.mpr ⟨h1, h3⟩)) ?_ ?_
      · rintro (h4 | h4)
        · have h4 : a ∈ keys (ωc ++ ω) := h4
          rw [show keys (ωc ++ ω) = keys ωc ++ keys ω from List.map_append] at h4
          rcases List.mem_append.mp h4 with h5 | h5
          · exact fresh a o h1 (hwc _ h5)
          · exact h2 h5
        · exact fresh a o h1 ((show a = env'.locals from h4) ▸ hlo)
      · intro h4
        exact fresh a o h1 ((show a = L' from h4) ▸ hL')
    have nLm : ∀ a o, (a, o) ∈ mu → a ≠ L' := fun a o h1 e => fresh a o h1 (e ▸ hL')
    refine ⟨X₂, le₁.trans g.le, ⟨fun b hb h2 h3 => .tail _ (sub _ (keep b.1 b.2 hb h2 h3) (nLm _ _ hb)), fun o ho _ => ?_, fun b hb => ?_⟩, fun a ha => ?_, fun q hq => ?_, ?_⟩
    · have := X.uniq ho hL
      subst this
      exact ⟨sl, .head _⟩
    · by_cases e : b.1 = c.L
      · rw [e]; exact .head _
      · obtain ⟨q, hq, e2⟩ := List.mem_map.mp (g.fp.ks b (List.mem_append_right _ (dropL_mem.mpr ⟨hb, e⟩)))
        rw [← e2]
        exact .tail _ (List.mem_map_of_mem (sub _ hq fun e3 => nLm _ _ hb (e2 ▸ e3)))
    · rcases g.nw a (kin a ha) with h1 | h1
      · have h4 : a ∈ keys (ωc ++ ω) := h1
        rw [show keys (ωc ++ ω) = keys ωc ++ keys ω from List.map_append] at h4
        rcases List.mem_append.mp h4 with h5 | h5
        · refine .inr fun h2 => ?_
          obtain ⟨b, hb, rfl⟩ := List.mem_map.mp h2
          exact fresh b.1 b.2 hb (hwc _ h5)
        · exact .inl h5
      · refine .inr fun h2 => h1 ?_
        obtain ⟨b, hb, rfl⟩ := List.mem_map.mp h2
        rw [List.map_append]
        refine List.mem_append_right _ (List.mem_map_of_mem (dropL_mem.mpr ⟨hb, fun e => ?_⟩))
        obtain ⟨q2, hq2, e2⟩ := List.mem_map.mp (kin _ ha)
        obtain ⟨o2, h5, _⟩ := g.wd.own q2 hq2
        have nn : c.L ∉ mu₂.map (·.1) := (List.nodup_cons.mp X₂.nd).1
        refine nn (by rw [← e, ← e2]; exact List.mem_map_of_mem (f := Prod.fst) (sub _ h5 (g.wd.sep q2 hq2).2))
    · have hq' := hp.mem_iff.mpr (List.mem_append_right ωr hq)
      obtain ⟨o, h1, h2⟩ := g.wd.own q hq'
      exact ⟨o, .tail _ (sub _ h1 (g.wd.sep q hq').2), h2⟩
    · exact (List.nodup_append.mp ((kp.nodup_iff).mp g.wd.nd)).2.1
  refine h _ _ ⟨fun fo fl ρ' ω'' s' I' mu' g r p => ?_, fun e C ρ' ω'' s' I' mu' g x p => ?_⟩
  · obtain ⟨sl, X'⟩ := g.st.leave dL nLf (X.hi _ hL)
    have p' := p
    obtain ⟨ω', ωr, hp, hm⟩ := p
    have A := aft sl _ _ ω' ωr g p' hp X' (fun _ h _ => h) fun _ h => h
    cases fo <;> cases fl <;> first | exact r.elim | skip
    · exact k1 .none dN _ _ _ _ A ⟨_, Reads.none⟩ hm
    · exact k1 _ _ _ _ _ _ A r hm
  · refine leave_exc hc g.st x dL nLf hf (X.hi _ hL) fun s'' sl X' x' => ?_
    have p' := p
    obtain ⟨ω', ωr, hp, hm⟩ := p
    exact k2 _ _ _ _ _ _ (aft sl _ _ ω' ωr g p' hp X' (fun _ h1 h2 => dropL_mem.mpr ⟨h1, h2⟩) fun _ h => (dropL_mem.mp h).1) x' hm

theorem body_done {c : Cx} {lv : Nat} {env' : Env} {oL : Obj} {L' : Addr} {I I₁ : Heap} {mu : Led} {news : Led} {s s₁ : Shared} {ρ : Vs} {ω ωc : Os} {body : List Stmt} {Φ : Os → Oc → Prop} {R : Result → Shared → Prop} (hc : c.Ok lv) (X : S c I mu s) (hL : (c.L, oL) ∈ mu) (dL : isDict oL)
    (hf : env'.frame = some L') (hlo : env'.locals ∈ news.map (·.1)) (hL' : L' ∈ news.map (·.1)) (hn : ∀ p ∈ news, s.heap.get? p.1 = none) (hwc : ∀ a ∈ keys ωc, a ∈ news.map (·.1)) (le₁ : HLe I I₁) (X₁ : S (actv c env' oL L') I₁ (news ++ dropL c.L mu) s₁)
    (W₁ : Wd (actv c env' oL L') env' I₁ ρ (ωc ++ ω) (news ++ dropL c.L mu)) (h : TS (actv c env' oL L') env' ρ (ωc ++ ω) body (Fin Φ))
    (k1 : ∀ v av ω' s' I' mu', Aft c ω ω' I mu I' mu' s' → Rv I' v av → Φ ω' (.val av) → R (.ok (.ret v)) s')
    (k2 : ∀ e C ω' s' I' mu', Aft c ω ω' I mu I' mu' s' → Exc c I' mu' e C s' → Φ ω' (.exc C) → R (.error (.ref e)) s') :
    wpAny (model prg c.w) (c.A.deeper env') (execs body env') (fun f s' => R (.ok (.ret (match f with | .ret v => v | _ => .none))) s')
      (fun e s' => wpAny (model prg c.w) (c.A.deeper env') (leaving env' e) (fun _ s'' => R (.error e) s'') (fun e' s'' => R (.error e') s'') s') s₁ :=
  body_core hc X hL dL hf hlo hL' hn hwc le₁ X₁ W₁ (fun Q E k => h I₁ _ _ Q E X₁ W₁ k) k1 k2

theorem lookup_rev {α β : Type} {R : α → β → Prop} : ∀ {xs : List Str} {vals : List α} {args : List β}, xs.Nodup → All2 R vals args → ∀ x av, (xs.zip args).lookup x = some av → ∃ v, (xs.zip vals).reverse.lookup x = some v ∧ R v av := by
  intro xs
  induction xs with
  | nil => intro vals args _ _ x av e; simp at e
  | cons y ys ih =>
    intro vals args hn r x av e
    cases r with
    | nil => simp at e
    | cons r1 r2 =>
      rename_i v0 a0 vs as
      obtain ⟨n1, n2⟩ := List.nodup_cons.mp hn
      rw [List.zip_cons_cons, List.lookup_cons] at e
      have app : ∀ (l : List (Str × α)) (p : Str × α), (l ++ [p]).lookup x = match l.lookup x with | some a => some a | none => if x == p.1 then some p.2 else none := by
        intro l p
        induction l with
        | nil => rw [List.nil_append, List.lookup_cons]; cases x == p.1 <;> rfl
        | cons z r ih =>
          rw [List.cons_append, List.lookup_cons, List.lookup_cons, ih]
          cases x == z.1 <;> rfl
      rw [List.zip_cons_cons, List.reverse_cons, app]
      cases hb : x == y with
      | true =>
        rw [hb] at e
        cases e
        have hxy := beq_iff_eq.mp hb
        subst hxy
        have : (ys.zip vs).reverse.lookup x = none := by
          cases e : (ys.zip vs).reverse.lookup x with
          | none => rfl
          | some w => exact absurd (List.of_mem_zip (List.mem_reverse.mp (mem_of_lookup e))).1 n1
        rw [this]
        exact ⟨v0, rfl, r1⟩
      | false =>
        rw [hb] at e
        obtain ⟨v, h1, h2⟩ := ih n2 r2 x av e
        rw [h1]
        exact ⟨v, rfl, h2⟩

/-- the function object, where it lies -/
noncomputable def FnAt (c : Cx) (s : Shared) (f : Addr) (fd : FuncData) : Prop := (∃ o, s.heap.get? f = some o ∧ o.data = .func fd) ∧ s.heap.CodeRec fd.code fd.qualname

/-- the body of a def without own cells, and so its call -/
theorem call_plain {lv : Nat} {f : Addr} {args : List AV} {ω : Os} {Φ : Os → Oc → Prop} {name qual : Str} {params : Arguments} {body : List Stmt} {scope : Scope} {cl : List (Str × Addr)} {dV kV doc pm cdv ct : Value} {an : Option Addr} {xs : List Str}
    {c : Cx} {I : Heap} {mu : Led} {s : Shared} {vals vals0 : List Value} {R : Result → Shared → Prop} (hc : c.Ok lv) (X : S c I mu s) (own : Own c.w I ω mu) (nd : (keys ω).Nodup) (nL : c.L ∉ keys ω) (ra : All2 (Rv I) vals args)
    (hfn : FnAt c s f (fnX name qual params body scope cl dV kV doc pm an cdv ct))
    (hbind : BindsTo s (fnX name qual params body scope cl dV kV doc pm an cdv ct) ⟨vals0, []⟩ (xs.zip vals))
    (hloc : ∀ x ∈ xs, scope.names.lookup x = some .local) (hnd : xs.Nodup) (hcell : ∀ x ∈ scope.names, x.2 ≠ .cell) (hlv : lv ≤ 15)
    (hco : scope.isCoroutine = false) (hgen : scope.isGenerator = false) (hk : scope.kind = .function)
    (h : ∀ (c' : Cx) (L' : Addr), c'.Ok (lv + 1) → c'.L = L' → c'.env = envX qual scope L' f cdv cl → TS c' (envX qual scope L' f cdv cl) (xs.zip args) ω body (Fin Φ))
    (k1 : ∀ v av ω' s' I' mu', Aft c ω ω' I mu I' mu' s' → Rv I' v av → Φ ω' (.val av) → R (.ok (.ret v)) s')
    (k2 : ∀ e C ω' s' I' mu', Aft c ω ω' I mu I' mu' s' → Exc c I' mu' e C s' → Φ ω' (.exc C) → R (.error (.ref e)) s') :
    codeAny (model prg c.w) c.A (.call (.ref f) ⟨vals0, []⟩) R s := by
  obtain ⟨pp, loose, mean, mg, mb, T⟩ := hc.st.T
  obtain ⟨⟨fo, hfo, hfd⟩, hcr⟩ := hfn
  refine codeAny_call_def (fd := fnX name qual params body scope cl dV kV doc pm an cdv ct) (body := body) (binds := xs.zip vals) (by have := hc.depth; unfold recursionLimit; omega) hfo hfd (T.nolimit.keeps fun b o e => X.im _ _ (X.gi _ _ e)) hcr rfl
    hbind hcell (fun y hy => hloc _ (List.of_mem_zip hy).1) (fun h₁ hns hk₁ => ?_) hco hgen hk
  have hfr : s.heap.get? s.heap.objs.size = none := Heap.get?_none_of_le (Nat.le_refl _)
  obtain ⟨oN, hN, nN⟩ := ns_obj hns
  have dN' : isDict oN := let ⟨es, ep, h, _⟩ := nN; ⟨es, ep, h⟩
  obtain ⟨oL, hL, dL, I₁, le₁, X₁⟩ := X.enter (env' := envX qual scope s.heap.objs.size f cdv cl) (tk := s.toks + (xs.zip vals).length) (news := [(s.heap.objs.size, oN)]) hk₁ (by simp [hN, hfr]) (by simp) (.head _) dN' (fun p hp => by rcases List.mem_singleton.mp hp with rfl; exact X.big hc)
  have ok₁ := actv_ok hc (env' := envX qual scope s.heap.objs.size f cdv cl) (oL := oL) (L' := s.heap.objs.size) dL hk rfl rfl rfl
  have nk : ∀ a ∈ keys ω, a ≠ s.heap.objs.size := fun a ha e => by
    obtain ⟨p, hp, rfl⟩ := List.mem_map.mp ha
    obtain ⟨o, h1, _⟩ := own p hp
    have := X.ow _ h1
    rw [e, hfr] at this; cases this
  have nkL : ∀ a ∈ keys ω, a ≠ c.L := fun a ha e => nL (e ▸ ha)
  have W₁ : Wd (actv c (envX qual scope s.heap.objs.size f cdv cl) oL s.heap.objs.size) (envX qual scope s.heap.objs.size f cdv cl) I₁ (xs.zip args) ([] ++ ω) ([(s.heap.objs.size, oN)] ++ dropL c.L mu) := by
    refine ⟨⟨hk, rfl, rfl, rfl⟩, fun x av' e => ?_, ⟨oN, _, .head _, nN⟩, fun p hp => ?_, fun p hp => ?_, nd⟩
    · obtain ⟨v, h1, h2⟩ := lookup_rev hnd ra x av' e
      refine ⟨v, ⟨hloc x ?_, oN, _, .head _, nN, h1⟩, h2.mono le₁⟩
      obtain ⟨b, hb⟩ : ∃ b, (x, b) ∈ xs.zip args := ⟨_, mem_of_lookup e⟩
      exact (List.of_mem_zip hb).1
    · obtain ⟨o, h1, h2⟩ := own p hp
      exact ⟨o, .tail _ (dropL_mem.mpr ⟨h1, nkL _ (List.mem_map_of_mem hp)⟩), h2.mono le₁⟩
    · exact ⟨nk _ (List.mem_map_of_mem hp), nk _ (List.mem_map_of_mem hp)⟩
  exact body_done (ωc := []) hc X hL dL rfl (.head _) (.head _) (fun p hp => by rcases List.mem_singleton.mp hp with rfl; exact hfr) (fun a ha => by cases ha) le₁ X₁ W₁ (h _ _ ok₁ rfl rfl) k1 k2
end Mine
set_option Elab.async false
set_option maxRecDepth 100000
set_option linter.unusedVariables false
namespace Mine
open PySem PySem.W PySem.Calls PyProof.Rows PySem.Spec PyProof.Rows.LCg

theorem CV.defE {lv : Nat} {f : Addr} {args : List AV} {ω : Os} {Φ : Os → Oc → Prop} {name qual : Str} {params : Arguments} {body : List Stmt} {scope : Scope} {dV kV doc pm cdv ct oc : Value} {an od : Option Addr} {osl : Array (Option Value)} {xs : List Str}
    (ho : ∀ w, (KK w).lookup f = some ⟨oc, od, .func (fnX name qual params body scope [] dV kV doc pm an cdv ct), osl⟩) (hcd : ∀ w, codeIn (KK w) cdv qual = true)
    (hbind : ∀ vals : List Value, vals.length = args.length → bindArgs (fnX name qual params body scope [] dV kV doc pm an cdv ct) ⟨vals, []⟩ = pure (xs.zip vals))
    (hloc : ∀ x ∈ xs, scope.names.lookup x = some .local) (hnd : xs.Nodup) (hcell : ∀ x ∈ scope.names, x.2 ≠ .cell) (hlv : lv ≤ 15)
    (hco : scope.isCoroutine = false) (hgen : scope.isGenerator = false) (hk : scope.kind = .function)
    (h : ∀ (c' : Cx) (L' : Addr), c'.Ok (lv + 1) → c'.L = L' → c'.env = envX qual scope L' f cdv [] → TS c' (envX qual scope L' f cdv []) (xs.zip args) ω body (Fin Φ)) :
    CV lv f args ω Φ := by
  intro c I mu s vals R hc X own nd nL ra k1 k2
  have hX := X.kin hc
  exact call_plain hc X own nd nL ra ⟨⟨_, hX _ _ (ho c.w), rfl⟩, codeRec_of hX (hcd c.w)⟩ (BindsTo.of_eq (hbind vals ra.length)) hloc hnd hcell hlv hco hgen hk h k1 k2

theorem CV.def {lv : Nat} {f : Addr} {args : List AV} {ω : Os} {Φ : Os → Oc → Prop} {name qual : Str} {params : Arguments} {body : List Stmt} {scope : Scope} {dV kV doc pm cdv ct oc : Value} {an od : Option Addr} {osl : Array (Option Value)} {xs : List Str}
    (ho : ∀ w, (KK w).lookup f = some ⟨oc, od, .func (fnX name qual params body scope [] dV kV doc pm an cdv ct), osl⟩) (hcd : ∀ w, codeIn (KK w) cdv qual = true)
    (hbind : ∀ vals : List Value, vals.length = args.length → bindArgs (fnX name qual params body scope [] dV kV doc pm an cdv ct) ⟨vals, []⟩ = pure (xs.zip vals))
    (hloc : ∀ x ∈ xs, scope.names.lookup x = some .local) (hnd : xs.Nodup) (hcell : ∀ x ∈ scope.names, x.2 ≠ .cell) (hlv : lv ≤ 15)
    (hco : scope.isCoroutine = false) (hgen : scope.isGenerator = false) (hk : scope.kind = .function)
    (h : ∀ (c' : Cx) (L' : Addr), c'.Ok (lv + 1) → c'.L = L' → TS c' (envX qual scope L' f cdv []) (xs.zip args) ω body (Fin Φ)) :
    CV lv f args ω Φ := by
  intro c I mu s vals R hc X own nd nL ra k1 k2
  have hX := X.kin hc
  exact call_plain hc X own nd nL ra ⟨⟨_, hX _ _ (ho c.w), rfl⟩, codeRec_of hX (hcd c.w)⟩ (BindsTo.of_eq (hbind vals ra.length)) hloc hnd hcell hlv hco hgen hk (fun c' L' a b _ => h c' L' a b) k1 k2

theorem bindL_not {k : Str → Option NameKind} {n : Str} : ∀ (bs : List (Str × Value)) (m : Str → Option Value), n ∉ bs.map (·.1) → bindL k bs m n = m n
  | [], _, _ => rfl
  | (x, v) :: r, m, h => by
    unfold bindL
    rw [bindL_not r _ fun q => h (.tail _ q)]
    split
    · simp only; rw [if_neg fun q => h (by rw [q]; exact .head _)]
    · rfl
theorem bindC_not {k : Str → Option NameKind} {n : Str} : ∀ (bs : List (Str × Value)) (m : Str → Option Value), n ∉ bs.map (·.1) → bindC k bs m n = m n
  | [], _, _ => rfl
  | (x, v) :: r, m, h => by
    unfold bindC
    rw [bindC_not r _ fun q => h (.tail _ q)]
    split
    · rfl
    · simp only; rw [if_neg fun q => h (by rw [q]; exact .head _)]
theorem zip_not {xs : List Str} {vals : List Value} {n : Str} (h : n ∉ xs) : n ∉ (xs.zip vals).map (·.1) := fun m => by
  obtain ⟨p, hp, rfl⟩ := List.mem_map.mp m
  exact h (List.of_mem_zip hp).1
theorem bindL_at {β : Type} {R : Value → β → Prop} {k : Str → Option NameKind} : ∀ {xs : List Str} {vals : List Value} {args : List β}, xs.Nodup → All2 R vals args → ∀ (m : Str → Option Value) x av, k x = some .local → (xs.zip args).lookup x = some av →
    ∃ v, bindL k (xs.zip vals) m x = some v ∧ R v av
  | [], _, _, _, _, _, _, _, _, e => by simp at e
  | y :: ys, [], [], _, _, _, _, _, _, e => by simp at e
  | y :: ys, v0 :: vs, a0 :: as, hn, .cons r1 r2, m, x, av, hk, e => by
    obtain ⟨n1, n2⟩ := List.nodup_cons.mp hn
    rw [List.zip_cons_cons, List.lookup_cons] at e
    rw [List.zip_cons_cons]
    unfold bindL
    cases hb : x == y with
    | true =>
      rw [hb] at e
      cases e
      have hxy := beq_iff_eq.mp hb
      subst hxy
      rw [bindL_not _ _ (zip_not n1), if_pos hk]
      exact ⟨v0, by simp, r1⟩
    | false =>
      rw [hb] at e
      exact bindL_at n2 r2 _ x av hk e
theorem bindC_at {β : Type} {R : Value → β → Prop} {k : Str → Option NameKind} : ∀ {xs : List Str} {vals : List Value} {args : List β}, xs.Nodup → All2 R vals args → ∀ (m : Str → Option Value) x, k x ≠ some .local →
    match (xs.zip args).lookup x with
    | some av => ∃ v, bindC k (xs.zip vals) m x = some v ∧ R v av
    | none => bindC k (xs.zip vals) m x = m x
  | [], _, _, _, _, _, _, _ => by simp [bindC]
  | y :: ys, [], [], _, _, _, _, _ => by simp [bindC]
  | y :: ys, v0 :: vs, a0 :: as, hn, .cons r1 r2, m, x, hk => by
    obtain ⟨n1, n2⟩ := List.nodup_cons.mp hn
    rw [List.zip_cons_cons, List.lookup_cons, List.zip_cons_cons]
    unfold bindC
    cases hb : x == y with
    | true =>
      have hxy := beq_iff_eq.mp hb
      subst hxy
      dsimp only
      rw [bindC_not _ _ (zip_not n1), if_neg hk]
      exact ⟨v0, by simp, r1⟩
    | false =>
      have z := bindC_at n2 r2 (if k y = some .local then m else fun z => if z = y then some v0 else m z) x hk
      dsimp only
      split <;> rename_i e
      · rw [e] at z; exact z
      · rw [e] at z
        rw [show bindC k (ys.zip vs) (if k y = some .local then m else fun z => if z = y then some v0 else m z) x = _ from z]
        split
        · rfl
        · simp only; rw [if_neg (beq_eq_false_iff_ne.mp hb)]

noncomputable abbrev cellsO (cs : List (Str × Addr)) (bs : List (Str × AV)) : Os := cs.map fun p => (p.2, AO.cell (bs.lookup p.1))

/-- a def with cells of its own -/
theorem CV.defC {lv : Nat} {f : Addr} {args : List AV} {ω : Os} {Φ : Os → Oc → Prop} {name qual : Str} {params : Arguments} {body : List Stmt} {scope : Scope} {dV kV doc pm cdv ct oc : Value} {an od : Option Addr} {osl : Array (Option Value)} {xs : List Str} (ρ : Vs) (ωc : Addr → Os)
    (ho : ∀ w, (KK w).lookup f = some ⟨oc, od, .func (fnX name qual params body scope [] dV kV doc pm an cdv ct), osl⟩) (hcd : ∀ w, codeIn (KK w) cdv qual = true)
    (hbind : ∀ vals : List Value, vals.length = args.length → bindArgs (fnX name qual params body scope [] dV kV doc pm an cdv ct) ⟨vals, []⟩ = pure (xs.zip vals))
    (hρ : ∀ x av, ρ.lookup x = some av → scope.names.lookup x = some .local ∧ (xs.zip args).lookup x = some av)
    (hωc : ∀ n, cellsO (cellsFrom (n + 1) scope.names []) (xs.zip args) = ωc n)
    (hkind : ∀ n, ∀ x ∈ xs, scope.names.lookup x = some .local ∨ (scope.names.lookup x = some .cell ∧ ((cellsFrom n scope.names []).lookup x).isSome = true))
    (hnl : ∀ p ∈ cellsFrom 0 scope.names [], scope.names.lookup p.1 ≠ some .local)
    (hnc : ((cellsFrom 0 scope.names []).map (·.1)).Nodup) (hnd : xs.Nodup) (hlv : lv ≤ 15)
    (hco : scope.isCoroutine = false) (hgen : scope.isGenerator = false) (hk : scope.kind = .function)
    (h : ∀ (c' : Cx) (L' : Addr), c'.Ok (lv + 1) → c'.L = L' → TS c' (envX qual scope L' f cdv (cellsFrom (L' + 1) scope.names [])) ρ (ωc L' ++ ω) body (Fin Φ)) :
    CV lv f args ω Φ := by
  intro c I mu s vals R hc X own nd nL ra k1 k2
  have hX := X.kin hc
  obtain ⟨pp, loose, mean, mg, mb, T⟩ := hc.st.T
  refine codeAny_call_cells (fd := fnX name qual params body scope [] dV kV doc pm an cdv ct) (body := body) (binds := xs.zip vals) (by have := hc.depth; unfold recursionLimit; omega) (hX _ _ (ho c.w)) rfl (T.nolimit.keeps fun b o e => X.im _ _ (X.gi _ _ e)) (codeRec_of hX (hcd c.w)) rfl
    (hbind vals ra.length) rfl (fun x hx => hkind _ _ (List.of_mem_zip hx).1) (fun s₁ x => ?_) hco hgen hk
  have names : ∀ n, (cellsFrom n scope.names []).map (·.1) = (cellsFrom 0 scope.names []).map (·.1) := fun n => cellsFrom_names scope.names n 0 [] [] rfl
  obtain ⟨h₁, tk, rfl, _⟩ := x.done
  have hk₁ := x.toInCall.keep
  have hfr : s.heap.get? s.heap.objs.size = none := Heap.get?_none_of_le (Nat.le_refl _)
  obtain ⟨oN, hN, nN⟩ := ns_obj x.toInCall.ns
  have dN' : isDict oN := let ⟨es, ep, h, _⟩ := nN; ⟨es, ep, h⟩
  have hcs : ∀ n a, (n, a) ∈ cellsFrom (s.heap.objs.size + 1) scope.names [] → h₁.IsCell a (bindC (envX qual scope s.heap.objs.size f cdv (cellsFrom (s.heap.objs.size + 1) scope.names [])).kindOf (xs.zip vals) (fun _ => none) n) ∧ s.heap.objs.size < a := fun n a hm =>
    ⟨x.cell n a (lookup_of_mem_nodup (cs := cellsFrom (s.heap.objs.size + 1) scope.names []) (by rw [names]; exact hnc) hm), x.above n a hm⟩
  -- the cells, as a ledger
  have led : ∀ cs : List (Str × Addr), (∀ n a, (n, a) ∈ cs → h₁.IsCell a (bindC (envX qual scope s.heap.objs.size f cdv (cellsFrom (s.heap.objs.size + 1) scope.names [])).kindOf (xs.zip vals) (fun _ => none) n) ∧ s.heap.objs.size < a) → cs.Pairwise (fun x y => x.2 ≠ y.2) →
      ∃ l : Led, l.map (·.1) = cs.map (·.2) ∧ ∀ p ∈ l, h₁.get? p.1 = some p.2 := by
    intro cs
    induction cs with
    | nil => intro _ _; exact ⟨[], rfl, fun p hp => by cases hp⟩
    | cons q r ih =>
      intro hh hp
      obtain ⟨l, e1, e2⟩ := ih (fun n a hm => hh n a (.tail _ hm)) (List.pairwise_cons.mp hp).2
      obtain ⟨⟨o, ho', _⟩, _⟩ := hh q.1 q.2 (.head _)
      refine ⟨(q.2, o) :: l, by simp [e1], fun p hp => ?_⟩
      rcases List.mem_cons.mp hp with rfl | hp
      · exact ho'
      · exact e2 p hp
  obtain ⟨l, e1, e2⟩ := led _ hcs x.apart
  have lk : ∀ a ∈ l.map (·.1), ∃ n, (n, a) ∈ cellsFrom (s.heap.objs.size + 1) scope.names [] := fun a ha => by
    rw [e1] at ha
    obtain ⟨q, hq, rfl⟩ := List.mem_map.mp ha
    exact ⟨q.1, hq⟩
  have lgt : ∀ a ∈ l.map (·.1), s.heap.objs.size < a := fun a ha => let ⟨n, h⟩ := lk a ha; (hcs _ _ h).2
  have new1 : ∀ p ∈ (s.heap.objs.size, oN) :: l, h₁.get? p.1 = some p.2 ∧ s.heap.get? p.1 = none := fun p hp => by
    rcases List.mem_cons.mp hp with rfl | hp
    · exact ⟨hN, hfr⟩
    · exact ⟨e2 p hp, Heap.get?_none_of_le (Nat.le_of_lt (lgt _ (List.mem_map_of_mem hp)))⟩
  have nnd : (((s.heap.objs.size, oN) :: l).map (·.1)).Nodup := by
    refine List.nodup_cons.mpr ⟨fun m => Nat.lt_irrefl _ (lgt _ m), ?_⟩
    rw [e1]
    exact List.pairwise_map.mpr x.apart
  obtain ⟨oL, hL, dL, I₁, le₁, X₁⟩ := X.enter (env' := envX qual scope s.heap.objs.size f cdv (cellsFrom (s.heap.objs.size + 1) scope.names [])) (tk := tk) hk₁ new1 nnd (.head _) dN' (fun p hp => by
    rcases List.mem_cons.mp hp with rfl | hp
    · exact X.big hc
    · exact Nat.lt_trans (X.big hc) (lgt _ (List.mem_map_of_mem hp)))
  have ok₁ := actv_ok hc (env' := envX qual scope s.heap.objs.size f cdv (cellsFrom (s.heap.objs.size + 1) scope.names [])) (oL := oL) (L' := s.heap.objs.size) dL hk rfl rfl rfl
  have nk : ∀ a ∈ keys ω, s.heap.get? a ≠ none := fun a ha e => by
    obtain ⟨p, hp, rfl⟩ := List.mem_map.mp ha
    obtain ⟨o, h1, _⟩ := own p hp
    have := X.ow _ h1
    rw [e] at this; cases this
  have nkL : ∀ a ∈ keys ω, a ≠ c.L := fun a ha e => nL (e ▸ ha)
  have kc : ∀ a ∈ keys (ωc s.heap.objs.size), a ∈ l.map (·.1) := fun a ha => by
    rw [← hωc] at ha
    rw [e1]
    obtain ⟨q, hq, rfl⟩ := List.mem_map.mp ha
    obtain ⟨r, hr, rfl⟩ := List.mem_map.mp hq
    exact List.mem_map_of_mem hr
  have W₁ : Wd (actv c (envX qual scope s.heap.objs.size f cdv (cellsFrom (s.heap.objs.size + 1) scope.names [])) oL s.heap.objs.size) (envX qual scope s.heap.objs.size f cdv (cellsFrom (s.heap.objs.size + 1) scope.names [])) I₁ ρ (ωc s.heap.objs.size ++ ω)
      (((s.heap.objs.size, oN) :: l) ++ dropL c.L mu) := by
    refine ⟨⟨hk, rfl, rfl, rfl⟩, fun x' av' e => ?_, ⟨oN, _, .head _, nN⟩, fun p hp => ?_, fun p hp => ?_, ?_⟩
    · obtain ⟨h1, h2⟩ := hρ x' av' e
      obtain ⟨v, h3, h4⟩ := bindL_at (k := (envX qual scope s.heap.objs.size f cdv (cellsFrom (s.heap.objs.size + 1) scope.names [])).kindOf) hnd ra (fun _ => none) x' av' h1 h2
      exact ⟨v, ⟨h1, oN, _, .head _, nN, h3⟩, h4.mono le₁⟩
    · rcases List.mem_append.mp hp with hp | hp
      · have hp0 := hp
        rw [← hωc] at hp
        obtain ⟨r, hr, rfl⟩ := List.mem_map.mp hp
        have hka := kc _ (List.mem_map_of_mem hp0)
        obtain ⟨q, hq, e⟩ := List.mem_map.mp hka
        have e : q.1 = r.2 := e
        refine ⟨q.2, .tail _ (List.mem_append_left _ (by rw [← e]; exact hq)), ?_⟩
        obtain ⟨⟨o, ho', hd⟩, _⟩ := hcs r.1 r.2 hr
        have h0 := e2 q hq
        rw [e, ho'] at h0
        have h0 : o = q.2 := Option.some.inj h0
        subst h0
        have nl : (envX qual scope s.heap.objs.size f cdv (cellsFrom (s.heap.objs.size + 1) scope.names [])).kindOf r.1 ≠ some .local := by
          have m0 : r.1 ∈ (cellsFrom 0 scope.names []).map (·.1) := by rw [← names (s.heap.objs.size + 1)]; exact List.mem_map_of_mem hr
          obtain ⟨z, hz, ez⟩ := List.mem_map.mp m0
          rw [← ez]
          exact hnl z hz
        have z := bindC_at hnd ra (fun _ => none) r.1 nl
        split at z <;> rename_i hq'
        · obtain ⟨v, z1, z2⟩ := z
          simp only [hq']
          exact ⟨v, by rw [hd, z1], z2.mono le₁⟩
        · simp only [hq']
          show _ = _
          rw [hd, z]
      · obtain ⟨o, h1, h2⟩ := own p hp
        exact ⟨o, List.mem_append_right _ (dropL_mem.mpr ⟨h1, nkL _ (List.mem_map_of_mem hp)⟩), h2.mono le₁⟩
    · rcases List.mem_append.mp hp with hp | hp
      · have := Nat.ne_of_gt (lgt _ (kc _ (List.mem_map_of_mem hp)))
        exact ⟨this, this⟩
      · have : p.1 ≠ s.heap.objs.size := fun e => nk _ (List.mem_map_of_mem hp) (by rw [e]; exact hfr)
        exact ⟨this, this⟩
    · rw [show keys (ωc s.heap.objs.size ++ ω) = keys (ωc s.heap.objs.size) ++ keys ω from List.map_append]
      refine List.nodup_append.mpr ⟨?_, nd, fun a ha b hb e => ?_⟩
      · rw [← hωc]
        unfold keys
        rw [List.map_map]
        exact List.pairwise_map.mpr x.apart
      · subst e
        exact nk _ hb (Heap.get?_none_of_le (Nat.le_of_lt (lgt _ (kc _ ha))))
  exact body_done hc X hL dL rfl (.head _) (.head _) (fun p hp => (new1 p hp).2) (fun a ha => .tail _ (kc a ha)) le₁ X₁ W₁ (h _ _ ok₁ rfl) k1 k2
end Mine
set_option Elab.async false
set_option maxRecDepth 100000
set_option linter.unusedVariables false
namespace Mine
open PySem PySem.W PySem.Calls PyProof.Rows PySem.Spec PyProof.Rows.LCg

section
variable {c : Cx} {env : Env} {ρ : Vs} {ω ω₁ ω₂ ω₃ ωf ωf' rest : Os}

theorem keys_append (a b : Os) : keys (a ++ b) = keys a ++ keys b := List.map_append

/-- after a call of something that took a part of what is owned -/
theorem go_call {I I' : Heap} {mu mu' : Led} {s' : Shared} (W : Wd c env I ρ ω₂ mu) (kL : ∃ o, (c.L, o) ∈ mu) (hp : ω₂.Perm (ωf ++ rest)) (hp' : (ωf' ++ rest).Perm ω₃)
    (X' : S c I' mu' s') (le : HLe I I') (fp : Fp c (In ωf) mu mu') (nw : Nw ωf ωf' mu) (own' : Own c.w I' ωf' mu') (nd' : (keys ωf').Nodup) : Go c env ρ ω₂ ω₃ I mu I' mu' s' := by
  have kp : (keys ω₂).Perm (keys ωf ++ keys rest) := by
    have := hp.map (fun q : Addr × AO => q.1)
    rw [List.map_append] at this
    exact this
  have kp' : (keys ωf' ++ keys rest).Perm (keys ω₃) := by
    have := hp'.map (fun q : Addr × AO => q.1)
    rw [List.map_append] at this
    exact this
  have nd2 := (kp.nodup_iff).mp W.nd
  obtain ⟨nf, nr, nfr⟩ := List.nodup_append.mp nd2
  have inF : ∀ a, a ∈ keys ωf → a ∈ keys ω₂ := fun a h => kp.mem_iff.mpr (List.mem_append_left _ h)
  have rmu : ∀ q ∈ rest, ∃ o, (q.1, o) ∈ mu ∧ Ro c.w I o q.2 := fun q hq => W.own q (hp.mem_iff.mpr (List.mem_append_right _ hq))
  have nrf : ∀ q ∈ rest, q.1 ∉ keys ωf := fun q hq h => nfr _ h _ (List.mem_map_of_mem (f := Prod.fst) hq) rfl
  have nrL : ∀ q ∈ rest, q.1 ≠ c.L := fun q hq => (W.sep q (hp.mem_iff.mpr (List.mem_append_right _ hq))).2
  have nw2 : Nw ω₂ ω₃ mu := fun a ha => by
    rcases List.mem_append.mp (kp'.mem_iff.mpr ha) with h | h
    · exact (nw a h).imp (inF a) id
    · exact .inl (kp.mem_iff.mpr (List.mem_append_right _ h))
  have fp2 : Fp c (In ω₂) mu mu' := fp.mono inF
  refine ⟨X', le, fp2, nw2, W.step le fp (fun h => W.notIn (inF _ h)) (fun q hq => ?_) nw2 ?_ kL⟩
  · rcases List.mem_append.mp (hp'.mem_iff.mpr hq) with h | h
    · exact own' q h
    · obtain ⟨o, h1, h2⟩ := rmu q h
      exact ⟨o, fp.other _ h1 (nrf q h) (nrL q h), h2.mono le⟩
  · refine (kp'.nodup_iff).mp (List.nodup_append.mpr ⟨nd', nr, fun a ha b hb e => ?_⟩)
    subst e
    obtain ⟨q, hq, rfl⟩ := List.mem_map.mp hb
    rcases nw _ ha with h | h
    · exact nrf q hq h
    · obtain ⟨o, h1, _⟩ := rmu q hq
      exact h (List.mem_map_of_mem (f := Prod.fst) h1)

theorem own_part {I : Heap} {mu : Led} (W : Wd c env I ρ ω₂ mu) (hp : ω₂.Perm (ωf ++ rest)) : Own c.w I ωf mu ∧ (keys ωf).Nodup ∧ c.L ∉ keys ωf := by
  have kp : (keys ω₂).Perm (keys ωf ++ keys rest) := by
    have := hp.map (fun q : Addr × AO => q.1)
    rw [List.map_append] at this
    exact this
  refine ⟨fun q hq => W.own q (hp.mem_iff.mpr (List.mem_append_left _ hq)), (List.nodup_append.mp ((kp.nodup_iff).mp W.nd)).1, fun h => ?_⟩
  obtain ⟨q, hq, e⟩ := List.mem_map.mp h
  exact (W.sep q (hp.mem_iff.mpr (List.mem_append_left _ hq))).2 e

theorem wp_cs {I : Heap} {mu : Led} {s : Shared} {Q : Value → Shared → Prop} {E : Value → Shared → Prop} {lv f : Nat} {avs : List AV} {Φ : Os → Oc → Prop} {Φ' : Os → Oc → Prop} {vals : List Value} (hc : c.Ok lv) (X : S c I mu s) (W : Wd c env I ρ ω₂ mu)
    (hs : CV lv f avs ωf Φ) (hp : ω₂.Perm (ωf ++ rest)) (hp' : ∀ ωf' a, Φ ωf' a → ∃ ω₃, (ωf' ++ rest).Perm ω₃ ∧ Φ' ω₃ a) (ra : All2 (Rv I) vals avs)
    (h : KE c env ρ ω₂ I mu Φ' Q E) : wpAny (model prg c.w) c.A (call (.ref f) vals) Q E s := by
  obtain ⟨o1, o2, o3⟩ := own_part W hp
  refine wpAny_call (hs c I mu s vals _ hc X o1 o2 o3 ra (fun v av ω' s' I' mu' A r p => ?_) fun e C ω' s' I' mu' A x p => ?_)
  · obtain ⟨ω₃, q1, q2⟩ := hp' _ _ p
    exact h.on v av ω₃ s' I' mu' (go_call W X.kL hp q1 A.st A.le A.fp A.nw A.own A.nd) r q2
  · obtain ⟨ω₃, q1, q2⟩ := hp' _ _ p
    exact h.up e C ω₃ s' I' mu' (go_call W X.kL hp q1 A.st A.le A.fp A.nw A.own A.nd) x q2

theorem TV.callF {fe : Expr} {es : List Expr} {p : Pos} {lv f : Nat} {avs : List AV} {Φ Φ' : Os → Oc → Prop} (hc : c.Ok lv) (hf : TE c env ρ ω fe ω₁ (vR f)) (ha : TEs c env ρ ω₁ es ω₂ avs) (hk : keepIn (KK c.w) (.ref f) = true)
    (hs : CV lv f avs ωf Φ) (hp : ω₂.Perm (ωf ++ rest)) (hp' : ∀ ωf' a, Φ ωf' a → ∃ ω₃, (ωf' ++ rest).Perm ω₃ ∧ Φ' ω₃ a)
    (hne : ∃ e r, es = e :: r ∧ starEach es env = (false, eval e env) :: starEach r env ∧ ∀ q, (backTo q (starEach r env)).any (·.1) = false := by exact ⟨_, _, rfl, rfl, fun _ => rfl⟩)
    (he : eval (.Call fe es [] p) env = (do callWith p (← eval fe env) [] (backTo p (starEach es env)) (backToKw p (keywordEach [] env))) := by rfl) :
    TV c env ρ ω (.Call fe es [] p) Φ' := fun I mu s Q E X W q => by
  obtain ⟨e, r, rfl, h1, h2⟩ := hne
  refine Call_ (hf I mu s _ _ X W fun v s₁ I₁ mu₁ g₁ r₁ => ?_) he
  have r₁ : v = .ref f := r₁
  subst r₁
  refine callWith_K (K := KK c.w) (g₁.st.kin hc) hk (ha p _ _ _ _ _ g₁.st g₁.wd fun vs s₂ I₂ mu₂ g₂ r₂ => ⟨g₂.st.kin hc, ?_⟩) h1 (h2 p)
  exact wp_cs hc g₂.st g₂.wd hs hp hp' r₂ (q.after (g₁.trans g₂))
theorem TV.callF0 {fe : Expr} {p : Pos} {lv f : Nat} {Φ Φ' : Os → Oc → Prop} (hc : c.Ok lv) (hf : TE c env ρ ω fe ω₂ (vR f)) (hk : keepIn (KK c.w) (.ref f) = true)
    (hs : CV lv f [] ωf Φ) (hp : ω₂.Perm (ωf ++ rest)) (hp' : ∀ ωf' a, Φ ωf' a → ∃ ω₃, (ωf' ++ rest).Perm ω₃ ∧ Φ' ω₃ a)
    (he : eval (.Call fe [] [] p) env = (do callWith p (← eval fe env) [] (backTo p (starEach [] env)) (backToKw p (keywordEach [] env))) := by rfl) :
    TV c env ρ ω (.Call fe [] [] p) Φ' := fun I mu s Q E X W q => by
  refine Call_ (hf I mu s _ _ X W fun v s₁ I₁ mu₁ g₁ r₁ => ?_) he
  have r₁ : v = .ref f := r₁
  subst r₁
  exact callWith_K0 (K := KK c.w) (g₁.st.kin hc) hk (wp_cs hc g₁.st g₁.wd hs hp hp' .nil (q.after g₁))

/-- a method of an object of an own class -/
theorem wp_method {I : Heap} {mu : Led} {s : Shared} {Q : Value × List Value → Shared → Prop} {E : Value → Shared → Prop} {lv f g dx C n : Nat} {fs : List (Str × AV)} {x : Str} {pl : Sem Bool} (hc : c.Ok lv) (X : S c I mu s) (W : Wd c env I ρ ω₂ mu)
    (hg : (g, AO.raw (instObj C dx)) ∈ ω₂) (hd : (dx, AO.ns n fs) ∈ ω₂) (hl : fs.lookup x = none) (hm : metIn (KK c.w) C x f = true) (h : Q (.ref f, [.ref g]) s) : wpAny (model prg c.w) c.A (getMethod (.ref g) x pl) Q E s := by
  obtain ⟨es, ep, IA, -, -, k4, k5⟩ := inst_at X W hg hd
  have z := k5 x
  rw [hl] at z
  obtain ⟨hm, hm3⟩ := Bool.and_eq_true_iff.mp hm
  obtain ⟨hm1, hm2⟩ := Bool.and_eq_true_iff.mp hm
  exact method_fn (X.kin hc) IA (plainGet_of hm1).1 (plainGet_of hm1).2 (beq_iff_eq.mp hm2) (beq_iff_eq.mp hm3) (by show (lookIn x _).map _ = _; rw [nsFind_lookIn rfl k4, z]; rfl) h

theorem TV.callM {o : Expr} {x : Str} {ap p : Pos} {es : List Expr} {lv f g dx C n : Nat} {fs : List (Str × AV)} {avs : List AV} {Φ Φ' : Os → Oc → Prop} {pl : Sem Bool} (hc : c.Ok lv) (ho : TE c env ρ ω o ω₁ (vR g)) (hg : (g, AO.raw (instObj C dx)) ∈ ω₁) (hd : (dx, AO.ns n fs) ∈ ω₁)
    (hl : fs.lookup x = none) (hm : metIn (KK c.w) C x f = true) (hk : keepIn (KK c.w) (.ref f) = true) (ha : TEs c env ρ ω₁ es ω₂ avs) (hs : CV lv f (vR g :: avs) ωf Φ) (hp : ω₂.Perm (ωf ++ rest)) (hp' : ∀ ωf' a, Φ ωf' a → ∃ ω₃, (ωf' ++ rest).Perm ω₃ ∧ Φ' ω₃ a)
    (hne : ∃ e r, es = e :: r ∧ starEach es env = (false, eval e env) :: starEach r env ∧ ∀ q, (backTo q (starEach r env)).any (·.1) = false := by exact ⟨_, _, rfl, rfl, fun _ => rfl⟩)
    (he : eval (.Call (.Attribute o x ap) es [] p) env = (do
      let ov ← eval o env
      standAt ap.atName
      let (f, first) ← holding [ov] (getMethod ov x pl)
      callWith p f first (backTo p (starEach es env)) []) := by rfl) :
    TV c env ρ ω (.Call (.Attribute o x ap) es [] p) Φ' := fun I mu s Q E X W q => by
  obtain ⟨e, r, rfl, h1, h2⟩ := hne
  refine MethodCall_ (ho I mu s _ _ X W fun v s₁ I₁ mu₁ g₁ r₁ => ?_) he
  have r₁ : v = .ref g := r₁
  subst r₁
  refine wp_method hc g₁.st g₁.wd hg hd hl hm ?_
  refine callWith_K (K := KK c.w) (g₁.st.kin hc) hk (ha p _ _ _ _ _ g₁.st g₁.wd fun vs s₂ I₂ mu₂ g₂ r₂ => ⟨g₂.st.kin hc, ?_⟩) h1 (h2 p)
  exact wp_cs hc g₂.st g₂.wd hs hp hp' (.cons rfl r₂) (q.after (g₁.trans g₂))
theorem TV.callM0 {o : Expr} {x : Str} {ap p : Pos} {lv f g dx C n : Nat} {fs : List (Str × AV)} {Φ Φ' : Os → Oc → Prop} {pl : Sem Bool} (hc : c.Ok lv) (ho : TE c env ρ ω o ω₂ (vR g)) (hg : (g, AO.raw (instObj C dx)) ∈ ω₂) (hd : (dx, AO.ns n fs) ∈ ω₂)
    (hl : fs.lookup x = none) (hm : metIn (KK c.w) C x f = true) (hk : keepIn (KK c.w) (.ref f) = true) (hs : CV lv f [vR g] ωf Φ) (hp : ω₂.Perm (ωf ++ rest)) (hp' : ∀ ωf' a, Φ ωf' a → ∃ ω₃, (ωf' ++ rest).Perm ω₃ ∧ Φ' ω₃ a)
    (he : eval (.Call (.Attribute o x ap) [] [] p) env = (do
      let ov ← eval o env
      standAt ap.atName
      let (f, first) ← holding [ov] (getMethod ov x pl)
      callWith p f first (backTo p (starEach [] env)) []) := by rfl) :
    TV c env ρ ω (.Call (.Attribute o x ap) [] [] p) Φ' := fun I mu s Q E X W q => by
  refine MethodCall_ (ho I mu s _ _ X W fun v s₁ I₁ mu₁ g₁ r₁ => ?_) he
  have r₁ : v = .ref g := r₁
  subst r₁
  refine wp_method hc g₁.st g₁.wd hg hd hl hm ?_
  exact callWith_K0 (K := KK c.w) (g₁.st.kin hc) hk (wp_cs hc g₁.st g₁.wd hs hp hp' (.cons rfl .nil) (q.after g₁))

/-- a call whose answer is known -/
theorem ph_to {ωf' ω₃ rest : Os} {av : AV} (hp : (ωf' ++ rest).Perm ω₃) : ∀ o a, Ph ωf' av o a → ∃ ω, (o ++ rest).Perm ω ∧ Ph ω₃ av ω a := fun o a h => by
  obtain ⟨rfl, rfl⟩ := h
  exact ⟨ω₃, hp, rfl, rfl⟩
end
end Mine
set_option Elab.async false
set_option maxRecDepth 100000
set_option linter.unusedVariables false
namespace Mine
open PySem PySem.W PySem.Calls PyProof.Rows PySem.Spec PyProof.Rows.LCg

theorem All2.one {α β : Type} {R : α → β → Prop} {l : List α} {a : β} (h : All2 R l [a]) : ∃ x, l = [x] ∧ R x a := by
  cases h with | cons r t => cases t; exact ⟨_, rfl, r⟩
theorem All2.two {α β : Type} {R : α → β → Prop} {l : List α} {a b : β} (h : All2 R l [a, b]) : ∃ x y, l = [x, y] ∧ R x a ∧ R y b := by
  cases h with | cons r t => obtain ⟨y, rfl, h⟩ := t.one; exact ⟨_, y, rfl, r, h⟩
theorem All2.three {α β : Type} {R : α → β → Prop} {l : List α} {a b c : β} (h : All2 R l [a, b, c]) : ∃ x y z, l = [x, y, z] ∧ R x a ∧ R y b ∧ R z c := by
  cases h with | cons r t => obtain ⟨y, z, rfl, h⟩ := t.two; exact ⟨_, y, z, rfl, r, h⟩

/-! ## dicts -/
structure DK (K : Type) [DecidableEq K] where
  knd : ∀ w, KeyKind prg w K
  ao : List (K × AV) → AO
  ro : ∀ w I o fs, Ro w I o (ao fs) ↔ ∃ kvs, o.IsDictOf (knd w) kvs ∧ All2 (Kv I) kvs fs
  key : K → AV
  isk : ∀ w I v k, Rv I v (key k) → (knd w).is k v = true ∧ (keyPart v).isSome = true
noncomputable def kI : DK Int where
  knd w := intKind prg w
  ao := .idict
  ro := fun _ _ _ _ => Iff.rfl
  key := dI
  isk := fun w I v k r => by obtain ⟨t, rfl⟩ := r.int; exact ⟨intKind_is _ _ _ _, rfl⟩
noncomputable def kS : DK Str where
  knd w := strKind prg w
  ao := .sdict
  ro := fun _ _ _ _ => Iff.rfl
  key := dS
  isk := fun w I v k r => by obtain ⟨t, rfl⟩ := r.str; exact ⟨strKind_is _ _ _ _, rfl⟩

section
variable {K : Type} [DecidableEq K]
noncomputable def getA (fs : List (K × AV)) (k : K) : Option AV := (fs.find? fun kv => decide (kv.1 = k)).map (·.2)
noncomputable def storedA (fs : List (K × AV)) (k : K) (v : AV) : List (K × AV) := if fs.any (fun kv => decide (kv.1 = k)) then fs.map (fun kv => if kv.1 = k then (kv.1, v) else kv) else fs ++ [(k, v)]
noncomputable def withoutA (fs : List (K × AV)) (k : K) : List (K × AV) := fs.filter fun kv => decide (kv.1 ≠ k)
theorem kv_get {I : Heap} : ∀ {kvs : List (K × Value)} {fs : List (K × AV)} {k : K}, All2 (Kv I) kvs fs → match getA fs k with
    | some av => ∃ v, valueAt kvs k = some v ∧ Rv I v av
    | none => valueAt kvs k = none
  | [], [], k, _ => rfl
  | (a, v) :: kvs, (b, av) :: fs, k, .cons ⟨h1, h2⟩ r => by
    have h1 : a = b := h1
    subst h1
    have ih := kv_get (k := k) r
    unfold getA valueAt at ih ⊢
    rw [List.find?_cons, List.find?_cons]
    by_cases e : a = k
    · simp only [e, decide_true]
      exact ⟨v, rfl, h2⟩
    · simp only [e, decide_false]
      exact ih
theorem kv_any {I : Heap} : ∀ {kvs : List (K × Value)} {fs : List (K × AV)} {k : K}, All2 (Kv I) kvs fs → (kvs.any fun kv => decide (kv.1 = k)) = (fs.any fun kv => decide (kv.1 = k))
  | [], [], k, _ => rfl
  | (a, v) :: kvs, (b, av) :: fs, k, .cons ⟨h1, h2⟩ r => by
    have h1 : a = b := h1
    subst h1
    rw [List.any_cons, List.any_cons, kv_any r]
theorem kv_map {I : Heap} {k : K} {v : Value} {av : AV} (hv : Rv I v av) : ∀ {kvs : List (K × Value)} {fs : List (K × AV)}, All2 (Kv I) kvs fs → All2 (Kv I) (kvs.map (fun kv => if kv.1 = k then (kv.1, v) else kv)) (fs.map (fun kv => if kv.1 = k then (kv.1, av) else kv))
  | [], [], _ => .nil
  | (a, x) :: kvs, (b, ax) :: fs, .cons ⟨h1, h2⟩ r => by
    have h1 : a = b := h1
    subst h1
    refine .cons ?_ (kv_map hv r)
    by_cases e : a = k
    · simp only [e, if_true]; exact ⟨rfl, hv⟩
    · simp only [e, if_false]; exact ⟨rfl, h2⟩
theorem kv_stored {I : Heap} {kvs : List (K × Value)} {fs : List (K × AV)} {k : K} {v : Value} {av : AV} (h : All2 (Kv I) kvs fs) (hv : Rv I v av) : All2 (Kv I) (stored kvs k v) (storedA fs k av) := by
  unfold stored storedA
  rw [kv_any h]
  split
  · exact kv_map hv h
  · exact h.append (.cons ⟨rfl, hv⟩ .nil)
theorem kv_without {I : Heap} {k : K} : ∀ {kvs : List (K × Value)} {fs : List (K × AV)}, All2 (Kv I) kvs fs → All2 (Kv I) (without kvs k) (withoutA fs k)
  | [], [], _ => .nil
  | (a, x) :: kvs, (b, ax) :: fs, .cons ⟨h1, h2⟩ r => by
    have h1 : a = b := h1
    subst h1
    have ih := kv_without (k := k) r
    unfold without withoutA at ih ⊢
    rw [List.filter_cons, List.filter_cons]
    by_cases e : a = k
    · simp only [e, ne_eq, not_true, decide_false]; exact ih
    · simp only [e, ne_eq, not_false_eq_true, decide_true, if_true]; exact .cons ⟨rfl, h2⟩ ih
end

section
variable {c : Cx} {env : Env} {ρ ρ₁ ρ₂ : Vs} {ω ω₁ ω₂ ω₃ : Os} {K : Type} [DecidableEq K] {Ψ : Fl → Vs → Os → Prop} {Φ Φ' : Os → Oc → Prop}
/-- such a dict is owned there, exactly known or not -/
noncomputable def HasD (D : DK K) (ω : Os) (d : Addr) (fs : List (K × AV)) : Prop := (d, D.ao fs) ∈ ω ∨ ∃ o, (d, AO.exact o (D.ao fs)) ∈ ω
theorem dict_at {I : Heap} {mu : Led} {s : Shared} {d : Addr} {fs : List (K × AV)} (D : DK K) (X : S c I mu s) (W : Wd c env I ρ ω mu) (h : HasD D ω d fs) :
    ∃ o kvs, (d, o) ∈ mu ∧ s.heap.DictOf (D.knd c.w) d kvs ∧ All2 (Kv I) kvs fs ∧ (d == sysModules) = false := by
  obtain ⟨o, h1, h2⟩ : ∃ o, (d, o) ∈ mu ∧ Ro c.w I o (D.ao fs) := by
    rcases h with h | ⟨o', h⟩
    · exact W.own _ h
    · obtain ⟨o, h1, h2⟩ := W.own _ h
      obtain ⟨e, h2⟩ : o = o' ∧ Ro c.w I o' (D.ao fs) := h2
      exact ⟨o, h1, e ▸ h2⟩
  obtain ⟨kvs, h3, h4⟩ := (D.ro _ _ _ _).mp h2
  exact ⟨o, kvs, h1, Heap.dictOf_iff.mpr ⟨o, X.ow _ h1, h3⟩, h4, beq_eq_false_iff_ne.mpr (Nat.ne_of_gt (X.hi _ h1))⟩
theorem TE.item {value slice : Expr} {p : Pos} {d : Addr} {fs : List (K × AV)} {k : K} {av : AV} (D : DK K) (hv : TE c env ρ ω value ω₁ (vR d)) (hs : TE c env ρ ω₁ slice ω₂ (D.key k)) (hd : HasD D ω₂ d fs) (hk : getA fs k = some av)
    (hsl : ∀ o i, subscripted slice false o i = operate [o, i] (getItem o i) := by intro _ _; rfl) : TE c env ρ ω (.Subscript value slice p) ω₂ av := fun I mu s Q E X W q => by
  refine Subscript_ (hv I mu s _ _ X W fun v s₁ I₁ mu₁ g₁ r₁ => hs _ _ _ _ _ g₁.st g₁.wd fun kv s₂ I₂ mu₂ g₂ r₂ => ?_)
  have r₁ : v = .ref d := r₁
  subst r₁
  obtain ⟨o, kvs, h1, h2, h3, h4⟩ := dict_at D g₂.st g₂.wd hd
  have z := kv_get (k := k) h3
  rw [hk] at z
  obtain ⟨x, z1, z2⟩ := z
  refine subscriptTail_builtinR (x := x) h2.typeIs slot_dict_getitem.lookup (wpAny_getItem_of (D.isk _ _ _ _ r₂).1 h2.mapOf z1 ⟨rfl, ?_⟩) (hsl _ _)
  exact q _ _ _ _ ((g₁.trans g₂).trans (Go.toks g₂.st g₂.wd)) z2

theorem setDict {I : Heap} {mu : Led} {s : Shared} {d : Addr} {fs : List (K × AV)} {k : K} {kv v : Value} {av : AV} {Q : Unit → Shared → Prop} {E : Value → Shared → Prop} (D : DK K) (X : S c I mu s) (W : Wd c env I ρ ω mu) (h : (d, D.ao fs) ∈ ω) (rk : Rv I kv (D.key k)) (rv : Rv I v av) (hz : fs.length ≤ 1000)
    (q : ∀ s' I' mu', Go c env ρ ω (updO d (D.ao (storedA fs k av)) ω) I mu I' mu' s' → Q () s') : wpAny (model prg c.w) c.A (setItem (.ref d) kv v) Q E s := by
  obtain ⟨o, kvs, h1, h2, h3, h4⟩ := dict_at D X W (.inl h)
  refine wpAny_setItem_pairs (hsz := by rw [h3.length]; unfold sizeLine; omega) (D.isk _ _ _ _ rk).1 h2 fun h' hm hs => ?_
  obtain ⟨o', ho', hd'⟩ := Heap.dictOf_iff.mp hm
  have ro : Ro c.w I o' (D.ao (storedA fs k av)) := (D.ro _ _ _ _).mpr ⟨_, hd', kv_stored h3 rv⟩
  have X' := X.upd (tk := s.toks + 1) (dr := s.drawn) h1 hs ho' fun q => absurd q (W.sep _ h).2
  obtain ⟨W', fp, nw⟩ := wd_put W X.kL ⟨o, h1⟩ h ro
  exact q _ _ _ ⟨X', .refl _, fp, nw, W'⟩
theorem TX.setsub {o i value : Expr} {p' p : Pos} {d : Addr} {fs : List (K × AV)} {k : K} {av : AV} (D : DK K) (hv : TE c env ρ ω value ω₁ av) (ho : TE c env ρ ω₁ o ω₂ (vR d)) (hi : TE c env ρ ω₂ i ω₃ (D.key k)) (hd : (d, D.ao fs) ∈ ω₃) (hz : fs.length ≤ 1000)
    (hs : swapsWith value (some (.Subscript o i p')) p.line env = pure false := by rfl) : TX c env ρ ω (.Assign [.Subscript o i p'] value p) (Nx ρ (updO d (D.ao (storedA fs k av)) ω₃)) := fun I mu s Q E X W q => by
  refine wpAny_Assign_Subscript (hv I mu s _ _ X W fun v s₁ I₁ mu₁ g₁ r₁ => ho _ _ _ _ _ g₁.st g₁.wd fun ov s₂ I₂ mu₂ g₂ r₂ => hi _ _ _ _ _ g₂.st g₂.wd fun iv s₃ I₃ mu₃ g₃ r₃ => ?_) hs
  have r₂ : ov = .ref d := r₂
  subst r₂
  exact setDict D g₃.st g₃.wd hd r₃ (r₁.mono (g₂.le.trans g₃.le)) hz fun s' I' mu' g => q.on .next .next _ _ _ _ _ (((g₁.trans g₂).trans g₃).trans g).toS trivial ⟨rfl, rfl, rfl⟩

theorem OpR.inD {d : Addr} {fs : List (K × AV)} (D : DK K) (hd : HasD D ω d fs) (k : K) : OpR c env ρ ω .In (D.key k) (vR d) (getA fs k).isSome := fun I mu s u v Q E X W r1 r2 h => by
  have r2 : v = .ref d := r2
  subst r2
  obtain ⟨o, kvs, h1, h2, h3, h4⟩ := dict_at D X W hd
  refine wpAny_in_of (D.isk _ _ _ _ r1).1 h4 h2.mapOf ?_
  have z := kv_get (k := k) h3
  have e : (valueAt kvs k).isSome = (getA fs k).isSome := by
    split at z <;> rename_i e
    · obtain ⟨x, z1, _⟩ := z
      rw [z1, e]; rfl
    · rw [z, e]; rfl
  rw [e]
  exact h _ _ _ (Go.toks X W)

/-! ## methods of the built-in types -/
noncomputable def CB (c : Cx) (env : Env) (ρ : Vs) (ω : Os) (f : Value) (avs : List AV) (Φ : Os → Oc → Prop) : Prop :=
  ∀ (I : Heap) (mu : Led) (s : Shared) (vals : List Value) (Q : Value → Shared → Prop) (E : Value → Shared → Prop), S c I mu s → Wd c env I ρ ω mu → All2 (Rv I) vals avs → KE c env ρ ω I mu Φ Q E → wpAny (model prg c.w) c.A (call f vals) Q E s
/-- the method of a built-in type, found on an own object -/
noncomputable def GM (c : Cx) (env : Env) (ρ : Vs) (ω : Os) (o : AV) (x : Str) (id : String) : Prop :=
  ∀ (I : Heap) (mu : Led) (s : Shared) (v : Value) (pl : Sem Bool) (Q : Value × List Value → Shared → Prop) (E : Value → Shared → Prop), S c I mu s → Wd c env I ρ ω mu → Rv I v o → Q (.builtin id, [v]) s → wpAny (model prg c.w) c.A (getMethod v x pl) Q E s
theorem TV.bm {o : Expr} {x : Str} {ap p : Pos} {es : List Expr} {id : String} {ao : AV} {avs : List AV} {pl : Sem Bool} (ho : TE c env ρ ω o ω₁ ao) (hm : GM c env ρ ω₁ ao x id) (ha : TEs c env ρ ω₁ es ω₂ avs) (hs : CB c env ρ ω₂ (.builtin id) (ao :: avs) Φ)
    (hne : ∃ e r, es = e :: r ∧ starEach es env = (false, eval e env) :: starEach r env ∧ ∀ q, (backTo q (starEach r env)).any (·.1) = false := by exact ⟨_, _, rfl, rfl, fun _ => rfl⟩)
    (he : eval (.Call (.Attribute o x ap) es [] p) env = (do
      let ov ← eval o env
      standAt ap.atName
      let (f, first) ← holding [ov] (getMethod ov x pl)
      callWith p f first (backTo p (starEach es env)) []) := by rfl) :
    TV c env ρ ω (.Call (.Attribute o x ap) es [] p) Φ := fun I mu s Q E X W q => by
  obtain ⟨e, r, rfl, h1, h2⟩ := hne
  refine MethodCall_ (ho I mu s _ _ X W fun v s₁ I₁ mu₁ g₁ r₁ => ?_) he
  refine hm _ _ _ _ _ _ _ g₁.st g₁.wd r₁ ?_
  exact callWith_method1 (ha p _ _ _ _ _ g₁.st g₁.wd fun vs s₂ I₂ mu₂ g₂ r₂ => hs _ _ _ _ _ _ g₂.st g₂.wd (.cons (r₁.mono g₂.le) r₂) (q.after (g₁.trans g₂))) h1 (h2 p)
theorem TV.bf {fe : Expr} {es : List Expr} {p : Pos} {id : String} {avs : List AV} (hf : TE c env ρ ω fe ω₁ (.v (.builtin id))) (ha : TEs c env ρ ω₁ es ω₂ avs) (hs : CB c env ρ ω₂ (.builtin id) avs Φ)
    (hne : ∃ e r, es = e :: r ∧ starEach es env = (false, eval e env) :: starEach r env ∧ ∀ q, (backTo q (starEach r env)).any (·.1) = false := by exact ⟨_, _, rfl, rfl, fun _ => rfl⟩)
    (he : eval (.Call fe es [] p) env = (do callWith p (← eval fe env) [] (backTo p (starEach es env)) (backToKw p (keywordEach [] env))) := by rfl) :
    TV c env ρ ω (.Call fe es [] p) Φ := fun I mu s Q E X W q => by
  obtain ⟨e, r, rfl, h1, h2⟩ := hne
  refine Call_ (hf I mu s _ _ X W fun v s₁ I₁ mu₁ g₁ r₁ => ?_) he
  have r₁ : v = .builtin id := r₁
  subst r₁
  exact callWith_method1 (first := []) (ha p _ _ _ _ _ g₁.st g₁.wd fun vs s₂ I₂ mu₂ g₂ r₂ => hs _ _ _ _ _ _ g₂.st g₂.wd r₂ (q.after (g₁.trans g₂))) h1 (h2 p)
theorem TV.bt {fe : Expr} {es : List Expr} {p : Pos} {T : String} {avs : List AV} (hf : TE c env ρ ω fe ω₁ (.v (.type T))) (ha : TEs c env ρ ω₁ es ω₂ avs) (hs : CB c env ρ ω₂ (.type T) avs Φ)
    (hne : ∃ e r, es = e :: r ∧ starEach es env = (false, eval e env) :: starEach r env ∧ ∀ q, (backTo q (starEach r env)).any (·.1) = false := by exact ⟨_, _, rfl, rfl, fun _ => rfl⟩)
    (he : eval (.Call fe es [] p) env = (do callWith p (← eval fe env) [] (backTo p (starEach es env)) (backToKw p (keywordEach [] env))) := by rfl) :
    TV c env ρ ω (.Call fe es [] p) Φ := fun I mu s Q E X W q => by
  obtain ⟨e, r, rfl, h1, h2⟩ := hne
  refine Call_ (hf I mu s _ _ X W fun v s₁ I₁ mu₁ g₁ r₁ => ?_) he
  have r₁ : v = .type T := r₁
  subst r₁
  have z : wpAny (model prg c.w) c.A (spliced (backTo p (starEach (e :: r) env))) (fun vs s₂ => wpAny (model prg c.w) c.A (call (.type T) vs) Q E s₂) E s₁ :=
    ha p _ _ _ _ _ g₁.st g₁.wd fun vs s₂ I₂ mu₂ g₂ r₂ => hs _ _ _ _ _ _ g₂.st g₂.wd r₂ (q.after (g₁.trans g₂))
  rw [h1] at z ⊢
  exact PyProof.Rows.callWith_type (by show (false || (backTo p (starEach r env)).any (·.1)) = false; rw [h2 p]; rfl) (evalArgs_plain z)

theorem GM.dict {d : Addr} {fs : List (K × AV)} {x : Str} {id : String} (D : DK K) (hd : HasD D ω d fs) (slot : Slot "dict" x id) (ty : typeOf (.builtin id) = pure (.type "method_descriptor")) : GM c env ρ ω (vR d) x id := fun I mu s v pl Q E X W r q => by
  have r : v = .ref d := r
  subst r
  obtain ⟨o, kvs, h1, h2, h3, h4⟩ := dict_at D X W hd
  exact getMethod_builtin h2.typeIs PySem.F.plainAttrs_dict slot ty h2.mapOf.noDict q
theorem CB.get2 {d : Addr} {fs : List (K × AV)} {k : K} {dv : AV} (D : DK K) (hd : HasD D ω d fs) (hp : Φ ω (.val ((getA fs k).getD dv))) : CB c env ρ ω (.builtin "dict.get") [vR d, D.key k, dv] Φ := fun I mu s vals Q E X W r q => by
  obtain ⟨v1, v2, v3, rfl, r1, r2, r3⟩ := r.three
  have r1 : v1 = .ref d := r1
  subst r1
  obtain ⟨o, kvs, h1, h2, h3, h4⟩ := dict_at D X W hd
  refine call_meetsIn PySem.F.slot_dict_get h2.typeIs PySem.F.entry_dict_get (PySem.F.args_dict_get_3 _ _ _) (meets_dict_get_default (D.knd c.w) d (D.isk _ _ _ _ r2).1 h4 v3) ⟨_, h2.mapOf, ?_⟩
  have z := kv_get (k := k) h3
  refine q.on _ _ _ _ _ _ (Go.toks X W) ?_ hp
  split at z <;> rename_i e
  · obtain ⟨x, z1, z2⟩ := z
    rw [z1, e]; exact z2
  · rw [z, e]; exact r3
theorem CB.pop {d : Addr} {fs : List (K × AV)} {k : K} {av : AV} (D : DK K) (hd : (d, D.ao fs) ∈ ω) (hk : getA fs k = some av) (hz : fs.length ≤ 1000) (hp : Φ (updO d (D.ao (withoutA fs k)) ω) (.val av)) : CB c env ρ ω (.builtin "dict.pop") [vR d, D.key k] Φ := fun I mu s vals Q E X W r q => by
  obtain ⟨v1, v2, rfl, r1, r2⟩ := r.two
  have r1 : v1 = .ref d := r1
  subst r1
  obtain ⟨o, kvs, h1, h2, h3, h4⟩ := dict_at D X W (.inl hd)
  have z := kv_get (k := k) h3
  rw [hk] at z
  obtain ⟨x, z1, z2⟩ := z
  refine call_meetsIn PySem.F.slot_dict_pop h2.typeIs PySem.F.entry_dict_pop (PySem.F.args_dict_pop_2 _ _) (meets_dict_pop_there (D.knd c.w) d (D.isk _ _ _ _ r2).1 [] (.inl rfl) (D.isk c.w _ _ _ r2).2) ⟨kvs, x, h2, by rw [h3.length]; unfold sizeLine; omega, z1, fun h' hm hs => ?_⟩
  obtain ⟨o', ho', hd'⟩ := Heap.dictOf_iff.mp hm
  have ro : Ro c.w I o' (D.ao (withoutA fs k)) := (D.ro _ _ _ _).mpr ⟨_, hd', kv_without h3⟩
  have X' := X.upd (tk := s.toks + 1) (dr := s.drawn) h1 hs ho' fun q => absurd q (W.sep _ hd).2
  obtain ⟨W', fp, nw⟩ := wd_put W X.kL ⟨o, h1⟩ hd ro
  exact q.on _ _ _ _ _ _ ⟨X', .refl _, fp, nw, W'⟩ z2 hp
end
end Mine
set_option Elab.async false
set_option maxRecDepth 100000
set_option linter.unusedVariables false
namespace Mine
open PySem PySem.W PySem.Calls PyProof.Rows PySem.Spec PyProof.Rows.LCg

section
variable {c : Cx} {env : Env} {ρ ρ₁ ρ₂ ρ' : Vs} {ω ω₁ ω₂ ω₃ ωb ωb' rest ω' : Os} {Ψ Ψ' : Fl → Vs → Os → Prop} {Φ Φ' : Os → Oc → Prop}

/-! ## frames -/
theorem Wd.part {I : Heap} {mu : Led} (W : Wd c env I ρ ω mu) (hp : ω.Perm (ωb ++ rest)) : Wd c env I ρ ωb mu := by
  obtain ⟨o1, o2, o3⟩ := own_part W hp
  exact ⟨W.ok, W.vars, W.loc, o1, fun q hq => W.sep q (hp.mem_iff.mpr (List.mem_append_left _ hq)), o2⟩
theorem GoS.frame {I I' : Heap} {mu mu' : Led} {s s' : Shared} (g : GoS c env ωb ρ' ωb' I mu I' mu' s') (W : Wd c env I ρ ω mu) (X : S c I mu s) (hp : ω.Perm (ωb ++ rest)) (hp' : (ωb' ++ rest).Perm ω') : GoS c env ω ρ' ω' I mu I' mu' s' := by
  have kp : (keys ω).Perm (keys ωb ++ keys rest) := by
    have := hp.map (fun q : Addr × AO => q.1)
    rw [List.map_append] at this
    exact this
  have kp' : (keys ωb' ++ keys rest).Perm (keys ω') := by
    have := hp'.map (fun q : Addr × AO => q.1)
    rw [List.map_append] at this
    exact this
  have nd2 := (kp.nodup_iff).mp W.nd
  obtain ⟨nf, nr, nfr⟩ := List.nodup_append.mp nd2
  have inF : ∀ a, a ∈ keys ωb → a ∈ keys ω := fun a h => kp.mem_iff.mpr (List.mem_append_left _ h)
  have rin : ∀ q ∈ rest, q ∈ ω := fun q hq => hp.mem_iff.mpr (List.mem_append_right _ hq)
  have rmu : ∀ q ∈ rest, ∃ o, (q.1, o) ∈ mu ∧ Ro c.w I o q.2 := fun q hq => W.own q (rin q hq)
  have nrf : ∀ q ∈ rest, q.1 ∉ keys ωb := fun q hq h => nfr _ h _ (List.mem_map_of_mem (f := Prod.fst) hq) rfl
  refine ⟨g.st, g.le, g.fp.mono fun a h => h.imp (inF a) id, fun a ha => ?_, ⟨g.wd.ok, g.wd.vars, g.wd.loc, fun q hq => ?_, fun q hq => ?_, ?_⟩⟩
  · rcases List.mem_append.mp (kp'.mem_iff.mpr ha) with h | h
    · exact (g.nw a h).imp (inF a) id
    · exact .inl (kp.mem_iff.mpr (List.mem_append_right _ h))
  · rcases List.mem_append.mp (hp'.mem_iff.mpr hq) with h | h
    · exact g.wd.own q h
    · obtain ⟨o, h1, h2⟩ := rmu q h
      refine ⟨o, g.fp.other _ h1 (fun e => ?_) (W.sep q (rin q h)).2, h2.mono g.le⟩
      rcases e with e | e
      · exact nrf q h e
      · exact (W.sep q (rin q h)).1 e
  · rcases List.mem_append.mp (hp'.mem_iff.mpr hq) with h | h
    · exact g.wd.sep q h
    · exact W.sep q (rin q h)
  · refine (kp'.nodup_iff).mp (List.nodup_append.mpr ⟨g.wd.nd, nr, fun a ha b hb e => ?_⟩)
    subst e
    obtain ⟨q, hq, rfl⟩ := List.mem_map.mp hb
    rcases g.nw _ ha with h | h
    · exact nrf q hq h
    · obtain ⟨o, h1, _⟩ := rmu q hq
      exact h (List.mem_map_of_mem (f := Prod.fst) h1)
theorem Go.frame {I I' : Heap} {mu mu' : Led} {s s' : Shared} (g : Go c env ρ ωb ωb' I mu I' mu' s') (W : Wd c env I ρ ω mu) (X : S c I mu s) (hp : ω.Perm (ωb ++ rest)) (hp' : (ωb' ++ rest).Perm ω') : Go c env ρ ω ω' I mu I' mu' s' := by
  have z := g.toS.frame W X hp hp'
  refine ⟨z.st, z.le, g.fp.mono fun a h => ?_, z.nw, z.wd⟩
  obtain ⟨q, hq, rfl⟩ := List.mem_map.mp h
  exact List.mem_map_of_mem (hp.mem_iff.mpr (List.mem_append_left _ hq))
theorem TE.frame {e : Expr} {av : AV} (h : TE c env ρ ωb e ωb' av) (hp : ω.Perm (ωb ++ rest)) (hp' : (ωb' ++ rest).Perm ω') : TE c env ρ ω e ω' av := fun I mu s Q E X W k =>
  h I mu s Q E X (W.part hp) fun v s' I' mu' g r => k _ _ _ _ (g.frame W X hp hp') r
theorem TT.frame {e : Expr} {b : Bool} (h : TT c env ρ ωb e ωb' b) (hp : ω.Perm (ωb ++ rest)) (hp' : (ωb' ++ rest).Perm ω') : TT c env ρ ω e ω' b := fun I mu s Q E X W k =>
  h I mu s Q E X (W.part hp) fun s' I' mu' g => k _ _ _ (g.frame W X hp hp')
theorem TV.frame {e : Expr} (h : TV c env ρ ωb e Φ) (hp : ω.Perm (ωb ++ rest)) (hp' : ∀ o a, Φ o a → ∃ o', (o ++ rest).Perm o' ∧ Φ' o' a) : TV c env ρ ω e Φ' := fun I mu s Q E X W k =>
  h I mu s Q E X (W.part hp) ⟨fun v av ω' s' I' mu' g r p => by
    obtain ⟨o', q1, q2⟩ := hp' _ _ p
    exact k.on _ _ _ _ _ _ (g.frame W X hp q1) r q2, fun e C ω' s' I' mu' g x p => by
    obtain ⟨o', q1, q2⟩ := hp' _ _ p
    exact k.up _ _ _ _ _ _ (g.frame W X hp q1) x q2⟩
theorem TX.frame {st : Stmt} (h : TX c env ρ ωb st Ψ) (hp : ω.Perm (ωb ++ rest)) (hp' : ∀ f r o, Ψ f r o → ∃ o', (o ++ rest).Perm o' ∧ Ψ' f r o') : TX c env ρ ω st Ψ' := fun I mu s Q E X W k =>
  h I mu s Q E X (W.part hp) ⟨fun f fl ρ' ω' s' I' mu' g r p => by
    obtain ⟨o', q1, q2⟩ := hp' _ _ _ p
    exact k.on _ _ _ _ _ _ _ (g.frame W X hp q1) r q2, fun e C ρ' ω' s' I' mu' g x p => by
    obtain ⟨o', q1, q2⟩ := hp' _ _ _ p
    exact k.up _ _ _ _ _ _ _ (g.frame W X hp q1) x q2⟩
theorem TS.frame {st : List Stmt} (h : TS c env ρ ωb st Ψ) (hp : ω.Perm (ωb ++ rest)) (hp' : ∀ f r o, Ψ f r o → ∃ o', (o ++ rest).Perm o' ∧ Ψ' f r o') : TS c env ρ ω st Ψ' := fun I mu s Q E X W k =>
  h I mu s Q E X (W.part hp) ⟨fun f fl ρ' ω' s' I' mu' g r p => by
    obtain ⟨o', q1, q2⟩ := hp' _ _ _ p
    exact k.on _ _ _ _ _ _ _ (g.frame W X hp q1) r q2, fun e C ρ' ω' s' I' mu' g x p => by
    obtain ⟨o', q1, q2⟩ := hp' _ _ _ p
    exact k.up _ _ _ _ _ _ _ (g.frame W X hp q1) x q2⟩

/-! ## what is walked over -/
noncomputable def Fine (I : Heap) (mu : Led) (ω : Os) (it : Addr) (fp : List Addr) : Prop := ∀ b ∈ fp, b = it ∨ (∃ o, I.get? b = some o) ∨ (∃ o a, (b, o) ∈ mu ∧ (b, AO.exact o a) ∈ ω)
structure Srd (c : Cx) (I : Heap) (it : Addr) (fp : List Addr) (P : Nat → Value → Prop) (St : Nat → Heap → Prop) (as : List AV) : Prop where
  W : ∀ A : Around, A.handled = none → Walks prg c.w A it fp [it] as.length P St
  vals : ∀ i v, P i v → ∃ a, as[i]? = some a ∧ Rv I v a
  there : ∀ i h, St i h → ∃ o, h.get? it = some o
  lg : ∀ i (s : Shared) target v (Q : Unit → Shared → Prop) (A : Around) (E : Value → Shared → Prop), St i s.heap → Q () s → wpAny (model prg c.w) A (letOwnedTupleGo target (.ref it) v) Q E s
noncomputable def SRC (c : Cx) (env : Env) (ρ : Vs) (ω : Os) (av : AV) (as : List AV) : Prop :=
  ∀ (I : Heap) (mu : Led) (s : Shared) (v : Value) (A : Around) (Q : Value → Shared → Prop) (E : Value → Shared → Prop), A.handled = none → S c I mu s → Wd c env I ρ ω mu → Rv I v av →
    (∀ it oi fp P St tk h' I', S c I' ((it, oi) :: mu) { s with heap := h', toks := tk } → HLe s.heap h' → s.heap.get? it = none → HLe I I' → Srd c I' it fp P St as → St 0 h' → Fine I' mu ω it fp → Q (.ref it) { s with heap := h', toks := tk }) →
    wpAny (model prg c.w) A (pyIter v) Q E s

theorem src_push {I : Heap} {mu : Led} {s : Shared} {oi : Obj} {lv : Nat} (hc : c.Ok lv) (X : S c I mu s) (hf : oi.isFreed = false) : S c (imm c ((s.heap.objs.size, oi) :: mu) (s.heap.push oi)) ((s.heap.objs.size, oi) :: mu) { s with heap := s.heap.push oi } ∧ HLe I (imm c ((s.heap.objs.size, oi) :: mu) (s.heap.push oi)) :=
  X.own (tk := s.toks) (dr := s.drawn) (HLe.push s.heap oi) (Heap.get?_push_size _ hf) (Heap.get?_none_of_le (Nat.le_refl _)) (X.big hc)
theorem walks_len {w : World} {A : Around} {I : Addr} {fp wr : List Addr} {n m : Nat} {P : Nat → Value → Prop} {St : Nat → Heap → Prop} (e : n = m) (W : Walks prg w A I fp wr n P St) : Walks prg w A I fp wr m P St := e ▸ W
theorem letGo_any {w : World} {A : Around} {E : Value → Shared → Prop} {target : Expr} {I : Addr} {o : Obj} {T : String} {vs : Array Value} {v : Value} {Q' : Unit → Shared → Prop} {s' : Shared} (ho : s'.heap.get? I = some o) (hc : o.cls = .type T) (hd : o.data = .fields vs)
    (hT : ["enumerate", "zip", "dict_itemiterator", "dict_reverseitemiterator", "odict_iterator", "itertools.zip_longest", "itertools.pairwise"].contains T = false) (h : Q' () s') :
    wpAny (model prg w) A (letOwnedTupleGo target (.ref I) v) Q' E s' := by
  unfold letOwnedTupleGo
  cases target <;> first
    | exact wpAny_pure h
    | (cases v <;> first
        | exact wpAny_pure h
        | (refine wpAny_bind (wpAny_load ho ?_)
           rw [hc, hd]
           dsimp only
           rw [hT, Bool.false_and]
           exact wpAny_pure h))

/-- a list, as it stands: its values, and where it is -/
theorem src_list {lv : Nat} {I : Heap} {mu : Led} {s : Shared} {A : Around} {l : Addr} {vs : Array Value} {as : List AV} {Q : Value → Shared → Prop} {E : Value → Shared → Prop} (hc : c.Ok lv) (hh : A.handled = none) (X : S c I mu s) (hl : s.heap.IsList l vs) (r : All2 (Rv I) vs.toList as)
    (hfine : (∃ o, I.get? l = some o) ∨ ∃ o a, (l, o) ∈ mu ∧ (l, AO.exact o a) ∈ ω)
    (k : ∀ it oi fp P St tk h' I', S c I' ((it, oi) :: mu) { s with heap := h', toks := tk } → HLe s.heap h' → s.heap.get? it = none → HLe I I' → Srd c I' it fp P St as → St 0 h' → Fine I' mu ω it fp → Q (.ref it) { s with heap := h', toks := tk }) :
    wpAny (model prg c.w) A (pyIter (.ref l)) Q E s := by
  refine wpAny_pyIter_list hl ?_
  obtain ⟨X', le⟩ := src_push (oi := { cls := .type "list_iterator", data := .fields #[.ref l, .int 0 0] }) hc X rfl
  have hne : l ≠ s.heap.objs.size := by obtain ⟨o, ho, _⟩ := hl; exact Nat.ne_of_lt (Heap.lt_size ho)
  have hlen : vs.size = as.length := by rw [← r.length, Array.length_toList]
  refine k s.heap.objs.size _ _ _ _ s.toks _ _ X' (HLe.push _ _) (Heap.get?_none_of_le (Nat.le_refl _)) le ⟨fun A' h' => walks_len hlen <| Walks.list h' s.heap.objs.size l hne vs, fun i v h => ?_, fun i h st => let ⟨o, ho, _⟩ := st.1; ⟨o, ho⟩, fun i s' t v Q A E st h => let ⟨o, ho, h1, h2⟩ := st.1; letGo_any ho h1 h2 (by decide) h⟩
    ⟨⟨_, Heap.get?_push_size _ rfl, rfl, rfl⟩, hl.extBut (Heap.ExtBut.push (Heap.ExtBut.refl s.heap.objs.size s.heap) _) hne⟩ (fun b hb => ?_)
  · have h : vs[i]? = some v := h
    obtain ⟨a, h1, h2⟩ := r.get (i := i) (a := v) (by rw [Array.getElem?_toList]; exact h)
    exact ⟨a, h1, h2.mono le⟩
  · rcases List.mem_cons.mp hb with rfl | hb
    · exact .inl rfl
    · rw [List.mem_singleton.mp hb]
      rcases hfine with ⟨o, h⟩ | h
      · exact .inr (.inl ⟨o, le _ _ h⟩)
      · exact .inr (.inr h)
theorem src_tuple {lv : Nat} {I : Heap} {mu : Led} {s : Shared} {A : Around} {l : Addr} {vs : Array Value} {as : List AV} {Q : Value → Shared → Prop} {E : Value → Shared → Prop} (hc : c.Ok lv) (hh : A.handled = none) (X : S c I mu s) (hl : s.heap.IsTuple l vs) (r : All2 (Rv I) vs.toList as)
    (hfine : (∃ o, I.get? l = some o) ∨ ∃ o a, (l, o) ∈ mu ∧ (l, AO.exact o a) ∈ ω)
    (k : ∀ it oi fp P St tk h' I', S c I' ((it, oi) :: mu) { s with heap := h', toks := tk } → HLe s.heap h' → s.heap.get? it = none → HLe I I' → Srd c I' it fp P St as → St 0 h' → Fine I' mu ω it fp → Q (.ref it) { s with heap := h', toks := tk }) :
    wpAny (model prg c.w) A (pyIter (.ref l)) Q E s := by
  refine wpAny_pyIter_tuple hl ?_
  obtain ⟨X', le⟩ := src_push (oi := { cls := .type "tuple_iterator", data := .fields #[.ref l, .int 0 0] }) hc X rfl
  have hne : l ≠ s.heap.objs.size := by obtain ⟨o, ho, _⟩ := hl; exact Nat.ne_of_lt (Heap.lt_size ho)
  have hlen : vs.size = as.length := by rw [← r.length, Array.length_toList]
  refine k s.heap.objs.size _ _ _ _ s.toks _ _ X' (HLe.push _ _) (Heap.get?_none_of_le (Nat.le_refl _)) le ⟨fun A' h' => walks_len hlen <| Walks.tuple h' s.heap.objs.size l hne vs, fun i v h => ?_, fun i h st => let ⟨o, ho, _⟩ := st.1; ⟨o, ho⟩, fun i s' t v Q A E st h => let ⟨o, ho, h1, h2⟩ := st.1; letGo_any ho h1 h2 (by decide) h⟩
    ⟨⟨_, Heap.get?_push_size _ rfl, rfl, rfl⟩, hl.extBut (Heap.ExtBut.push (Heap.ExtBut.refl s.heap.objs.size s.heap) _) hne⟩ (fun b hb => ?_)
  · have h : vs[i]? = some v := h
    obtain ⟨a, h1, h2⟩ := r.get (i := i) (a := v) (by rw [Array.getElem?_toList]; exact h)
    exact ⟨a, h1, h2.mono le⟩
  · rcases List.mem_cons.mp hb with rfl | hb
    · exact .inl rfl
    · rw [List.mem_singleton.mp hb]
      rcases hfine with ⟨o, h⟩ | h
      · exact .inr (.inl ⟨o, le _ _ h⟩)
      · exact .inr (.inr h)

theorem SRC.dlist {lv : Nat} {ds : List PyData} (hc : c.Ok lv) : SRC c env ρ ω (.d (.list ds)) (ds.map .d) := fun I mu s v A Q E hh X W r k => by
  obtain ⟨as, r⟩ := r
  obtain ⟨a, l, bs, rfl, -, hl, ra⟩ := reads_list_items r
  have hl' : s.heap.IsList a l.toArray := let ⟨o, h, h'⟩ := hl; ⟨o, X.im _ _ h, h'⟩
  exact src_list hc hh X hl' (by simpa using all2_of_reads ra) (.inl (let ⟨o, h, _⟩ := hl; ⟨o, h⟩)) k
theorem SRC.dtuple {lv : Nat} {ds : List PyData} (hc : c.Ok lv) : SRC c env ρ ω (.d (.tuple ds)) (ds.map .d) := fun I mu s v A Q E hh X W r k => by
  obtain ⟨as, r⟩ := r
  obtain ⟨a, l, rfl, hl, ra⟩ := reads_tuple_items r
  have hl' : s.heap.IsTuple a l.toArray := let ⟨o, h, h'⟩ := hl; ⟨o, X.im _ _ h, h'⟩
  exact src_tuple hc hh X hl' (by simpa using all2_of_reads ra) (.inl (let ⟨o, h, _⟩ := hl; ⟨o, h⟩)) k
/-- a tuple of plain values -/
noncomputable def IsTupV (vs : List Value) (o : Obj) : Prop := o.cls = .type "tuple" ∧ ∃ n, o.data = .seq vs.toArray n
theorem SRC.vtuple {lv : Nat} {vs : List Value} (hc : c.Ok lv) : SRC c env ρ ω (.fz (IsTupV vs)) (vs.map .v) := fun I mu s v A Q E hh X W r k => by
  obtain ⟨a, o, rfl, h1, ⟨h2, n, h3⟩, _⟩ := r
  refine src_tuple hc hh X ⟨o, X.im _ _ h1, h2, n, h3⟩ ?_ (.inl ⟨o, h1⟩) k
  have : ∀ vs : List Value, All2 (Rv I) vs (vs.map .v) := fun vs => by
    induction vs with
    | nil => exact .nil
    | cons v vs ih => exact .cons rfl ih
  simpa using this vs
theorem SRC.own {lv : Nat} {l : Addr} {o : Obj} {xs : List AV} (hc : c.Ok lv) (hl : (l, AO.exact o (.list xs)) ∈ ω) : SRC c env ρ ω (vR l) xs := fun I mu s v A Q E hh X W r k => by
  have r : v = .ref l := r
  subst r
  obtain ⟨o', h1, h2⟩ := W.own _ hl
  obtain ⟨e, h2⟩ : o' = o ∧ Ro c.w I o (.list xs) := h2
  subst e
  obtain ⟨vs, n, h3, h4⟩ := h2
  have hl' : s.heap.IsList l vs := ⟨o', X.ow _ h1, by rw [h3], n, by rw [h3]⟩
  exact src_list hc hh X hl' h4 (.inr ⟨o', _, h1, hl⟩) k
theorem SRC.dict {lv : Nat} {K : Type} [DecidableEq K] {d : Addr} {o : Obj} {fs : List (K × AV)} (D : DK K) (hc : c.Ok lv) (hd : (d, AO.exact o (D.ao fs)) ∈ ω) (hkey : ∀ w I v k, (D.knd w).is k v = true → Rv I v (D.key k)) : SRC c env ρ ω (vR d) (fs.map fun f => D.key f.1) := fun I mu s v A Q E hh X W r k => by
  have r : v = .ref d := r
  subst r
  obtain ⟨o', h1, h2⟩ := W.own _ hd
  obtain ⟨e, h2⟩ : o' = o ∧ Ro c.w I o (D.ao fs) := h2
  subst e
  obtain ⟨kvs, h3, h4⟩ := (D.ro _ _ _ _).mp h2
  have hD : s.heap.DictOf (D.knd c.w) d kvs := Heap.dictOf_iff.mpr ⟨o', X.ow _ h1, h3⟩
  have lo : (d == sysModules) = false := beq_eq_false_iff_ne.mpr (Nat.ne_of_gt (X.hi _ h1))
  obtain ⟨ep, hat⟩ := hD.dictAt
  refine wpAny_pyIter_dict lo hat ?_
  obtain ⟨X', le⟩ := src_push (oi := { cls := .type "dict_keyiterator", data := .fields #[.ref d, .int 0 0, .int kvs.length 0, .int ep 0] }) hc X rfl
  have hne : d ≠ s.heap.objs.size := Nat.ne_of_lt hat.lt_size
  have hlen : kvs.length = (fs.map fun f => D.key f.1).length := by rw [List.length_map, h4.length]
  refine k s.heap.objs.size _ _ _ _ s.toks _ _ X' (HLe.push _ _) (Heap.get?_none_of_le (Nat.le_refl _)) le ⟨fun A' h' => walks_len hlen <| Walks.dictKeys h' s.heap.objs.size d hne kvs ep, fun i v h => ?_, fun i h st => let ⟨o, ho, _⟩ := st.1; ⟨o, ho⟩, fun i s' t v Q A E st h => let ⟨o, ho, h1, h2⟩ := st.1; letGo_any ho h1 h2 (by decide) h⟩
    ⟨⟨_, Heap.get?_push_size _ rfl, rfl, rfl⟩, hat.push _⟩ (fun b hb => ?_)
  · obtain ⟨k', x, hx, hk⟩ := h
    obtain ⟨a, h5, h6⟩ := h4.get hx
    refine ⟨D.key a.1, by rw [List.getElem?_map, h5]; rfl, ?_⟩
    have := h6.1
    rw [← this]
    exact hkey _ _ _ _ hk
  · rcases List.mem_cons.mp hb with rfl | hb
    · exact .inl rfl
    · rw [List.mem_singleton.mp hb]
      exact .inr (.inr ⟨o', _, h1, hd⟩)
theorem SRC.str {lv : Nat} {x : Str} (hc : c.Ok lv) : SRC c env ρ ω (dS x) (x.cps.toList.map fun ch => dS ⟨#[ch]⟩) := fun I mu s v A Q E hh X W r k => by
  obtain ⟨t, rfl⟩ := r.str
  cases ha : x.cps.all (· < 128)
  · refine wpAny_pyIter_wide ha ?_
    obtain ⟨X', le⟩ := src_push (oi := { cls := .type "str_iterator", data := .fields #[.str x t, .int 0 0] }) hc X rfl
    refine k s.heap.objs.size _ _ _ _ s.toks _ _ X' (HLe.push _ _) (Heap.get?_none_of_le (Nat.le_refl _)) le ⟨fun A' h' => walks_len (by simp : x.cps.size = (x.cps.toList.map fun ch => dS ⟨#[ch]⟩).length) <| Walks.strWide h' s.heap.objs.size x t, fun i v h => ?_, fun i h st => let ⟨o, ho, _⟩ := st; ⟨o, ho⟩, fun i s' t v Q A E st h => let ⟨o, ho, h1, h2⟩ := st; letGo_any ho h1 h2 (by decide) h⟩
      ⟨_, Heap.get?_push_size _ rfl, rfl, rfl⟩ (fun b hb => .inl (List.mem_singleton.mp hb))
    obtain ⟨ch, u, h1, rfl⟩ := h
    exact ⟨dS ⟨#[ch]⟩, by rw [List.getElem?_map, Array.getElem?_toList, h1]; rfl, _, Reads.str _ _⟩
  · refine wpAny_pyIter_ascii ha ?_
    obtain ⟨X', le⟩ := src_push (oi := { cls := .type "str_ascii_iterator", data := .fields #[.str x t, .int 0 0] }) hc X rfl
    refine k s.heap.objs.size _ _ _ _ s.toks _ _ X' (HLe.push _ _) (Heap.get?_none_of_le (Nat.le_refl _)) le ⟨fun A' h' => walks_len (by simp : x.cps.size = (x.cps.toList.map fun ch => dS ⟨#[ch]⟩).length) <| Walks.strAscii h' s.heap.objs.size x t, fun i v h => ?_, fun i h st => let ⟨o, ho, _⟩ := st; ⟨o, ho⟩, fun i s' t v Q A E st h => let ⟨o, ho, h1, h2⟩ := st; letGo_any ho h1 h2 (by decide) h⟩
      ⟨_, Heap.get?_push_size _ rfl, rfl, rfl⟩ (fun b hb => .inl (List.mem_singleton.mp hb))
    obtain ⟨ch, u, h1, rfl⟩ := h
    exact ⟨dS ⟨#[ch]⟩, by rw [List.getElem?_map, Array.getElem?_toList, h1]; rfl, _, Reads.str _ _⟩
noncomputable def IsRng (a b : Int) (o : Obj) : Prop := ∃ t u v, o = { cls := .type "range", dict := none, data := .fields #[.int a t, .int b u, .int 1 v], slots := #[] }
noncomputable def rngL (a : Int) (n : Nat) : List AV := (List.range n).map fun i => dI (a + (i : Nat))
theorem SRC.range {lv : Nat} {a b : Int} {n : Nat} (hc : c.Ok lv) (hs : Builtin.Range.small a b 1 = true) (hn : Builtin.Range.rangeSize a b 1 = n) : SRC c env ρ ω (.fz (IsRng a b)) (rngL a n) := fun I mu s v A Q E hh X W r k => by
  obtain ⟨r, o, rfl, h1, ⟨t, u, v, rfl⟩, _⟩ := r
  refine wpAny_pyIter_range (X.im _ _ h1) hs ?_
  rw [hn]
  obtain ⟨X', le⟩ := src_push (oi := { cls := .type "range_iterator", data := .fields #[rawInt a, rawInt n, rawInt 1] }) hc X rfl
  refine k s.heap.objs.size _ _ _ _ s.toks _ _ X' (HLe.push _ _) (Heap.get?_none_of_le (Nat.le_refl _)) le ⟨fun A' h' => walks_len (by simp [rngL] : n = (rngL a n).length) <| (Walks.range h' s.heap.objs.size a 1 n).bound, fun i v h => ?_, fun i h st => ⟨_, st⟩, fun i s' t v Q A E st h => letGo_any st rfl rfl (by decide) h⟩
    ?_ (fun b hb => .inl (List.mem_singleton.mp hb))
  · obtain ⟨h0, t, rfl⟩ := h
    exact ⟨dI (a + (i : Nat)), by simp [rngL, h0], _, by rw [Int.mul_one]; exact Reads.int _ _⟩
  · have := Heap.get?_push_size s.heap (o := { cls := .type "range_iterator", data := .fields #[rawInt a, rawInt n, rawInt 1] }) rfl
    simpa using this
end
end Mine
set_option Elab.async false
set_option maxRecDepth 100000
set_option linter.unusedVariables false
namespace Mine
open PySem PySem.W PySem.Calls PyProof.Rows PySem.Spec PyProof.Rows.LCg

section
variable {c : Cx} {env : Env} {ρ ρ₁ ρ₂ ρ' : Vs} {ω ω₁ ω₂ ω₃ ω' : Os} {Ψ Ψ' : Fl → Vs → Os → Prop} {Φ Φ' : Os → Oc → Prop}

/-- one turn of the iterator -/
theorem GoS.turn {I₁ I' : Heap} {mu₁ mu' : Led} {s' : Shared} {it : Addr} {oi oi' : Obj} {h' : Heap} {tk : Tok} (g : GoS c env ω₁ ρ' ω' I₁ mu₁ I' mu' s') (X₁ : ∃ o, (c.L, o) ∈ mu₁) (hn : it ∉ mu₁.map (·.1)) (m : (it, oi) ∈ mu') (hL : it ≠ c.L) (hl : it ≠ env.locals) (hk : it ∉ keys ω')
    (k : ∀ b ob, b ≠ it → s'.heap.get? b = some ob → h'.get? b = some ob) (e : h'.get? it = some oi') :
    GoS c env ω₁ ρ' ω' I₁ mu₁ I' (updL it oi' mu') { s' with heap := h', toks := tk } := by
  have X' := g.st.turn (tk := tk) (dr := s'.drawn) m hL k e
  have fp : Fp c (· = it) mu' (updL it oi' mu') := ⟨fun p hp n _ => updL_mem hp n, fun o ho n => ⟨o.slots, updL_mem ho (Ne.symm hL)⟩, fun p hp => by rw [updL_keys]; exact List.mem_map_of_mem hp⟩
  refine ⟨X', g.le, g.fp.transP (fun a ha q => absurd ((show a = it from q) ▸ ha) hn) fp, g.nw, g.wd.step (HLe.refl _) fp (fun q => hl q.symm) (fun q hq => ?_) (Nw.refl _ _) g.wd.nd g.st.kL⟩
  obtain ⟨o, h1, h2⟩ := g.wd.own q hq
  exact ⟨o, updL_mem h1 fun e => hk (e ▸ List.mem_map_of_mem hq), h2⟩
/-- the iterator is let go -/
theorem GoS.lose {I₁ I' : Heap} {mu₁ mu' : Led} {s' : Shared} {it : Addr} {oi : Obj} {h' : Heap} {tk : Tok} (g : GoS c env ω₁ ρ' ω' I₁ mu₁ I' mu' s') (hn : it ∉ mu₁.map (·.1)) (m : (it, oi) ∈ mu') (hL : it ≠ c.L) (hl : it ≠ env.locals) (hk : it ∉ keys ω')
    (k : ∀ b ob, b ≠ it → s'.heap.get? b = some ob → h'.get? b = some ob) :
    GoS c env ω₁ ρ' ω' I₁ mu₁ I' (mu'.filter fun p => decide (p.1 ≠ it)) { s' with heap := h', toks := tk } := by
  have X' := g.st.drop (tk := tk) (dr := s'.drawn) m hL k
  have mem : ∀ p, p ∈ mu' → p.1 ≠ it → p ∈ mu'.filter (fun p => decide (p.1 ≠ it)) := fun p hp n => by simp [hp, n]
  refine ⟨X', g.le, ⟨fun p hp n1 n2 => mem p (g.fp.other p hp n1 n2) fun e => hn (e ▸ List.mem_map_of_mem hp), fun o ho n => ?_, fun p hp => ?_⟩, g.nw, ⟨g.wd.ok, fun x av hx => ?_, ?_, fun q hq => ?_, g.wd.sep, g.wd.nd⟩⟩
  · obtain ⟨sl, h1⟩ := g.fp.fr o ho n
    exact ⟨sl, mem _ h1 (Ne.symm hL)⟩
  · obtain ⟨q, hq, e⟩ := List.mem_map.mp (g.fp.ks p hp)
    rw [← e]
    exact List.mem_map_of_mem (mem q hq fun e2 => hn (by have e : q.1 = p.1 := e; rw [← e2, e]; exact List.mem_map_of_mem hp))
  · obtain ⟨v, ⟨hk, o, m', h1, h2, h3⟩, r⟩ := g.wd.vars x av hx
    exact ⟨v, ⟨hk, o, m', mem _ h1 (Ne.symm hl), h2, h3⟩, r⟩
  · obtain ⟨o, m', h1, h2⟩ := g.wd.loc
    exact ⟨o, m', mem _ h1 (Ne.symm hl), h2⟩
  · obtain ⟨o, h1, h2⟩ := g.wd.own q hq
    exact ⟨o, mem _ h1 fun e => hk (e ▸ List.mem_map_of_mem hq), h2⟩

/-- what stands still over a body, for the iterator's sake -/
theorem still {I₁ I' I'' : Heap} {mu₁ mu' mu'' : Led} {s' s'' : Shared} {it : Addr} {oi : Obj} {fp : List Addr} {ωb ω'' : Os} {h₁ : Heap} {P : Addr → Prop} (hf : Fine I₁ mu₁ ω₁ it fp) (X' : S c I' mu' s') (le : HLe I₁ I') (X'' : S c I'' mu'' s'') (le' : HLe I' I'')
    (Fp' : Fp c P mu' mu'') (nP : ¬ P it) (m : (it, oi) ∈ mu') (hL : it ≠ c.L) (own' : Own c.w I' ωb mu') (own'' : Own c.w I'' ω'' mu'') (hx : ∀ b o a, (b, AO.exact o a) ∈ ω₁ → (b, AO.exact o a) ∈ ωb ∧ (b, AO.exact o a) ∈ ω'') :
    ∀ b ∈ fp, ∀ o, s'.heap.get? b = some o → s''.heap.get? b = some o := fun b hb o e => by
  rcases hf b hb with rfl | ⟨o', h⟩ | ⟨o', a, h1, h2⟩
  · have := X'.ow _ m
    rw [e] at this
    have : o = oi := Option.some.inj this
    rw [this]
    exact X''.ow _ (Fp'.other _ m nP hL)
  · have := X'.im _ _ (le _ _ h)
    rw [e] at this
    have : o = o' := Option.some.inj this
    rw [this]
    exact X''.im _ _ (le' _ _ (le _ _ h))
  · obtain ⟨x1, x2⟩ := hx _ _ _ h2
    obtain ⟨o1, y1, y2⟩ := own' _ x1
    have y2 : o1 = o' ∧ _ := y2
    obtain ⟨o2, z1, z2⟩ := own'' _ x2
    have z2 : o2 = o' ∧ _ := z2
    have := X'.ow _ y1
    rw [e] at this
    have e1 : o = o1 := Option.some.inj this
    rw [e1, y2.1, ← z2.1]
    exact X''.ow _ z1

theorem TX.forN {x : Str} {px p : Pos} {iter : Expr} {body : List Stmt} {av : AV} {as : List AV} {lv : Nat} (Inv : Nat → Vs → Os → Prop) (hc : c.Ok lv) (hi : TE c env ρ ω iter ω₁ av) (hs : SRC c env ρ ω₁ av as) (hx : env.kindOf x = some .local)
    (h0 : Inv 0 ρ ω₁) (hstay : ∀ i ρ' ω', Inv i ρ' ω' → ∀ b o a, (b, AO.exact o a) ∈ ω₁ → (b, AO.exact o a) ∈ ω')
    (hb : ∀ i a ρ' ω', as[i]? = some a → Inv i ρ' ω' → TS c env ((x, a) :: ρ') ω' body (fun fl ρ'' ω'' => fl = .next ∧ Inv (i + 1) ρ'' ω''))
    (hfold : ∀ x, foldedSetIterable iter env x = pure x := by intro _; rfl) :
    TX c env ρ ω (.For (.Name x px) iter body [] p) (fun fl ρ' ω' => fl = .next ∧ Inv as.length ρ' ω') := fun I mu s Q E X W k => by
  refine wpAny_For (hi I mu s _ _ X W fun v s₁ I₁ mu₁ g₁ r₁ => hs I₁ mu₁ s₁ v c.A _ _ hc.handled g₁.st g₁.wd r₁ fun it oi fp P St tk h₁ I₂ X₂ hle hnew le₂ SD st₀ hf => ?_) hfold
  have itn : it ∉ mu₁.map (·.1) := g₁.st.newMu hnew
  have kin : ∀ a ∈ keys ω₁, a ∈ mu₁.map (·.1) := fun a ha => by
    obtain ⟨q, hq, rfl⟩ := List.mem_map.mp ha
    obtain ⟨o, h1, _⟩ := g₁.wd.own q hq
    exact List.mem_map_of_mem (f := Prod.fst) h1
  have itL : it ≠ c.L := fun e => by
    obtain ⟨o, h⟩ := g₁.st.kL
    exact itn (e ▸ List.mem_map_of_mem (f := Prod.fst) h)
  have itl : it ≠ env.locals := fun e => by
    obtain ⟨o, m, h, _⟩ := g₁.wd.loc
    exact itn (e ▸ List.mem_map_of_mem (f := Prod.fst) h)
  have W₂ : Wd c env I₂ ρ ω₁ ((it, oi) :: mu₁) := g₁.wd.more le₂ (fun p hp => .tail _ hp) g₁.st.kL
  have G₂ : GoS c env ω₁ ρ ω₁ I₂ mu₁ I₂ ((it, oi) :: mu₁) { s₁ with heap := h₁, toks := tk } := ⟨X₂, HLe.refl _, Fp.sub fun p hp => .tail _ hp, Nw.refl _ _, W₂⟩
  have W := SD.W c.A hc.handled
  have fin : ∀ ρ' ω' s' I' mu', GoS c env ω₁ ρ' ω' I₂ mu₁ I' mu' s' → Inv as.length ρ' ω' → Q .next s' := fun ρ' ω' s' I' mu' g hI => by
    have g' : GoS c env ω₁ ρ' ω' I₁ mu₁ I' mu' s' := ⟨g.st, le₂.trans g.le, g.fp, g.nw, g.wd⟩
    exact k.on .next .next _ _ _ _ _ (g₁.toS.trans g') trivial ⟨rfl, hI⟩
  refine codeAny_forLoop (fun n s' => ∃ i I' mu' ρ' ω' oi', i ≤ as.length ∧ n = as.length + 1 - i ∧ GoS c env ω₁ ρ' ω' I₂ mu₁ I' mu' s' ∧ (it, oi') ∈ mu' ∧ it ∉ keys ω' ∧ St i s'.heap ∧ Inv i ρ' ω') (fun n s' hI => ?_) (as.length + 1)
    ⟨0, I₂, _, ρ, ω₁, oi, Nat.zero_le _, rfl, G₂, .head _, fun h => itn (kin _ h), st₀, h0⟩
  obtain ⟨i, I', mu', ρ', ω', oi', hi', rfl, g, mi, nk, st, hInv⟩ := hI
  by_cases hlt : i < as.length
  · refine W.item i _ _ _ hlt st fun v h' tk' hP st' hk => ?_
    obtain ⟨oi₂, ho₂⟩ := SD.there _ _ st'
    have g₃ := g.turn (tk := tk') g₁.st.kL itn mi itL itl nk (fun b ob n e => hk b ob (by simpa using n) e) ho₂
    obtain ⟨a, ha, ra⟩ := SD.vals i v hP
    have m₃ : (it, oi₂) ∈ updL it oi₂ mu' := updL_self mi
    refine wpAny_assign_Name (wp_store g₃.st g₃.wd (ra.mono g₃.le) hx fun s₄ I₄ mu₄ g₄ => ?_)
    refine hb i a ρ' ω' ha hInv _ _ _ _ _ g₄.st g₄.wd ⟨fun f fl ρ₅ ω₅ s₅ I₅ mu₅ g₅ r p => ?_, fun e C ρ' ω' s' I' mu' g x p => by cases p.1⟩
    obtain ⟨rfl, hInv₅⟩ := p
    cases f <;> first | exact r.elim | skip
    have g45 := g₄.trans g₅
    have nP : ¬ InS env ω' it := fun h => h.elim nk itl
    have s5 := still (P := InS env ω') hf g₃.st g₃.le g₅.st g45.le g45.fp nP m₃ itL g₃.wd.own g₅.wd.own (h₁ := h₁) fun b o a hx => ⟨hstay _ _ _ hInv b o a hx, hstay _ _ _ hInv₅ b o a hx⟩
    refine ⟨as.length + 1 - (i + 1), by omega, i + 1, I₅, mu₅, ρ₅, ω₅, oi₂, hlt, rfl, g₃.trans g45, g45.fp.other _ m₃ nP itL, fun h => ?_, W.frame _ _ _ st' fun b hb o e => s5 b hb o e, hInv₅⟩
    rcases g45.nw _ h with h | h
    · exact nk h
    · exact h (List.mem_map_of_mem (f := Prod.fst) m₃)
  · have : i = as.length := by omega
    subst this
    refine W.done _ _ _ st fun h' tk' hk => wpAny_execs_nil ?_
    exact fin _ _ _ _ _ (g.lose (tk := tk') itn mi itL itl nk fun b ob n e => hk b ob (by simpa using n) e) hInv
end
end Mine
set_option Elab.async false
set_option maxRecDepth 100000
set_option linter.unusedVariables false
namespace Mine
open PySem PySem.W PySem.Calls PyProof.Rows PySem.Spec PyProof.Rows.LCg

theorem compLoop_gen {w : World} {A : Around} {R : Result → Shared → Prop} {s : Shared} {elt target iter : Expr} {ifs : List Expr} {scope : Scope} {pos : Pos} {it acc : Value} {env : Env} (I : Nat → Shared → Prop)
    (turn : ∀ n s, I n s → wpAny (model prg w) A (pyNext it) (fun r s₁ => match r with
      | none => R (.ok .next) s₁
      | some v => wpAny (model prg w) A (letOwnedTupleGo target it v) (fun _ s₁' => wpAny (model prg w) A (assign target env v) (fun _ s₂ =>
          wpAny (model prg w) A (forIn ifs true fun c r => if r = true then do let ok ← isTrue c env (eval c env); pure (ForInStep.yield ok) else pure (ForInStep.yield r)) (fun ok s₃ =>
            if ok = true then wpAny (model prg w) A (eval elt env) (fun x s₄ =>
              wpAny (model prg w) A (call (.builtin "list.append") [acc, x]) (fun _ s₅ => ∃ m, m < n ∧ I m s₅) (notedBy (model prg w) A env fun e s' => R (.error e) s') s₄) (notedBy (model prg w) A env fun e s' => R (.error e) s') s₃
            else ∃ m, m < n ∧ I m s₃) (notedBy (model prg w) A env fun e s' => R (.error e) s') s₂) (notedBy (model prg w) A env fun e s' => R (.error e) s') s₁') (notedBy (model prg w) A env fun e s' => R (.error e) s') s₁) (notedBy (model prg w) A env fun e s' => R (.error e) s') s)
    (n : Nat) (h : I n s) : codeAny (model prg w) A (.compLoop (.ListComp elt [⟨target, iter, ifs, 0⟩] scope pos) 0 it acc env) R s := by
  refine codeAny_loop rfl I (fun n s hI => ?_) n h
  show wpAny _ A ((compTurn (.ListComp elt [⟨target, iter, ifs, 0⟩] scope pos) 0 it acc env).onRaise (fun x => do noteFrame x env; theTreesLotGoes x)) _ _ s
  refine wpAny_noted ?_
  rw [compTurn_list]
  refine wpAny_bind (wpAny_standAt (wpAny_bind (wpAny_mono (turn n s hI) (fun r s₁ h₁ => ?_) fun _ _ h' => h')))
  cases r with
  | none => exact wpAny_pure h₁
  | some v =>
    refine wpAny_bind (wpAny_mono h₁ (fun _ s₁' h₁' => ?_) fun _ _ h' => h')
    refine wpAny_bind (wpAny_mono h₁' (fun _ s₂ h₂ => wpAny_bind (wpAny_mono h₂ (fun ok s₃ h₃ => ?_) fun _ _ h' => h')) fun _ _ h' => h')
    cases ok with
    | false => exact wpAny_pure ⟨rfl, h₃⟩
    | true =>
      exact wpAny_bind (wpAny_bind (wpAny_mono h₃ (fun x s₄ h₄ => wpAny_bind (wpAny_mono h₄ (fun _ s₅ h₅ => wpAny_pure (wpAny_pure ⟨rfl, h₅⟩)) fun _ _ h' => h')) fun _ _ h' => h'))

section
variable {c : Cx} {env : Env} {ρ ρ₁ ρ₂ ρ' : Vs} {ω ω₁ ω₂ ω₃ ω' : Os} {Ψ Ψ' : Fl → Vs → Os → Prop} {Φ Φ' : Os → Oc → Prop}

noncomputable def TA (c : Cx) (env : Env) (ρ : Vs) (ω : Os) (target : Expr) (av : AV) (ρ' : Vs) : Prop :=
  ∀ (I : Heap) (mu : Led) (s : Shared) (v : Value) (Q : Unit → Shared → Prop) (E : Value → Shared → Prop), S c I mu s → Wd c env I ρ ω mu → Rv I v av →
    (∀ s' I' mu', GoS c env ω ρ' ω I mu I' mu' s' → Q () s') → wpAny (model prg c.w) c.A (assign target env v) Q E s
theorem TA.name {x : Str} {p : Pos} {av : AV} (hx : env.kindOf x = some .local) : TA c env ρ ω (.Name x p) av ((x, av) :: ρ) := fun I mu s v Q E X W r k => wpAny_assign_Name (wp_store X W r hx k)
theorem TA.pair {lv : Nat} {x y : Str} {px py p : Pos} {k0 : Nat} {a b : PyData} (hc : c.Ok lv) (hx : env.kindOf x = some .local) (hy : env.kindOf y = some .local) :
    TA c env ρ ω (.Tuple [.Name x px, .Name y py] k0 p) (.d (.tuple [a, b])) ((y, .d b) :: (x, .d a) :: ρ) := fun I mu s v Q E X W r k => by
  obtain ⟨as, r⟩ := r
  obtain ⟨t, l, rfl, ⟨o, h1, h2, n, h3⟩, ra⟩ := reads_tuple_items r
  have z := all2_of_reads ra
  obtain ⟨v1, v2, rfl, r1, r2⟩ := z.two
  refine assign_Tuple_tuple hc.handled ⟨o, X.im _ _ h1, h2, n, h3⟩ rfl rfl fun h₅ he => ?_
  have g := Go.grow X W (tk := s.toks) (dr := s.drawn) (h' := h₅) fun b o e => he b o (Nat.ne_of_lt (Heap.lt_size e)) e
  refine assignInOrder_cons (wpAny_assign_Name (wp_store g.st g.wd (r1.mono g.le) hx fun s₂ I₂ mu₂ g₂ => ?_))
  refine assignInOrder_cons (wpAny_assign_Name (wp_store g₂.st g₂.wd ((r2.mono g.le).mono g₂.le) hy fun s₃ I₃ mu₃ g₃ => ?_))
  exact assignInOrder_nil (k _ _ _ ((g.toS.trans g₂).trans g₃))

/-- what one turn of a comprehension gives -/
noncomputable def TN (c : Cx) (env : Env) (ρ : Vs) (ω : Os) (ifs : List Expr) (elt : Expr) (out : Option AV) : Prop :=
  match ifs with
  | [] => ∃ av, out = some av ∧ TE c env ρ ω elt ω av
  | [t] => ∃ b, TT c env ρ ω t ω b ∧ (b = false → out = none) ∧ (b = true → ∃ av, out = some av ∧ TE c env ρ ω elt ω av)
  | _ => False

theorem perm_head {mu : Led} {a : Addr} {o : Obj} (h : (a, o) ∈ mu) (nd : (mu.map (·.1)).Nodup) : mu.Perm ((a, o) :: dropL a mu) := by
  induction mu with
  | nil => cases h
  | cons p r ih =>
    rw [List.map_cons, List.nodup_cons] at nd
    rcases List.mem_cons.mp h with e | h
    · subst e
      have : dropL a ((a, o) :: r) = r := by
        unfold dropL
        rw [List.filter_cons_of_neg (by simp)]
        refine List.filter_eq_self.mpr fun q hq => ?_
        have : q.1 ≠ a := fun e => nd.1 (by have h := List.mem_map_of_mem (f := Prod.fst) hq; rw [e] at h; exact h)
        simpa using this
      rw [this]
    · have hne : p.1 ≠ a := fun e => nd.1 (by rw [e]; exact List.mem_map_of_mem (f := Prod.fst) h)
      have : dropL a (p :: r) = p :: dropL a r := by
        unfold dropL
        rw [List.filter_cons_of_pos (by simpa using hne)]
      rw [this]
      exact (List.Perm.cons p (ih h nd.2)).trans (List.Perm.swap _ _ _)
/-- the state at a comprehension's end, its names still there -/
structure CompEnd' (c : Cx) (env : Env) (ρ : Vs) (ω₁ : Os) (rs : List AV) (I₁ : Heap) (mu₁ : Led) (D C : Addr) (Ic : Heap) (mu' : Led) (s' : Shared) : Prop where
  st : S c Ic mu' s'
  le : HLe I₁ Ic
  fp : Fp c (In ω₁) mu₁ mu'
  wd : Wd c env Ic ρ ω₁ mu'
  dm : ∃ vs n, (D, (listOf vs n)) ∈ mu' ∧ All2 (Rv Ic) vs.toList rs
  cm : ∃ o m, (C, o) ∈ mu' ∧ NsObj o m
  dn : D ∉ mu₁.map (·.1)
  cn : C ∉ mu₁.map (·.1)
  dc : D ≠ C

theorem comp_core {lv : Nat} {elt target iter : Expr} {ifs : List Expr} {scope : Scope} {pos : Pos} {cl : List (Str × Addr)} {av : AV} {as : List AV} {out : List (Option AV)} {ρt : AV → Vs} {I₁ : Heap} {mu₁ : Led} {s₁ : Shared} {v : Value} {E : Value → Shared → Prop} {RR : Value → Addr → Result → Shared → Prop}
    (hc : c.Ok lv) (X₁ : S c I₁ mu₁ s₁) (W₁ : Wd c env I₁ ρ ω₁ mu₁) (r₁ : Rv I₁ v av) (hs : SRC c env ρ ω₁ av as) (hcell : ∀ y ∈ scope.names, y.2 ≠ .cell) (hkind : scope.kind = .function) (hlen : out.length = as.length) (hsz : as.length ≤ 1000)
    (hta : ∀ C ρ' a, a ∈ as → TA c (compEnvC scope cl C env) ρ' ω₁ target a (ρt a ++ ρ'))
    (hb : ∀ C ρ' (i : Nat) (a : AV) (o : Option AV), as[i]? = some a → out[i]? = some o → TN c (compEnvC scope cl C env) (ρt a ++ ρ') ω₁ ifs elt o)
    (k : ∀ D C Ic mu' s', CompEnd' c env ρ ω₁ (out.filterMap id) I₁ mu₁ D C Ic mu' s' → RR (.ref D) C (.ok .next) s') :
    wpAny (model prg c.w) c.A (pyIter v) (fun it s₂ => wpAny (model prg c.w) c.A (newList []) (fun acc s₃ => wpAny (model prg c.w) c.A (newFunctionEnv scope env.globals cl [] env.qual none .none (some env)) (fun cenv s₄ =>
      codeAny (model prg c.w) c.A (.compStart (.ListComp elt [⟨target, iter, ifs, 0⟩] scope pos) 0 it acc { cenv with scope := relabel scope env }) (RR acc cenv.locals) s₄) E s₃) E s₂) E s₁ := by
  refine hs I₁ mu₁ s₁ v c.A _ _ hc.handled X₁ W₁ r₁ fun it oi fp P St tk h₁ I₂ X₂ hle hnew le₂ SD st₀ hf => ?_
  refine wpAny_newObj_type (wpAny_newFunctionEnv hcell (by intro y hy; simp at hy) (fun h₃ hns₃ hsb₃ => ?_) hkind)
  dsimp only at hns₃ hsb₃ ⊢
  generalize hH2 : h₁.push { cls := .type "list", dict := none, data := .seq ([] : List Value).toArray } = H2 at hns₃ hsb₃ ⊢
  have hC : H2.objs.size = h₁.objs.size + 1 := by rw [← hH2, Heap.size_push]
  have hDC : h₁.objs.size ≠ H2.objs.size := by rw [hC]; exact Nat.ne_of_lt (Nat.lt_succ_self _)
  have le12 : HLe h₁ H2 := by rw [← hH2]; exact HLe.push _ _
  have fresh₁ : ∀ a, h₁.objs.size ≤ a → h₁.get? a = none := fun a ha => Heap.get?_none_of_le ha
  have le23 : HLe H2 h₃ := fun b o e => hsb₃.extBut b o (Nat.ne_of_lt (Heap.lt_size e)) (Heap.get?_push_of_some _ e)
  have big : 1 < h₁.objs.size := X₂.big hc
  -- the list
  obtain ⟨X₃, le₃⟩ := X₂.own (h' := H2) (tk := tk) (dr := s₁.drawn) (a := h₁.objs.size) (o := listOf #[] 0) le12 (by rw [← hH2]; exact Heap.get?_push_size _ rfl) (fresh₁ _ (Nat.le_refl _)) big
  -- the names
  obtain ⟨oC, hoC, nC⟩ := ns_obj hns₃
  obtain ⟨X₄, le₄⟩ := X₃.own (h' := h₃) (tk := tk + 0) (dr := s₁.drawn) (a := H2.objs.size) (o := oC) le23 hoC (Heap.get?_none_of_le (Nat.le_refl _)) (by rw [hC]; exact Nat.lt_succ_of_lt big)
  generalize hD : h₁.objs.size = D at *
  generalize hCC : H2.objs.size = C at *
  have itn : it ∉ mu₁.map (·.1) := X₁.newMu hnew
  have dn : D ∉ mu₁.map (·.1) := fun m => by
    have := X₂.newMu (a := D) (fresh₁ D (by omega))
    exact this (.tail _ m)
  have cn : C ∉ mu₁.map (·.1) := fun m => by
    have := X₂.newMu (a := C) (fresh₁ C (by omega))
    exact this (.tail _ m)
  have dit : D ≠ it := fun e => X₂.newMu (a := D) (fresh₁ D (by omega)) (e ▸ .head _)
  have cit : C ≠ it := fun e => X₂.newMu (a := C) (fresh₁ C (by omega)) (e ▸ .head _)
  have kin : ∀ a ∈ keys ω₁, a ∈ mu₁.map (·.1) := fun a ha => by
    obtain ⟨q, hq, rfl⟩ := List.mem_map.mp ha
    obtain ⟨o, h1, _⟩ := W₁.own q hq
    exact List.mem_map_of_mem (f := Prod.fst) h1
  have Lin : c.L ∈ mu₁.map (·.1) := let ⟨o, h⟩ := X₁.kL; List.mem_map_of_mem (f := Prod.fst) h
  have lin : env.locals ∈ mu₁.map (·.1) := let ⟨o, m, h, _⟩ := W₁.loc; List.mem_map_of_mem (f := Prod.fst) h
  have itL : it ≠ c.L := fun e => itn (e ▸ Lin)
  have dL : D ≠ c.L := fun e => dn (e ▸ Lin)
  have cL : C ≠ c.L := fun e => cn (e ▸ Lin)
  have sub₄ : ∀ p ∈ mu₁, p ∈ (C, oC) :: (D, listOf #[] 0) :: (it, oi) :: mu₁ := fun p hp => .tail _ (.tail _ (.tail _ hp))
  have leA := (le₂.trans le₃).trans le₄
  -- the inner reading
  have Wi : Wd c (compEnvC scope cl C env) (imm c ((C, oC) :: (D, listOf #[] 0) :: (it, oi) :: mu₁) h₃) [] ω₁ ((C, oC) :: (D, listOf #[] 0) :: (it, oi) :: mu₁) := by
    refine ⟨⟨by simp [compEnvC, relabel, hkind], W₁.ok.glob, W₁.ok.bins, W₁.ok.frame⟩, fun x av h => by simp at h, ⟨oC, _, .head _, nC⟩, fun q hq => ?_, fun q hq => ?_, W₁.nd⟩
    · obtain ⟨o, h1, h2⟩ := W₁.own q hq
      exact ⟨o, sub₄ _ h1, h2.mono leA⟩
    · exact ⟨fun e => cn ((show q.1 = C from e) ▸ kin _ (List.mem_map_of_mem hq)), (W₁.sep q hq).2⟩
  have W := SD.W c.A hc.handled
  let J : Nat → Shared → Prop := fun n s' => ∃ i Ic mu' ρ' oi' ys nn, i ≤ as.length ∧ n = as.length + 1 - i ∧ S c Ic mu' s' ∧ HLe (imm c ((C, oC) :: (D, listOf #[] 0) :: (it, oi) :: mu₁) h₃) Ic ∧ Fp c (In ω₁) mu₁ mu' ∧ Wd c (compEnvC scope cl C env) Ic ρ' ω₁ mu' ∧
    (it, oi') ∈ mu' ∧ (D, listOf ys nn) ∈ mu' ∧ All2 (Rv Ic) ys.toList ((out.take i).filterMap id) ∧ St i s'.heap
  have itk : it ∉ keys ω₁ := fun h => itn (kin _ h)
  have dk : D ∉ keys ω₁ := fun h => dn (kin _ h)
  have ck : C ∉ keys ω₁ := fun h => cn (kin _ h)
  have loop : ∀ s₅ : Shared, s₅ = { s₁ with heap := h₃, toks := tk + 0 } → St 0 s₅.heap → S c (imm c ((C, oC) :: (D, listOf #[] 0) :: (it, oi) :: mu₁) h₃) ((C, oC) :: (D, listOf #[] 0) :: (it, oi) :: mu₁) s₅ →
      codeAny (model prg c.w) c.A (.compLoop (.ListComp elt [⟨target, iter, ifs, 0⟩] scope pos) 0 (.ref it) (.ref D) (compEnvC scope cl C env)) (RR (.ref D) C) s₅ := by
    intro s₅ he₅ hst₅ X₅
    refine compLoop_gen J (fun n s' hJ => ?_) (as.length + 1) ⟨0, _, _, [], oi, #[], 0, Nat.zero_le _, rfl, X₅, HLe.refl _, Fp.sub sub₄, Wi, .tail _ (.tail _ (.head _)), .tail _ (.head _), .nil, hst₅⟩
    obtain ⟨i, Ic, mu', ρ', oi', ys, nn, hi, rfl, X', le', fp', W', mi, md, ra, st⟩ := hJ
    by_cases hlt : i < as.length
    · refine W.item i _ _ _ hlt st fun v h' tk' hP st' hk => ?_
      obtain ⟨oi₂, ho₂⟩ := SD.there _ _ st'
      obtain ⟨a, ha, rv⟩ := SD.vals i v hP
      have k' : ∀ b ob, b ≠ it → s'.heap.get? b = some ob → h'.get? b = some ob := fun b ob n e => hk b ob (by simpa using n) e
      have Xa := X'.turn (tk := tk') (dr := s'.drawn) mi itL k' ho₂
      have fpa : Fp c (· = it) mu' (updL it oi₂ mu') := ⟨fun p hp n _ => updL_mem hp n, fun o ho n => ⟨o.slots, updL_mem ho (Ne.symm itL)⟩, fun p hp => by rw [updL_keys]; exact List.mem_map_of_mem hp⟩
      have Wa : Wd c (compEnvC scope cl C env) Ic ρ' ω₁ (updL it oi₂ mu') := W'.step (HLe.refl _) fpa (fun q => cit q) (fun q hq => by
        obtain ⟨o, h1, h2⟩ := W'.own q hq
        exact ⟨o, updL_mem h1 fun e => itk (e ▸ List.mem_map_of_mem hq), h2⟩) (Nw.refl _ _) W'.nd X'.kL
      have mia : (it, oi₂) ∈ updL it oi₂ mu' := updL_self mi
      have mda : (D, listOf ys nn) ∈ updL it oi₂ mu' := updL_mem md dit
      refine SD.lg (i + 1) _ _ _ _ _ _ st' ?_
      have lev : HLe I₂ Ic := (le₃.trans le₄).trans le'
      refine hta C ρ' a (List.mem_of_getElem? ha) _ _ _ _ _ _ Xa Wa (rv.mono lev) fun s₆ I₆ mu₆ g₆ => ?_
      obtain ⟨o, ho⟩ : ∃ o, out[i]? = some o := ⟨out[i]'(by omega), by simp [hlen, hlt]⟩
      have TNi := hb C ρ' i a o ha ho
      have nPi : ¬ InS (compEnvC scope cl C env) ω₁ it := fun h => h.elim itk fun e => cit (show it = C from e).symm
      have nPd : ¬ InS (compEnvC scope cl C env) ω₁ D := fun h => h.elim dk fun e => hDC (show D = C from e)
      -- whatever happened since the turn
      have back : ∀ {ρ₇ s₇ I₇ mu₇}, GoS c (compEnvC scope cl C env) ω₁ ρ₇ ω₁ Ic (updL it oi₂ mu') I₇ mu₇ s₇ → Fp c (In ω₁) mu₁ mu₇ ∧ (it, oi₂) ∈ mu₇ ∧ (D, listOf ys nn) ∈ mu₇ ∧ (∀ b ∈ fp, ∀ o, h'.get? b = some o → s₇.heap.get? b = some o) := fun {ρ₇ s₇ I₇ mu₇} g => by
        refine ⟨(fp'.transP (fun a ha q => absurd ((show a = it from q) ▸ ha) itn) fpa).transP (fun a ha q => ?_) g.fp, g.fp.other _ mia nPi itL, g.fp.other _ mda nPd dL, ?_⟩
        · rcases q with q | q
          · exact q
          · exact absurd ((show a = C from q) ▸ ha) cn
        · exact still (h₁ := h₃) (P := InS (compEnvC scope cl C env) ω₁) hf Xa lev g.st g.le g.fp nPi mia itL Wa.own g.wd.own fun b o a h => ⟨h, h⟩
      have okay : ∀ {ρ₇ s₇ I₇ mu₇}, GoS c (compEnvC scope cl C env) ω₁ ρ₇ ω₁ Ic (updL it oi₂ mu') I₇ mu₇ s₇ → o = none → ∃ m, m < as.length + 1 - i ∧ J m s₇ := fun {ρ₇ s₇ I₇ mu₇} g ho' => by
        obtain ⟨b1, b2, b3, b4⟩ := back g
        refine ⟨as.length + 1 - (i + 1), by omega, i + 1, I₇, mu₇, ρ₇, oi₂, ys, nn, hlt, rfl, g.st, le'.trans g.le, b1, g.wd, b2, b3, ?_, W.frame _ _ _ st' b4⟩
        rw [List.take_add_one, ho, ho']
        simpa using ra.imp fun _ _ h => h.mono g.le
      have add : ∀ {ρ₇ s₇ I₇ mu₇ x av} {E' : Value → Shared → Prop}, GoS c (compEnvC scope cl C env) ω₁ ρ₇ ω₁ Ic (updL it oi₂ mu') I₇ mu₇ s₇ → Rv I₇ x av → o = some av →
          wpAny (model prg c.w) c.A (call (.builtin "list.append") [.ref D, x]) (fun _ s₅ => ∃ m, m < as.length + 1 - i ∧ J m s₅) E' s₇ := fun {ρ₇ s₇ I₇ mu₇ x av E'} g rx ho' => by
        obtain ⟨b1, b2, b3, b4⟩ := back g
        have hlenY : ys.size ≤ i := by
          have := ra.length
          rw [Array.length_toList] at this
          rw [this]
          refine Nat.le_trans (List.length_filterMap_le _ _) ?_
          rw [List.length_take]
          exact Nat.min_le_left _ _
        refine wpAny_list_append_plain ⟨nn, g.st.ow _ b3⟩ (fun h₈ hp₈ hs₈ => ?_) (by unfold sizeLine; omega)
        obtain ⟨n₈, e₈⟩ := hp₈
        have X₈ := g.st.upd (tk := s₇.toks) (dr := s₇.drawn) b3 hs₈ e₈ fun q => absurd q dL
        have fp8 : Fp c (· = D) mu₇ (updL D (listOf (ys.push x) n₈) mu₇) := ⟨fun p hp n _ => updL_mem hp n, fun o ho n => ⟨o.slots, updL_mem ho (Ne.symm dL)⟩, fun p hp => by rw [updL_keys]; exact List.mem_map_of_mem hp⟩
        have W₈ : Wd c (compEnvC scope cl C env) I₇ ρ₇ ω₁ (updL D (listOf (ys.push x) n₈) mu₇) := g.wd.step (HLe.refl _) fp8 (fun q => hDC (show C = D from q).symm) (fun q hq => by
          obtain ⟨o, h1, h2⟩ := g.wd.own q hq
          exact ⟨o, updL_mem h1 fun e => dk (e ▸ List.mem_map_of_mem hq), h2⟩) (Nw.refl _ _) g.wd.nd g.st.kL
        refine ⟨as.length + 1 - (i + 1), by omega, i + 1, I₇, _, ρ₇, oi₂, ys.push x, n₈, hlt, rfl, X₈, le'.trans g.le, b1.transP (fun a ha q => absurd ((show a = D from q) ▸ ha) dn) fp8, W₈, updL_mem b2 (Ne.symm dit), updL_self b3, ?_, W.frame _ _ _ st' fun b hb o e => ?_⟩
        · rw [List.take_add_one, ho, ho']
          simp only [Option.toList, List.filterMap_append, List.filterMap_cons, id, List.filterMap_nil]
          rw [Array.toList_push]
          exact (ra.imp fun _ _ h => h.mono g.le).append (.cons rx .nil)
        · have e7 := b4 b hb o e
          refine (hs₈.2 b fun q => ?_).trans e7
          rcases hf b hb with h | ⟨o', h⟩ | ⟨o', a', h, _⟩
          · exact dit (q ▸ h)
          · have := g.st.off _ b3
            rw [← q] at this
            rw [g.le _ _ (lev _ _ h)] at this; cases this
          · exact dn (q ▸ List.mem_map_of_mem (f := Prod.fst) h)
      unfold TN at TNi
      split at TNi
      · obtain ⟨av, ho', te⟩ := TNi
        refine wpAny_tests_nil ?_
        rw [if_pos rfl]
        exact te _ _ _ _ _ g₆.st g₆.wd fun x s₇ I₇ mu₇ g₇ r₇ => add (g₆.trans g₇.toS) r₇ ho'
      · obtain ⟨b, tt, f0, f1⟩ := TNi
        refine wpAny_tests_one (tt _ _ _ _ _ g₆.st g₆.wd fun s₇ I₇ mu₇ g₇ => ?_)
        cases b with
        | false =>
          rw [if_neg Bool.false_ne_true]
          exact okay (g₆.trans g₇.toS) (f0 rfl)
        | true =>
          rw [if_pos rfl]
          obtain ⟨av, ho', te⟩ := f1 rfl
          exact te _ _ _ _ _ g₇.st g₇.wd fun x s₈ I₈ mu₈ g₈ r₈ => add ((g₆.trans g₇.toS).trans g₈.toS) r₈ ho'
      · exact TNi.elim
    · have hin : i = as.length := by omega
      subst hin
      refine W.done _ _ _ st fun h' tk' hk => ?_
      have k' : ∀ b ob, b ≠ it → s'.heap.get? b = some ob → h'.get? b = some ob := fun b ob n e => hk b ob (by simpa using n) e
      have Xa := X'.drop (tk := tk') (dr := s'.drawn) mi itL k'
      have mem : ∀ p, p ∈ mu' → p.1 ≠ it → p ∈ mu'.filter (fun p => decide (p.1 ≠ it)) := fun p hp n => by simp [hp, n]
      have fpE : Fp c (In ω₁) mu₁ (mu'.filter fun p => decide (p.1 ≠ it)) := ⟨fun p hp n1 n2 => mem p (fp'.other p hp n1 n2) fun e => itn (e ▸ List.mem_map_of_mem hp), fun o ho n => by
          obtain ⟨sl, h1⟩ := fp'.fr o ho n
          exact ⟨sl, mem _ h1 (Ne.symm itL)⟩, fun p hp => by
          obtain ⟨q, hq, e⟩ := List.mem_map.mp (fp'.ks p hp)
          rw [← e]
          exact List.mem_map_of_mem (mem q hq fun e2 => itn (by have e : q.1 = p.1 := e; rw [← e2, e]; exact List.mem_map_of_mem hp))⟩
      have leF : HLe I₁ Ic := leA.trans le'
      refine k D C Ic _ _ ⟨Xa, leF, fpE, W₁.step leF fpE W₁.notIn (fun q hq => ?_) (Nw.refl _ _) W₁.nd X₁.kL, ⟨ys, nn, mem _ md dit, ?_⟩, ?_, dn, cn, hDC⟩
      · obtain ⟨o, h1, h2⟩ := W'.own q hq
        exact ⟨o, mem _ h1 fun e => itk (e ▸ List.mem_map_of_mem hq), h2⟩
      · rw [← hlen, List.take_length] at ra
        exact ra
      · obtain ⟨o, m, h1, h2⟩ := W'.loc
        exact ⟨o, m, mem _ h1 cit, h2⟩
  have hst₃ : St 0 h₃ := W.frame _ _ _ st₀ fun b hb o e => le23 _ _ (le12 _ _ e)
  have X₅ : S c (imm c ((C, oC) :: (D, listOf #[] 0) :: (it, oi) :: mu₁) h₃) ((C, oC) :: (D, listOf #[] 0) :: (it, oi) :: mu₁) { s₁ with heap := h₃, toks := tk + 0 } := X₄
  have L := loop _ rfl hst₃ X₅
  exact codeAny_compStart_list L (W.self 0 _ _ _ hst₃ L)
end
end Mine
set_option Elab.async false
set_option maxRecDepth 100000
set_option linter.unusedVariables false
namespace Mine
open PySem PySem.W PySem.Calls PyProof.Rows PySem.Spec PyProof.Rows.LCg

section
variable {c : Cx} {env : Env} {ρ ρ₁ ρ₂ ρ' : Vs} {ω ω₁ ω₂ ω₃ ω' : Os} {Ψ Ψ' : Fl → Vs → Os → Prop} {Φ Φ' : Os → Oc → Prop}

/-- an object nobody names is lost sight of -/
theorem Go.loseC {I₁ I' : Heap} {mu₁ mu' : Led} {s' : Shared} {C : Addr} {oC : Obj} {h' : Heap} (st : S c I' mu' s') (le : HLe I₁ I') (fp : Fp c (In ω₁) mu₁ mu') (wd : Wd c env I' ρ ω₁ mu') (X₁ : ∃ o, (c.L, o) ∈ mu₁) (lin : env.locals ∈ mu₁.map (·.1)) (kin : ∀ a ∈ keys ω₁, a ∈ mu₁.map (·.1))
    (cn : C ∉ mu₁.map (·.1)) (m : (C, oC) ∈ mu') (k : ∀ b ob, b ≠ C → s'.heap.get? b = some ob → h'.get? b = some ob) :
    Go c env ρ ω₁ ω₁ I₁ mu₁ I' (dropL C mu') { s' with heap := h' } := by
  have Lin : c.L ∈ mu₁.map (·.1) := let ⟨o, h⟩ := X₁; List.mem_map_of_mem (f := Prod.fst) h
  have cL : C ≠ c.L := fun e => cn (e ▸ Lin)
  have cl : C ≠ env.locals := fun e => cn (e ▸ lin)
  have ck : C ∉ keys ω₁ := fun h => cn (kin _ h)
  have X' := st.drop (tk := s'.toks) (dr := s'.drawn) m cL k
  have mem : ∀ p, p ∈ mu' → p.1 ≠ C → p ∈ dropL C mu' := fun p hp n => dropL_mem.mpr ⟨hp, n⟩
  refine ⟨X', le, ⟨fun p hp n1 n2 => mem p (fp.other p hp n1 n2) fun e => cn (e ▸ List.mem_map_of_mem hp), fun o ho n => ?_, fun p hp => ?_⟩, Nw.refl _ _, ⟨wd.ok, fun x av hx => ?_, ?_, fun q hq => ?_, wd.sep, wd.nd⟩⟩
  · obtain ⟨sl, h1⟩ := fp.fr o ho n
    exact ⟨sl, mem _ h1 (Ne.symm cL)⟩
  · obtain ⟨q, hq, e⟩ := List.mem_map.mp (fp.ks p hp)
    rw [← e]
    exact List.mem_map_of_mem (mem q hq fun e2 => cn (by have e : q.1 = p.1 := e; rw [← e2, e]; exact List.mem_map_of_mem hp))
  · obtain ⟨v, ⟨hk, o, m', h1, h2, h3⟩, r⟩ := wd.vars x av hx
    exact ⟨v, ⟨hk, o, m', mem _ h1 (Ne.symm cl), h2, h3⟩, r⟩
  · obtain ⟨o, m', h1, h2⟩ := wd.loc
    exact ⟨o, m', mem _ h1 (Ne.symm cl), h2⟩
  · obtain ⟨o, h1, h2⟩ := wd.own q hq
    exact ⟨o, mem _ h1 fun e => ck (e ▸ List.mem_map_of_mem hq), h2⟩

theorem lead {I₁ : Heap} {mu₁ : Led} (W₁ : Wd c env I₁ ρ ω₁ mu₁) : env.locals ∈ mu₁.map (·.1) ∧ ∀ a ∈ keys ω₁, a ∈ mu₁.map (·.1) :=
  ⟨let ⟨o, m, h, _⟩ := W₁.loc; List.mem_map_of_mem (f := Prod.fst) h, fun a ha => by
    obtain ⟨q, hq, rfl⟩ := List.mem_map.mp ha
    obtain ⟨o, h1, _⟩ := W₁.own q hq
    exact List.mem_map_of_mem (f := Prod.fst) h1⟩

/-- the list made is let go into what stands still -/
theorem CompEnd'.frozen {I₁ : Heap} {mu₁ : Led} {D C : Addr} {Ic : Heap} {mu' : Led} {s' : Shared} {ds : List PyData} {rs : List AV} (W₁ : Wd c env I₁ ρ ω₁ mu₁) (X₁ : ∃ o, (c.L, o) ∈ mu₁) (e : rs = ds.map .d) (z : CompEnd' c env ρ ω₁ rs I₁ mu₁ D C Ic mu' s') :
    ∃ I' mu'', S c I' mu'' s' ∧ HLe I₁ I' ∧ Fp c (In ω₁) mu₁ mu'' ∧ Wd c env I' ρ ω₁ mu'' ∧ Rv I' (.ref D) (.d (.list ds)) ∧ ∃ o m, (C, o) ∈ mu'' ∧ NsObj o m := by
  subst e
  obtain ⟨lin, kin⟩ := lead W₁
  have Lin : c.L ∈ mu₁.map (·.1) := let ⟨o, h⟩ := X₁; List.mem_map_of_mem (f := Prod.fst) h
  have dL : D ≠ c.L := fun e => z.dn (e ▸ Lin)
  have dl : D ≠ env.locals := fun e => z.dn (e ▸ lin)
  have dk : D ∉ keys ω₁ := fun h => z.dn (kin _ h)
  obtain ⟨vs, n, md, ra⟩ := z.dm
  obtain ⟨oC, mC, hC, nC⟩ := z.cm
  have Xp := z.st.perm (perm_head md z.st.nd)
  obtain ⟨Xf, lef, ef⟩ := Xp.freeze dL
  have mem : ∀ p, p ∈ mu' → p.1 ≠ D → p ∈ dropL D mu' := fun p hp n => dropL_mem.mpr ⟨hp, n⟩
  obtain ⟨as, ra'⟩ := reads_of_all2 (ra.imp fun _ _ h => h.mono lef)
  refine ⟨_, _, Xf, z.le.trans lef, ⟨fun p hp n1 n2 => mem p (z.fp.other p hp n1 n2) fun e => z.dn (e ▸ List.mem_map_of_mem hp), fun o ho n => ?_, fun p hp => ?_⟩, ⟨z.wd.ok, fun x av hx => ?_, ?_, fun q hq => ?_, z.wd.sep, z.wd.nd⟩, ⟨_, reads_list_at ef rfl rfl ra'⟩, oC, mC, mem _ hC (Ne.symm z.dc), nC⟩
  · obtain ⟨sl, h1⟩ := z.fp.fr o ho n
    exact ⟨sl, mem _ h1 (Ne.symm dL)⟩
  · obtain ⟨q, hq, e⟩ := List.mem_map.mp (z.fp.ks p hp)
    rw [← e]
    exact List.mem_map_of_mem (mem q hq fun e2 => z.dn (by have e : q.1 = p.1 := e; rw [← e2, e]; exact List.mem_map_of_mem hp))
  · obtain ⟨v, ⟨hk, o, m', h1, h2, h3⟩, r⟩ := z.wd.vars x av hx
    exact ⟨v, ⟨hk, o, m', mem _ h1 (Ne.symm dl), h2, h3⟩, r.mono lef⟩
  · obtain ⟨o, m', h1, h2⟩ := z.wd.loc
    exact ⟨o, m', mem _ h1 (Ne.symm dl), h2⟩
  · obtain ⟨o, h1, h2⟩ := z.wd.own q hq
    exact ⟨o, mem _ h1 fun e => dk (e ▸ List.mem_map_of_mem hq), h2.mono lef⟩

/-- the sameness of a comprehension's two ends -/
structure CompOk (c : Cx) (env : Env) (scope : Scope) (cl : List (Str × Addr)) (iter : Expr) : Prop where
  clos : closureFor scope env = pure cl
  cell : ∀ y ∈ scope.names, y.2 ≠ .cell
  kind : scope.kind = .function
  names : ∀ x ∈ scope.names, x.2 = .local → scope.names.lookup x.1 = some .local
  fold : ∀ x, foldedSetIterable iter env x = pure x

theorem TE.comp {lv : Nat} {elt target iter : Expr} {ifs : List Expr} {scope : Scope} {pos : Pos} {av : AV} {as : List AV} (cl : List (Str × Addr)) (out : List (Option PyData)) (ρt : AV → Vs) (hc : c.Ok lv) (ok : CompOk c env scope cl iter) (hi : TE c env ρ ω iter ω₁ av) (hs : SRC c env ρ ω₁ av as) (hlen : out.length = as.length) (hsz : as.length ≤ 1000)
    (hta : ∀ C ρ' a, a ∈ as → TA c (compEnvC scope cl C env) ρ' ω₁ target a (ρt a ++ ρ'))
    (hb : ∀ C ρ' (i : Nat) (a : AV) (o : Option PyData), as[i]? = some a → out[i]? = some o → TN c (compEnvC scope cl C env) (ρt a ++ ρ') ω₁ ifs elt (o.map .d)) :
    TE c env ρ ω (.ListComp elt [⟨target, iter, ifs, 0⟩] scope pos) ω₁ (.d (.list (out.filterMap id))) := fun I mu s Q E X W q => by
  rw [eval_ListComp]
  refine wpAny_comprehension_free (use := none) rfl ok.fold ok.clos ok.kind ok.names (hi I mu s _ _ X W fun v s₁ I₁ mu₁ g₁ r₁ => ?_)
  refine comp_core (RR := fun acc C => compPost (model prg c.w) c.A E none Q acc C) (out := out.map fun o => o.map .d) hc g₁.st g₁.wd r₁ hs ok.cell ok.kind (by rw [List.length_map, hlen]) hsz hta (fun C ρ' i a o h1 h2 => ?_) fun D C Ic mu' s' z => ?_
  · rw [List.getElem?_map] at h2
    obtain ⟨o', h3, rfl⟩ := Option.map_eq_some_iff.mp h2
    exact hb C ρ' i a o' h1 h3
  · obtain ⟨I', mu'', X', le', fp', W', rv, oC, mC, hC, nC⟩ := z.frozen (ds := out.filterMap id) g₁.wd g₁.st.kL (by
      rw [List.filterMap_map, List.map_filterMap]; rfl)
    refine ⟨mC, nC.ns (X'.ow _ hC), fun h' hs' => ?_⟩
    obtain ⟨lin, kin⟩ := lead g₁.wd
    have G := Go.loseC X' le' fp' W' g₁.st.kL lin kin z.cn hC (h' := h') fun b ob n e => (hs'.2 b n).trans e
    exact q _ _ _ _ (g₁.trans G) rv

/-- the list made is owned from now on -/
theorem TV.comp {lv : Nat} {elt target iter : Expr} {ifs : List Expr} {scope : Scope} {pos : Pos} {av : AV} {as : List AV} (cl : List (Str × Addr)) (out : List (Option AV)) (ρt : AV → Vs) (hc : c.Ok lv) (ok : CompOk c env scope cl iter) (hi : TE c env ρ ω iter ω₁ av) (hs : SRC c env ρ ω₁ av as) (hlen : out.length = as.length) (hsz : as.length ≤ 1000)
    (hta : ∀ C ρ' a, a ∈ as → TA c (compEnvC scope cl C env) ρ' ω₁ target a (ρt a ++ ρ'))
    (hb : ∀ C ρ' (i : Nat) (a : AV) (o : Option AV), as[i]? = some a → out[i]? = some o → TN c (compEnvC scope cl C env) (ρt a ++ ρ') ω₁ ifs elt o)
    (hp : ∀ D, D ∉ keys ω₁ → Φ ((D, .list (out.filterMap id)) :: ω₁) (.val (vR D))) :
    TV c env ρ ω (.ListComp elt [⟨target, iter, ifs, 0⟩] scope pos) Φ := fun I mu s Q E X W q => by
  rw [eval_ListComp]
  refine wpAny_comprehension_free (use := none) rfl ok.fold ok.clos ok.kind ok.names (hi I mu s _ _ X W fun v s₁ I₁ mu₁ g₁ r₁ => ?_)
  refine comp_core (RR := fun acc C => compPost (model prg c.w) c.A E none Q acc C) hc g₁.st g₁.wd r₁ hs ok.cell ok.kind hlen hsz hta hb fun D C Ic mu' s' z => ?_
  obtain ⟨oC, mC, hC, nC⟩ := z.cm
  refine ⟨mC, nC.ns (z.st.ow _ hC), fun h' hs' => ?_⟩
  obtain ⟨lin, kin⟩ := lead g₁.wd
  have G := Go.loseC z.st z.le z.fp z.wd g₁.st.kL lin kin z.cn hC (h' := h') fun b ob n e => (hs'.2 b n).trans e
  obtain ⟨vs, n, md, ra⟩ := z.dm
  have dk : D ∉ keys ω₁ := fun h => z.dn (kin _ h)
  have md' : (D, listOf vs n) ∈ dropL C mu' := dropL_mem.mpr ⟨md, z.dc⟩
  have G' : Go c env ρ ω₁ ((D, .list (out.filterMap id)) :: ω₁) I₁ mu₁ Ic (dropL C mu') { s' with heap := h' } := ⟨G.st, G.le, G.fp, fun a ha => by
      rcases List.mem_cons.mp ha with rfl | ha
      · exact .inr z.dn
      · exact .inl ha, ⟨G.wd.ok, G.wd.vars, G.wd.loc, fun q hq => by
      rcases List.mem_cons.mp hq with rfl | hq
      · exact ⟨_, md', vs, n, rfl, ra⟩
      · exact G.wd.own q hq, fun q hq => by
      rcases List.mem_cons.mp hq with rfl | hq
      · refine ⟨fun e => z.dn ((show D = env.locals from e) ▸ lin), fun e => z.dn ((show D = c.L from e) ▸ ?_)⟩
        obtain ⟨o, h⟩ := g₁.st.kL
        exact List.mem_map_of_mem (f := Prod.fst) h
      · exact G.wd.sep q hq, List.nodup_cons.mpr ⟨dk, G.wd.nd⟩⟩⟩
  exact q.on (.ref D) (vR D) _ _ _ _ (g₁.trans G') (show Value.ref D = Value.ref D from rfl) (hp D dk)

theorem TX.assignComp {lv : Nat} {y : Str} {py : Pos} {elt target iter : Expr} {ifs : List Expr} {scope : Scope} {pos spos : Pos} {av : AV} {as : List AV} (cl : List (Str × Addr)) (out : List (Option PyData)) (ρt : AV → Vs) (hc : c.Ok lv) (ok : CompOk c env scope cl iter) (hi : TE c env ρ ω iter ω₁ av) (hs : SRC c env ρ ω₁ av as) (hlen : out.length = as.length) (hsz : as.length ≤ 1000)
    (hsw : swapsWith (.ListComp elt [⟨target, iter, ifs, 0⟩] scope pos) (some (.Name y py)) spos.line env = pure true) (hy : env.kindOf y = some .local)
    (hta : ∀ C ρ' a, a ∈ as → TA c (compEnvC scope cl C env) ρ' ω₁ target a (ρt a ++ ρ'))
    (hb : ∀ C ρ' (i : Nat) (a : AV) (o : Option PyData), as[i]? = some a → out[i]? = some o → TN c (compEnvC scope cl C env) (ρt a ++ ρ') ω₁ ifs elt (o.map .d)) :
    TX c env ρ ω (.Assign [.Name y py] (.ListComp elt [⟨target, iter, ifs, 0⟩] scope pos) spos) (Nx ((y, .d (.list (out.filterMap id))) :: ρ) ω₁) := fun I mu s Q E X W k => by
  rw [exec_Assign_Name_used _ _ _ _ hsw]
  refine wpAny_bind (wpAny_standAt (wpAny_bind ?_))
  show wpAny (model prg c.w) c.A (do let _ ← comprehension (.ListComp elt [⟨target, iter, ifs, 0⟩] scope pos) scope env (firstIterPos [⟨target, iter, ifs, 0⟩] pos) (newList []) false (eval iter env) (some (PySem.assign (PySem.Expr.Name y py) env)) : Sem Unit) _ _ s
  refine wpAny_bind (wpAny_mono (wpAny_comprehension_free (use := some (PySem.assign (PySem.Expr.Name y py) env)) (Q := fun _ s' => Q .next s') rfl ok.fold ok.clos ok.kind ok.names
    (hi I mu s _ _ X W fun v s₁ I₁ mu₁ g₁ r₁ => ?_)) (fun _ s' hq => wpAny_pure (wpAny_pure hq)) fun _ _ e => e)
  refine comp_core (RR := fun acc C => compPost (model prg c.w) c.A E (some (PySem.assign (PySem.Expr.Name y py) env)) (fun _ s' => Q .next s') acc C) (out := out.map fun o => o.map .d) hc g₁.st g₁.wd r₁ hs ok.cell ok.kind (by rw [List.length_map, hlen]) hsz hta (fun C ρ' i a o h1 h2 => ?_) fun D C Ic mu' s' z => ?_
  · rw [List.getElem?_map] at h2
    obtain ⟨o', h3, rfl⟩ := Option.map_eq_some_iff.mp h2
    exact hb C ρ' i a o' h1 h3
  · obtain ⟨I', mu'', X', le', fp', W', rv, oC, mC, hC, nC⟩ := z.frozen (ds := out.filterMap id) g₁.wd g₁.st.kL (by
      rw [List.filterMap_map, List.map_filterMap]; rfl)
    obtain ⟨lin, kin⟩ := lead g₁.wd
    show wpAny _ _ (PySem.assign (PySem.Expr.Name y py) env (.ref D)) _ _ _
    refine wpAny_assign_Name (wp_store X' W' rv hy fun s₂ I₂ mu₂ g₂ => ?_)
    have cL : C ≠ c.L := fun e => z.cn (by obtain ⟨o, h⟩ := g₁.st.kL; rw [e]; exact List.mem_map_of_mem (f := Prod.fst) h)
    have nC' : ¬ InS env ω₁ C := fun h => h.elim (fun h => z.cn (kin _ h)) fun h => z.cn ((show C = env.locals from h) ▸ lin)
    have hC₂ := g₂.fp.other _ hC nC' cL
    refine ⟨mC, nC.ns (g₂.st.ow _ hC₂), fun h' hs' => ?_⟩
    have G : GoS c env ω₁ ρ ω₁ I₁ mu₁ I' mu'' s' := ⟨X', le', fp'.mono fun _ h => .inl h, Nw.refl _ _, W'⟩
    have G2 := G.trans g₂
    have G3 := G2.lose (h' := h') (tk := s₂.toks) z.cn hC₂ cL (fun e => z.cn (e ▸ lin)) (fun h => z.cn (kin _ h)) fun b ob n e => (hs'.2 b n).trans e
    exact k.on .next .next _ _ _ _ _ (g₁.toS.trans G3) trivial ⟨rfl, rfl, rfl⟩
end
end Mine
set_option Elab.async false
set_option maxRecDepth 100000
set_option linter.unusedVariables false
namespace Mine
open PySem PySem.W PySem.Calls PyProof.Rows PySem.Spec PyProof.Rows.LCg

section
variable {c : Cx} {env : Env} {ρ ρ₁ ρ₂ ρ' : Vs} {ω ω₁ ω₂ ω₃ ω' : Os} {Ψ Ψ' : Fl → Vs → Os → Prop} {Φ Φ' : Os → Oc → Prop}

/-! ## lists -/
noncomputable def HasL (ω : Os) (l : Addr) (xs : List AV) : Prop := (l, AO.list xs) ∈ ω ∨ ∃ o, (l, AO.exact o (.list xs)) ∈ ω
theorem list_at {I : Heap} {mu : Led} {s : Shared} {l : Addr} {xs : List AV} (X : S c I mu s) (W : Wd c env I ρ ω mu) (h : HasL ω l xs) : ∃ vs n, (l, listOf vs n) ∈ mu ∧ All2 (Rv I) vs.toList xs := by
  rcases h with h | ⟨o', h⟩
  · obtain ⟨o, h1, vs, n, rfl, h2⟩ := W.own _ h
    exact ⟨vs, n, h1, h2⟩
  · obtain ⟨o, h1, h2⟩ := W.own _ h
    obtain ⟨e, vs, n, e', h2⟩ : o = o' ∧ Ro c.w I o' (.list xs) := h2
    subst e e'
    exact ⟨vs, n, h1, h2⟩
/-- a list of such values, own or frozen -/
noncomputable def IsLst (ω : Os) (av : AV) (xs : List AV) : Prop := (∃ ds, av = .d (.list ds) ∧ xs = ds.map .d) ∨ (∃ l, av = vR l ∧ HasL ω l xs)
theorem IsLst.d (ds : List PyData) : IsLst ω (.d (.list ds)) (ds.map .d) := .inl ⟨ds, rfl, rfl⟩
theorem IsLst.own {l : Addr} {xs : List AV} (h : HasL ω l xs) : IsLst ω (vR l) xs := .inr ⟨l, rfl, h⟩
theorem IsLst.at {I : Heap} {mu : Led} {s : Shared} {v : Value} {av : AV} {xs : List AV} (h : IsLst ω av xs) (X : S c I mu s) (W : Wd c env I ρ ω mu) (r : Rv I v av) : ∃ a vs, v = .ref a ∧ s.heap.IsList a vs.toArray ∧ All2 (Rv I) vs xs := by
  rcases h with ⟨ds, rfl, rfl⟩ | ⟨l, rfl, h⟩
  · obtain ⟨as, r⟩ := r
    obtain ⟨a, l, bs, rfl, -, hl, ra⟩ := reads_list_items r
    exact ⟨a, l, rfl, let ⟨o, h, h'⟩ := hl; ⟨o, X.im _ _ h, h'⟩, all2_of_reads ra⟩
  · have r : v = .ref l := r
    subst r
    obtain ⟨vs, n, h1, h2⟩ := list_at X W h
    exact ⟨l, vs.toList, rfl, ⟨_, X.ow _ h1, rfl, n, by simp⟩, h2⟩
/-- what can be read as data now -/
noncomputable def DataOf (ω : Os) (av : AV) (p : PyData) : Prop := av = .d p ∨ ∃ l ds, av = vR l ∧ p = .list ds ∧ HasL ω l (ds.map .d)
theorem DataOf.d (p : PyData) : DataOf ω (.d p) p := .inl rfl
theorem DataOf.own {l : Addr} {ds : List PyData} (h : HasL ω l (ds.map .d)) : DataOf ω (vR l) (.list ds) := .inr ⟨l, ds, rfl, rfl, h⟩
theorem DataOf.at {I : Heap} {mu : Led} {s : Shared} {v : Value} {av : AV} {p : PyData} (h : DataOf ω av p) (X : S c I mu s) (W : Wd c env I ρ ω mu) (r : Rv I v av) : ∃ as, Reads s.heap v p as := by
  rcases h with rfl | ⟨l, ds, rfl, rfl, h⟩
  · obtain ⟨as, r⟩ := r
    exact ⟨as, Reads.keeps X.im r⟩
  · have r : v = .ref l := r
    subst r
    obtain ⟨vs, n, h1, h2⟩ := list_at X W h
    obtain ⟨as, ra⟩ := reads_of_all2 h2
    exact ⟨_, reads_list_at (X.ow _ h1) rfl rfl (ReadsAll.keeps X.im ra)⟩

theorem OpR.eqX {a b : AV} {p q : PyData} {n m lv : Nat} (hc : c.Ok lv) (ha : DataOf ω a p) (hb : DataOf ω b q) (na : Nice p n) (nb : Nice q m) (hn : n ≤ 64) (hm : m ≤ 64) (hv : lv ≤ 20) : OpR c env ρ ω .Eq a b (PyData.eqv p q) := fun I mu s u v Q E X W r1 r2 h => by
  obtain ⟨as, r1⟩ := ha.at X W r1
  obtain ⟨bs, r2⟩ := hb.at X W r2
  refine eq_dataH r1 r2 (na.shaped hn) (nb.shaped hm) ?_ (h _ _ _ (Go.refl X W))
  have := hc.units
  unfold cLine
  omega
theorem OpR.neX {a b : AV} {p q : PyData} {n m lv : Nat} (hc : c.Ok lv) (ha : DataOf ω a p) (hb : DataOf ω b q) (na : Nice p n) (nb : Nice q m) (hn : n ≤ 64) (hm : m ≤ 64) (hv : lv ≤ 20) : OpR c env ρ ω .NotEq a b (!PyData.eqv p q) := fun I mu s u v Q E X W r1 r2 h => by
  obtain ⟨as, r1⟩ := ha.at X W r1
  obtain ⟨bs, r2⟩ := hb.at X W r2
  refine ne_dataH r1 r2 (na.shaped hn) (nb.shaped hm) ?_ (h _ _ _ (Go.refl X W))
  have := hc.units
  unfold cLine
  omega

theorem ints_of {I : Heap} : ∀ {vs : List Value} {ns : List Int}, All2 (Rv I) vs (ns.map dI) → IntsAre vs ns
  | [], [], _ => .nil
  | v :: vs, n :: ns, .cons r t => by
    obtain ⟨tk, rfl⟩ := r.int
    exact .cons n tk (ints_of t)
theorem strs_of {I : Heap} : ∀ {vs : List Value} {ns : List Str}, All2 (Rv I) vs (ns.map dS) → StrsAre vs ns
  | [], [], _ => .nil
  | v :: vs, n :: ns, .cons r t => by
    obtain ⟨tk, rfl⟩ := r.str
    exact .cons n tk (strs_of t)
theorem of_ints (I : Heap) : ∀ {vs : List Value} {ns : List Int}, IntsAre vs ns → All2 (Rv I) vs (ns.map dI)
  | _, _, .nil => .nil
  | _, _, .cons n t h => .cons ⟨_, Reads.int n t⟩ (of_ints I h)
theorem of_strs (I : Heap) : ∀ {vs : List Value} {ns : List Str}, StrsAre vs ns → All2 (Rv I) vs (ns.map dS)
  | _, _, .nil => .nil
  | _, _, .cons n t h => .cons ⟨_, Reads.str n t⟩ (of_strs I h)

theorem GM.list {l : Addr} {xs : List AV} {x : Str} {id : String} (h : HasL ω l xs) (slot : Slot "list" x id) (ty : typeOf (.builtin id) = pure (.type "method_descriptor")) : GM c env ρ ω (vR l) x id := fun I mu s v pl Q E X W r q => by
  have r : v = .ref l := r
  subst r
  obtain ⟨vs, n, h1, h2⟩ := list_at X W h
  have hL := X.ow _ h1
  exact getMethod_builtin (T := "list") ⟨_, hL, rfl⟩ PySem.F.plainAttrs_list slot ty (fun a e => by cases e; exact ⟨_, hL, rfl⟩) q
theorem rN (I : Heap) : Rv I .none dN := ⟨_, Reads.none⟩
theorem rI (I : Heap) (i : Int) (t : Tok) : Rv I (.int i t) (dI i) := ⟨_, Reads.int _ _⟩
theorem rB (I : Heap) (b : Bool) : Rv I (.bool b) (dB b) := ⟨_, Reads.bool _⟩
theorem rS (I : Heap) (x : Str) (t : Tok) : Rv I (.str x t) (dS x) := ⟨_, Reads.str _ _⟩
theorem eraseIdx_map {α β : Type} (f : α → β) : ∀ (l : List α) (j : Nat), (l.eraseIdx j).map f = (l.map f).eraseIdx j
  | [], j => by simp
  | a :: l, 0 => rfl
  | a :: l, j + 1 => by simp [eraseIdx_map f l j]

theorem CB.append {l : Addr} {xs : List AV} {a : AV} (h : (l, AO.list xs) ∈ ω) (hz : xs.length ≤ 1000) (hp : Φ (updO l (.list (xs ++ [a])) ω) (.val dN)) : CB c env ρ ω (.builtin "list.append") [vR l, a] Φ := fun I mu s vals Q E X W r q => by
  obtain ⟨v1, v2, rfl, r1, r2⟩ := r.two
  have r1 : v1 = .ref l := r1
  subst r1
  obtain ⟨vs, n, h1, h2⟩ := list_at X W (.inl h)
  have hl := h2.length
  rw [Array.length_toList] at hl
  refine wpAny_list_append_plain ⟨n, X.ow _ h1⟩ (fun h' hp' hs' => ?_) (by unfold sizeLine; omega)
  obtain ⟨n', e'⟩ := hp'
  have X' := X.upd (tk := s.toks) (dr := s.drawn) h1 hs' e' fun q => absurd q (W.sep _ h).2
  obtain ⟨W', fp, nw⟩ := wd_put (o' := listOf (vs.push v2) n') W X.kL ⟨_, h1⟩ h (show Ro c.w I (listOf (vs.push v2) n') (.list (xs ++ [a])) from ⟨_, _, rfl, by rw [Array.toList_push]; exact h2.append (.cons r2 .nil)⟩)
  exact q.on _ _ _ _ _ _ ⟨X', .refl _, fp, nw, W'⟩ (rN _) hp

theorem CB.count {av : AV} {ns : List Int} {k : Int} (h : IsLst ω av (ns.map dI)) (hp : Φ ω (.val (dI (ns.count k : Nat)))) : CB c env ρ ω (.builtin "list.count") [av, dI k] Φ := fun I mu s vals Q E X W r q => by
  obtain ⟨v1, v2, rfl, r1, r2⟩ := r.two
  obtain ⟨a, vs, rfl, hl, ra⟩ := h.at X W r1
  obtain ⟨t, rfl⟩ := r2.int
  exact count_list_ints hl (ints_of ra) (q.on _ _ _ _ _ _ (Go.toks X W) (rI _ _ _) hp)
theorem OpR.inI {av : AV} {ns : List Int} {k : Int} (h : IsLst ω av (ns.map dI)) : OpR c env ρ ω .In (dI k) av (ns.any (· == k)) := fun I mu s u v Q E X W r1 r2 q => by
  obtain ⟨t, rfl⟩ := r1.int
  obtain ⟨a, vs, rfl, hl, ra⟩ := h.at X W r2
  exact in_list_ints hl (ints_of ra) (q _ _ _ (Go.refl X W))
theorem OpR.notinI {av : AV} {ns : List Int} {k : Int} (h : IsLst ω av (ns.map dI)) : OpR c env ρ ω .NotIn (dI k) av (!(ns.any (· == k))) := fun I mu s u v Q E X W r1 r2 q => by
  obtain ⟨t, rfl⟩ := r1.int
  obtain ⟨a, vs, rfl, hl, ra⟩ := h.at X W r2
  exact notin_list_ints hl (ints_of ra) (q _ _ _ (Go.refl X W))
theorem OpR.inS {av : AV} {ns : List Str} {k : Str} (h : IsLst ω av (ns.map dS)) : OpR c env ρ ω .In (dS k) av (ns.any (· == k)) := fun I mu s u v Q E X W r1 r2 q => by
  obtain ⟨t, rfl⟩ := r1.str
  obtain ⟨a, vs, rfl, hl, ra⟩ := h.at X W r2
  exact in_list_strs hl (strs_of ra) (q _ _ _ (Go.refl X W))

theorem all2_erase {I : Heap} : ∀ {vs : List Value} {xs : List AV} (j : Nat), All2 (Rv I) vs xs → All2 (Rv I) (vs.eraseIdx j) (xs.eraseIdx j)
  | [], [], j, _ => by simpa using All2.nil
  | v :: vs, x :: xs, 0, .cons r t => t
  | v :: vs, x :: xs, j + 1, .cons r t => .cons r (all2_erase j t)
theorem ints_get {vs : List Value} {ns : List Int} (h : IntsAre vs ns) {j : Nat} {v : Value} (e : vs[j]? = some v) : ∃ n t, ns[j]? = some n ∧ v = .int n t := by
  induction h generalizing j with
  | nil => simp at e
  | cons n t h ih =>
    cases j with
    | zero => simp at e; exact ⟨n, t, by simp, e.symm⟩
    | succ j => simpa using ih (by simpa using e)
theorem CB.remove {l : Addr} {ns : List Int} {k : Int} (h : (l, AO.list (ns.map dI)) ∈ ω) (hk : k ∈ ns) (hz : ns.length ≤ 1000) (hp : Φ (updO l (.list ((ns.erase k).map dI)) ω) (.val dN)) : CB c env ρ ω (.builtin "list.remove") [vR l, dI k] Φ := fun I mu s vals Q E X W r q => by
  obtain ⟨v1, v2, rfl, r1, r2⟩ := r.two
  have r1 : v1 = .ref l := r1
  subst r1
  obtain ⟨t, rfl⟩ := r2.int
  obtain ⟨vs, n, h1, h2⟩ := list_at X W (.inl h)
  have hi := ints_of h2
  have hl := h2.length
  rw [Array.length_toList, List.length_map] at hl
  have hj : ns.idxOf k < ns.length := List.idxOf_lt_length_of_mem hk
  have at_ : ∀ m (hm : m < vs.size), ∃ t, vs[m] = .int (ns[m]'(by omega)) t := fun m hm => by
    obtain ⟨n', t', e1, e2⟩ := ints_get hi (j := m) (v := vs[m]) (by rw [Array.getElem?_toList]; simp [hm])
    rw [List.getElem?_eq_getElem (by omega)] at e1
    cases e1
    exact ⟨t', e2⟩
  refine call_meets PySem.F.slot_list_remove ⟨_, X.ow _ h1, rfl⟩ PySem.F.entry_list_remove (PySem.F.args_list_remove_2 _ _)
    (MeetsSeq.list_remove l vs n (.int k t) (isInt k) (fun y hy => eq_isInt k t hi y (by simpa using hy)) (ns.idxOf k) (by omega) ?_ (fun m hm hmj => ?_) (by unfold sizeLine; omega)) ⟨X.ow _ h1, ?_⟩
  · obtain ⟨t', e⟩ := at_ (ns.idxOf k) (by omega)
    rw [e]
    simp [isInt]
  · obtain ⟨t', e⟩ := at_ m hm
    rw [e]
    have : ns[m]'(by omega) ≠ k := fun e' => by
      have h := List.not_of_lt_findIdx (p := fun x => x == k) (xs := ns) (i := m) hmj
      simp [e'] at h
    simpa [isInt] using this
  · have hs' : Heap.SameBut l s.heap (s.heap.update l (Obj.mapSeq fun xs => xs.eraseIdxIfInBounds (ns.idxOf k))) := Heap.SameBut.update ..
    obtain ⟨n', e'⟩ : ∃ n', (s.heap.update l (Obj.mapSeq fun xs => xs.eraseIdxIfInBounds (ns.idxOf k))).get? l = some (listOf (vs.eraseIdxIfInBounds (ns.idxOf k)) n') := ⟨_, get?_update_seq (X.ow _ h1) _⟩
    have X' := X.upd (tk := s.toks) (dr := s.drawn) h1 hs' e' fun q => absurd q (W.sep _ h).2
    obtain ⟨W', fp, nw⟩ := wd_put (o' := listOf (vs.eraseIdxIfInBounds (ns.idxOf k)) n') W X.kL ⟨_, h1⟩ h (show Ro c.w I (listOf (vs.eraseIdxIfInBounds (ns.idxOf k)) n') (.list ((ns.erase k).map dI)) from ⟨_, _, rfl, by
      have e1 : (vs.eraseIdxIfInBounds (ns.idxOf k)).toList = vs.toList.eraseIdx (ns.idxOf k) := by
        obtain ⟨l⟩ := vs
        simp
      have e2 : (ns.erase k).map dI = (ns.map dI).eraseIdx (ns.idxOf k) := by rw [List.erase_eq_eraseIdx_of_idxOf rfl, eraseIdx_map]
      rw [e1, e2]
      exact all2_erase _ h2⟩)
    exact q.on _ _ _ _ _ _ ⟨X', .refl _, fp, nw, W'⟩ (rN _) hp
end
end Mine
set_option Elab.async false
set_option maxRecDepth 100000
set_option linter.unusedVariables false
namespace Mine
open PySem PySem.W PySem.Calls PyProof.Rows PySem.Spec PyProof.Rows.LCg

/-! ## the table of a set: its places rise -/
structure Lain (t : SetTable) : Prop where
  rise : t.place.toList.Pairwise (· < ·)
  dum : t.dummies = #[]

theorem below_go {xs : Array Nat} {j : Nat} (hr : xs.toList.Pairwise (· < ·)) : ∀ (fuel lo hi : Nat), lo ≤ hi → hi ≤ xs.size → hi - lo ≤ fuel → (∀ i (h : i < xs.size), i < lo → xs[i] < j) → (∀ i (h : i < xs.size), hi ≤ i → j ≤ xs[i]) →
    ∃ p, SetTable.below.go xs j fuel lo hi = p ∧ p ≤ xs.size ∧ (∀ i (h : i < xs.size), i < p → xs[i] < j) ∧ (∀ i (h : i < xs.size), p ≤ i → j ≤ xs[i]) := by
  intro fuel
  induction fuel with
  | zero =>
    intro lo hi h1 h2 h3 a b
    have : lo = hi := by omega
    subst this
    exact ⟨lo, rfl, h2, a, b⟩
  | succ n ih =>
    intro lo hi h1 h2 h3 a b
    unfold SetTable.below.go
    have mono : ∀ i k (hi : i < xs.size) (hk : k < xs.size), i < k → xs[i] < xs[k] := fun i k hi hk h => by
      have := List.pairwise_iff_getElem.mp hr i k (by simpa using hi) (by simpa using hk) h
      simpa using this
    by_cases h : lo < hi
    · rw [if_pos h]
      have hm : (lo + hi) / 2 < xs.size := by omega
      have e : xs.getD ((lo + hi) / 2) j = xs[(lo + hi) / 2] := by simp [Array.getD, hm]
      dsimp only
      rw [e]
      by_cases c : xs[(lo + hi) / 2] < j
      · rw [if_pos c]
        refine ih _ _ (by omega) h2 (by omega) (fun i hi' hl => ?_) b
        rcases Nat.lt_or_ge i ((lo + hi) / 2) with q | q
        · exact Nat.lt_trans (mono _ _ hi' hm q) c
        · have : i = (lo + hi) / 2 := by omega
          subst this; exact c
      · rw [if_neg c]
        refine ih _ _ (by omega) (by omega) (by omega) a fun i hi' hl => ?_
        rcases Nat.lt_or_ge ((lo + hi) / 2) i with q | q
        · exact Nat.le_of_lt (Nat.lt_of_le_of_lt (Nat.le_of_not_lt c) (mono _ _ hm hi' q))
        · have : i = (lo + hi) / 2 := by omega
          subst this; exact Nat.le_of_not_lt c
    · rw [if_neg h]
      have : lo = hi := by omega
      subst this
      exact ⟨lo, rfl, h2, a, b⟩
theorem below_spec {xs : Array Nat} (hr : xs.toList.Pairwise (· < ·)) (j : Nat) :
    SetTable.below xs j ≤ xs.size ∧ (∀ i (h : i < xs.size), i < SetTable.below xs j → xs[i] < j) ∧ (∀ i (h : i < xs.size), SetTable.below xs j ≤ i → j ≤ xs[i]) := by
  obtain ⟨p, e, h⟩ := below_go (j := j) hr xs.size 0 xs.size (Nat.zero_le _) (Nat.le_refl _) (by omega) (fun i _ h => absurd h (Nat.not_lt_zero _)) (fun i h h' => absurd h (Nat.not_lt_of_le h'))
  unfold SetTable.below
  rw [e]
  exact h
/-- the place of the i-th, and behind it -/
theorem below_at {xs : Array Nat} (hr : xs.toList.Pairwise (· < ·)) (i : Nat) (h : i < xs.size) : SetTable.below xs (xs[i] + 1) = i + 1 := by
  obtain ⟨a, b, c⟩ := below_spec hr (xs[i] + 1)
  have mono : ∀ i k (hi : i < xs.size) (hk : k < xs.size), i < k → xs[i] < xs[k] := fun i k hi hk h => by
    have := List.pairwise_iff_getElem.mp hr i k (by simpa using hi) (by simpa using hk) h
    simpa using this
  have h1 : ¬ SetTable.below xs (xs[i] + 1) ≤ i := fun q => by have := c i h q; omega
  have h2 : ¬ i + 1 < SetTable.below xs (xs[i] + 1) := fun q => by
    have hk : i + 1 < xs.size := by omega
    have := b (i + 1) hk q
    have := mono i (i + 1) h hk (Nat.lt_succ_self _)
    omega
  omega
theorem below_zero {xs : Array Nat} (hr : xs.toList.Pairwise (· < ·)) : SetTable.below xs 0 = 0 := by
  obtain ⟨a, b, c⟩ := below_spec hr 0
  rcases Nat.eq_zero_or_pos (SetTable.below xs 0) with h | h
  · exact h
  · exact absurd (b 0 (by omega) h) (Nat.not_lt_zero _)

theorem rise_insert {xs : Array Nat} (hr : xs.toList.Pairwise (· < ·)) {j : Nat} (hj : xs[SetTable.below xs j]? ≠ some j) : (SetTable.insertAt xs (SetTable.below xs j) j).toList.Pairwise (· < ·) := by
  obtain ⟨a, b, c⟩ := below_spec hr j
  generalize hp : SetTable.below xs j = p at a b c hj
  rw [SetTable.toList_insertAt]
  have mono : ∀ i k (hi : i < xs.size) (hk : k < xs.size), i < k → xs[i] < xs[k] := fun i k hi hk h => by
    have := List.pairwise_iff_getElem.mp hr i k (by simpa using hi) (by simpa using hk) h
    simpa using this
  have up : ∀ i (h : i < xs.size), p ≤ i → j < xs[i] := fun i h hpi => by
    have h1 := c i h hpi
    have hps : p < xs.size := Nat.lt_of_le_of_lt hpi h
    have h2 : xs[p] ≠ j := fun e => hj (by rw [Array.getElem?_eq_getElem hps, e])
    have h3 := c p hps (Nat.le_refl _)
    rcases Nat.lt_or_ge p i with q | q
    · have := mono p i hps h q; omega
    · have : i = p := by omega
      subst this; omega
  have lo : ∀ x ∈ xs.toList.take p, x < j := fun x hx => by
    obtain ⟨i, hi, e⟩ := List.getElem_of_mem hx
    rw [List.length_take] at hi
    rw [List.getElem_take] at e
    rw [← e]
    have := b i (by simp at hi; omega) (by omega)
    simpa using this
  have hi : ∀ x ∈ xs.toList.drop p, j < x := fun x hx => by
    obtain ⟨i, hi, e⟩ := List.getElem_of_mem hx
    rw [List.length_drop] at hi
    rw [List.getElem_drop] at e
    rw [← e]
    have := up (p + i) (by simp at hi; omega) (by omega)
    simpa using this
  refine List.pairwise_append.mpr ⟨hr.take, List.pairwise_cons.mpr ⟨hi, hr.drop⟩, fun x hx y hy => ?_⟩
  rcases List.mem_cons.mp hy with rfl | hy
  · exact lo x hx
  · exact Nat.lt_trans (lo x hx) (hi y hy)

theorem Lain.fresh (f m : Nat) (l : Bool) : Lain (.fresh f m l) := ⟨.nil, rfl⟩
theorem Lain.standIn (t : SetTable) (n : Nat) : Lain (t.standIn n) := ⟨by
  show (Array.range n).toList.Pairwise (· < ·)
  rw [Array.toList_range]
  exact List.pairwise_lt_range, rfl⟩
theorem Lain.orStandIn {t : SetTable} (h : Lain t) (n : Nat) : Lain (t.orStandIn n) := by
  unfold SetTable.orStandIn
  split
  · exact h
  · exact .standIn t n
theorem probe_go {t : SetTable} (hd : t.dummies = #[]) {f : Nat → Int} {h : Int} (hne : ∀ i, f i ≠ h) : ∀ (fuel : Nat) (p : SetTable.Probe) (j : Nat) (d : Option Nat), p.dummy = none → SetTable.probe.go t f h fuel p = some (.empty j d) → t.slot j = .empty ∧ d = none := by
  intro fuel
  induction fuel with
  | zero => intro p j d _ e; unfold SetTable.probe.go at e; cases e
  | succ n ih =>
    intro p j d hp e
    unfold SetTable.probe.go at e
    split at e
    · rename_i hs
      injection e with e
      injection e with e1 e2
      subst e1 e2
      exact ⟨hs, hp⟩
    · rename_i hs
      exfalso
      unfold SetTable.slot at hs
      have : SetTable.has t.dummies p.j = false := by rw [hd]; rfl
      rw [this] at hs
      dsimp only at hs
      split at hs
      · cases hs
      · cases hs
    · rename_i i hs
      rw [if_neg (by simpa using hne i)] at e
      refine ih _ j d ?_ e
      unfold SetTable.advance
      split
      · exact hp
      · exact hp
theorem Lain.layNew {t : SetTable} (L : Lain t) (es : Array (Int × Value)) (h : Int) (x : Value) : Lain (layNew t es h x).2.1 ∧ (PySem.layNew t es h x).2.1.led = t.led := by
  unfold PySem.layNew
  split
  · rename_i slot wasDummy hf
    dsimp only
    have hp : Lain (t.put slot).1 := by
      unfold SetTable.freeSlot at hf
      split at hf
      · rename_i j d hq
        obtain ⟨hs, rfl⟩ := probe_go L.dum (fun i => by omega) _ _ _ _ rfl hq
        simp only [Option.getD_none, Option.isSome_none, Option.some.injEq, Prod.mk.injEq] at hf
        obtain ⟨rfl, rfl⟩ := hf
        unfold SetTable.put
        dsimp only
        refine ⟨rise_insert L.rise fun e => ?_, ?_⟩
        · unfold SetTable.slot at hs
          dsimp only at hs
          rw [e] at hs
          simp at hs
        · have : SetTable.has t.dummies j = false := by rw [L.dum]; rfl
          show (if SetTable.has t.dummies j then _ else t.dummies) = #[]
          rw [this]; exact L.dum
      · cases hf
    refine ⟨hp.orStandIn _, ?_⟩
    unfold SetTable.orStandIn
    split <;> rfl
  · exact ⟨.standIn t _, rfl⟩
theorem Lain.relayAll {t : SetTable} (L : Lain t) (es : Array (Int × Value)) (wanted : Nat) : Lain (relayAll t es wanted).2.1 ∧ (PySem.relayAll t es wanted).2.1.led = t.led := by
  unfold PySem.relayAll
  split
  · rename_i t' order hr
    dsimp only
    split
    · dsimp only
      unfold SetTable.relaid SetTable.laid at hr
      cases hl : SetTable.layClean (SetTable.sizeAbove wanted - 1) (es.map (·.1)) with
      | none => rw [hl] at hr; cases hr
      | some owner =>
        rw [hl] at hr
        simp only [Option.bind_eq_bind, Option.bind_some, Option.pure_def, Option.some.injEq, Prod.mk.injEq] at hr
        obtain ⟨rfl, _⟩ := hr
        refine ⟨⟨?_, rfl⟩, rfl⟩
        simp only [List.map_filterMap]
        refine List.Pairwise.filterMap (R := (· < ·)) _ ?_ List.pairwise_lt_range
        intro a a' haa b hb b' hb'
        cases h1 : owner.getD a none with
        | none => simp [h1] at hb
        | some x =>
          cases h2 : owner.getD a' none with
          | none => simp [h2] at hb'
          | some y =>
            simp [h1] at hb
            simp [h2] at hb'
            omega
    · exact ⟨.standIn t _, rfl⟩
  · exact ⟨.standIn t _, rfl⟩
end Mine
set_option Elab.async false
set_option maxRecDepth 100000
set_option linter.unusedVariables false
namespace Mine
open PySem PySem.W PySem.Calls PyProof.Rows PySem.Spec PyProof.Rows.LCg

section
variable {K : Type} [DecidableEq K] {w : World}
noncomputable def addk (ks : List K) (k : K) : List K := if k ∈ ks then ks else ks ++ [k]
noncomputable def dedup (ks : List K) : List K := ks.foldl addk []
theorem addk_len (ks : List K) (k : K) : (addk ks k).length ≤ ks.length + 1 := by
  unfold addk
  split
  · omega
  · simp
theorem foldl_addk_len : ∀ (l acc : List K), (l.foldl addk acc).length ≤ acc.length + l.length
  | [], acc => by simp
  | k :: l, acc => by
    have h1 := foldl_addk_len l (addk acc k)
    have h2 := addk_len acc k
    simp only [List.foldl_cons, List.length_cons]
    omega
theorem dedup_len (l : List K) : (dedup l).length ≤ l.length := by
  have := foldl_addk_len l ([] : List K)
  simpa [dedup] using this
theorem dedup_take (l : List K) (i : Nat) (k : K) (h : l[i]? = some k) : dedup (l.take (i + 1)) = addk (dedup (l.take i)) k := by
  rw [List.take_add_one, h]
  simp [dedup]

/-- a set of such keys, its table in order -/
noncomputable def SetX (knd : KeyKind prg w K) (o : Obj) (ks : List K) : Prop :=
  o.ExactSet ∧ ∃ es ep t, o.data = .set es ep t ∧ ElemsOf knd es.toList ∧ (∃ ks', ks'.Perm ks ∧ All2 (fun (e : Int × Value) k => knd.is k e.2 = true) es.toList ks') ∧ es.size < scanBound ∧ t.fits es.size = true ∧ Lain t ∧ t.led = !(w.params.followText "set-order")

variable {knd : KeyKind prg w K} {A : Around} {E : Value → Shared → Prop} {s : Shared}
theorem perm2 {α β : Type} {R : α → β → Prop} : ∀ {l l' : List α}, l.Perm l' → ∀ {m : List β}, All2 R l m → ∃ m', m.Perm m' ∧ All2 R l' m' := by
  intro l l' p
  induction p with
  | nil => intro m h; exact ⟨m, .refl _, h⟩
  | cons x _ ih =>
    intro m h
    cases h with | cons r t => obtain ⟨m', p', h'⟩ := ih t; exact ⟨_, p'.cons _, .cons r h'⟩
  | swap x y l =>
    intro m h
    cases h with | cons r t => cases t with | cons r' t' => exact ⟨_, List.Perm.swap _ _ _, .cons r' (.cons r t')⟩
  | trans _ _ ih1 ih2 =>
    intro m h
    obtain ⟨m1, p1, h1⟩ := ih1 h
    obtain ⟨m2, p2, h2⟩ := ih2 h1
    exact ⟨m2, p1.trans p2, h2⟩

theorem setX_store {a : Addr} {o : Obj} {es : Array (Int × Value)} {ep : Nat} {t : SetTable} {h : Heap} (ho : h.get? a = some o) (hex : o.ExactSet) (hd : o.data = .set es ep t)
    {es' : Array (Int × Value)} {t' : SetTable} {ks : List K} (hel : ElemsOf knd es'.toList) (hk : ∃ ks', ks'.Perm ks ∧ All2 (fun (e : Int × Value) k => knd.is k e.2 = true) es'.toList ks') (hb : es'.size < scanBound) (hf : t'.fits es'.size = true) (hL : Lain t') (hl : t'.led = !(w.params.followText "set-order")) :
    (h.update a (Obj.putSet es' t')).get? a = some { o with data := .set es' (ep + 1) t' } ∧ SetX knd { o with data := .set es' (ep + 1) t' } ks := by
  have hg : (h.update a (Obj.putSet es' t')).get? a = some { o with data := .set es' (ep + 1) t' } := by
    have := Heap.get?_update_self (Obj.putSet es' t') ho (by rw [putSet_of es' t' hd]; rfl)
    rw [putSet_of es' t' hd] at this; exact this
  exact ⟨hg, hex, es', ep + 1, t', rfl, hel, hk, hb, hf, hL, hl⟩

theorem add_tail {g : Bool → Sem Unit} (hg : ∀ (b : Bool) (s₁ : Shared) (Q' : Unit → Shared → Prop), Q' () s₁ → wpAny (model prg w) A (g b) Q' E s₁)
    {a : Addr} {o : Obj} {es : Array (Int × Value)} {ep : Nat} {t : SetTable} (ho : s.heap.get? a = some o) (hex : o.ExactSet) (hd : o.data = .set es ep t)
    {es1 : Array (Int × Value)} {t2 : SetTable} {ks : List K} (hel1 : ElemsOf knd es1.toList) (hk1 : ∃ ks', ks'.Perm ks ∧ All2 (fun (e : Int × Value) k => knd.is k e.2 = true) es1.toList ks')
    (hb1 : es1.size < scanBound) (hf2 : t2.fits es1.size = true) (hL : Lain t2) (hl : t2.led = !(w.params.followText "set-order")) {wasDummy : Bool} {R : Option Bool → Shared → Prop}
    (h : ∀ h' o', Heap.SameBut a s.heap h' → h'.get? a = some o' → SetX knd o' ks → R (some true) { s with heap := h' }) :
    wpAny (model prg w) A (do
        storeSet a es1 t2
        if (!wasDummy && t2.tooFull) = true then do
            g (relayAll t2 es1 (SetTable.grown es1.size)).2.2
            storeSet a (relayAll t2 es1 (SetTable.grown es1.size)).1 (relayAll t2 es1 (SetTable.grown es1.size)).2.1
            pure (some true)
          else pure (some true)) R E s := by
  refine wpAny_bind (wpAny_storeSet_of ho hd ?_ (fits_of_scanBound hb1))
  obtain ⟨ho1, hS1⟩ := setX_store (knd := knd) ho hex hd hel1 hk1 hb1 hf2 hL hl
  have hsb1 := Heap.SameBut.update s.heap a (Obj.putSet es1 t2)
  split
  · have hp := relayAll_perm t2 es1 (SetTable.grown es1.size)
    have hfr := relayAll_fits t2 es1 (SetTable.grown es1.size)
    have hLr := hL.relayAll es1 (SetTable.grown es1.size)
    generalize hRl : relayAll t2 es1 (SetTable.grown es1.size) = Rl at hp hfr hLr ⊢
    obtain ⟨es2, t3, gave2⟩ := Rl
    dsimp only at hp hfr hLr ⊢
    have hel2 : ElemsOf knd es2.toList := hel1.perm hp
    have hk2 : ∃ ks', ks'.Perm ks ∧ All2 (fun (e : Int × Value) k => knd.is k e.2 = true) es2.toList ks' := by
      obtain ⟨ks', p1, r1⟩ := hk1
      obtain ⟨m, p2, r2⟩ := perm2 hp.symm r1
      exact ⟨m, p2.symm.trans p1, r2⟩
    have hsz : es2.size = es1.size := by rw [← Array.length_toList, hp.length_eq, Array.length_toList]
    have hb2 : es2.size < scanBound := by rw [hsz]; exact hb1
    refine wpAny_bind (hg _ _ _ ?_)
    refine wpAny_bind (wpAny_storeSet_of ho1 rfl ?_ (fits_of_scanBound hb2))
    obtain ⟨ho2, hS2⟩ := setX_store (knd := knd) (o := { o with data := .set es1 (ep + 1) t2 }) ho1 hex rfl hel2 hk2 hb2 hfr hLr.1 (hLr.2.trans hl)
    exact wpAny_pure (h _ _ (hsb1.trans (Heap.SameBut.update _ a _)) ho2 hS2)
  · exact wpAny_pure (h _ _ hsb1 ho1 hS1)

theorem add_hashed {a : Addr} {o : Obj} {ks : List K} {k : K} {x : Value} {Q : Bool → Shared → Prop} (hkey : knd.is k x = true) (hsc : x.scannable = true) (ho : s.heap.get? a = some o) (hS : SetX knd o ks)
    (hroom : ks.length + 1 < scanBound) (h : ∀ h' o' b, Heap.SameBut a s.heap h' → h'.get? a = some o' → SetX knd o' (addk ks k) → Q b { s with heap := h' }) :
    wpAny (model prg w) A (setAddHashed a x (knd.hash k)) Q E s := by
  have hS0 := hS
  obtain ⟨hex, es, ep, t, hd, hel, ⟨ks', hp0, hr0⟩, hb, hf, hL, hl⟩ := hS
  have hn : es.size = ks.length := by rw [← Array.length_toList, hr0.length, hp0.length_eq]
  have hb1 : es.size + 1 < scanBound := by rw [hn]; exact hroom
  unfold setAddHashed setAddHashedIn
  refine wpAny_holding (wpAny_bind (wpAny_setState_of ho hd hf ?_))
  dsimp only
  rw [byScan_of hsc hb hel]
  simp only [↓reduceIte]
  unfold setAddByScan
  refine wpAny_bind ?_
  refine wpAny_bind (wpAny_rule ?_)
  refine wpAny_bind (wpAny_setScan_of hkey ho hd hf hel ?_)
  cases hr : List.findIdx? (fun e => knd.is k e.2) es.toList with
  | some j =>
    dsimp only
    obtain ⟨hj, hpj, _⟩ := List.findIdx?_eq_some_iff_getElem.mp hr
    have hSk : k ∈ ks := by
      obtain ⟨k', h1, h2⟩ := hr0.get (i := j) (a := es.toList[j]) (by simp [List.getElem?_eq_getElem hj])
      have : k' = k := knd.inj _ _ _ h2 hpj
      subst this
      exact hp0.mem_iff.mp (List.mem_of_getElem? h1)
    refine wpAny_pure (wpAny_pure ?_)
    have e : s = { s with heap := s.heap } := by cases s; rfl
    have := h s.heap o false (Heap.SameBut.refl a s.heap) ho (by unfold addk; rw [if_pos hSk]; exact hS0)
    rw [e]; exact this
  | none =>
    dsimp only
    have hSk : k ∉ ks := fun hk => by
      obtain ⟨i, hi, e⟩ := List.getElem_of_mem (hp0.mem_iff.mpr hk)
      obtain ⟨a', h1, h2⟩ := hr0.get' (i := i) (b := k) (by rw [← e]; exact List.getElem?_eq_getElem hi)
      have := List.findIdx?_eq_none_iff.mp hr a' (List.mem_of_getElem? h1)
      rw [h2] at this; cases this
    have hgw : ∀ (b : Bool) {s₁ : Shared} {Q' : Unit → Shared → Prop}, Q' () s₁ → wpAny (model prg w) A (match b with | true => rule "set.scan.the-table-gave-way" | false => pure ()) Q' E s₁ :=
      fun b s₁ Q' hq => by cases b <;> first | exact wpAny_pure hq | exact wpAny_rule hq
    have hperm := layNew_perm t es (knd.hash k) x
    have hfits := layNew_fits t es (knd.hash k) x
    have hLn := hL.layNew es (knd.hash k) x
    generalize hLL : layNew t es (knd.hash k) x = L at hperm hfits hLn ⊢
    obtain ⟨es1, t1, wasDummy, gave⟩ := L
    dsimp only at hperm hfits hLn ⊢
    rw [Array.toList_push] at hperm
    have hel1 : ElemsOf knd es1.toList := (hel.push hkey hsc).perm hperm
    have hk1 : ∃ ks', ks'.Perm (addk ks k) ∧ All2 (fun (e : Int × Value) k => knd.is k e.2 = true) es1.toList ks' := by
      obtain ⟨m, p2, r2⟩ := perm2 hperm.symm (hr0.append (.cons (a := (knd.hash k, x)) (b := k) hkey .nil))
      refine ⟨m, p2.symm.trans ?_, r2⟩
      unfold addk
      rw [if_neg hSk]
      exact hp0.append_right _
    have hb1' : es1.size < scanBound := by rw [← Array.length_toList, hperm.length_eq, List.length_append, Array.length_toList]; simpa using hb1
    refine wpAny_bind (hgw _ ?_)
    split
    · refine wpAny_bind ?_
      rw [hashByValue_scannable 8 hsc]
      refine wpAny_pure ?_
      refine add_tail (knd := knd) ?_ ho hex hd hel1 hk1 hb1' ?_ ?_ ?_ ?_
      · intro b s₁ Q' hq; cases b <;> first | exact wpAny_pure hq | exact wpAny_rule hq
      · split
        · exact hfits
        · exact SetTable.fits_plain_off hfits
      · split
        · exact hLn.1
        · exact ⟨hLn.1.rise, hLn.1.dum⟩
      · split
        · exact hLn.2.trans hl
        · exact hLn.2.trans hl
      · intro h' o' hsb ho' hS'; dsimp only; exact wpAny_pure (h h' o' true hsb ho' hS')
    · refine wpAny_bind (wpAny_pure ?_)
      simp only [↓reduceIte]
      refine add_tail (knd := knd) ?_ ho hex hd hel1 hk1 hb1' hfits hLn.1 (hLn.2.trans hl) ?_
      · intro b s₁ Q' hq; cases b <;> first | exact wpAny_pure hq | exact wpAny_rule hq
      · intro h' o' hsb ho' hS'; dsimp only; exact wpAny_pure (h h' o' true hsb ho' hS')

theorem set_loop {R : Result → Shared → Prop} {I : Addr} {fp wr : List Addr} {n : Nat} {P : Nat → Value → Prop} {St : Nat → Heap → Prop} (W : Walks prg w A.in1 I fp wr n P St) (S : Addr) (hSf : S ∉ fp)
    (ks : List K) (hn : ks.length = n) (hval : ∀ i v, P i v → ∃ k, ks[i]? = some k ∧ knd.is k v = true ∧ v.scannable = true) (hb : n + 1 < scanBound) :
    ∀ (k i : Nat) (s : Shared) (o : Obj), n - i = k → i ≤ n → St i s.heap → s.heap.get? S = some o → SetX knd o (dedup (ks.take i)) →
      (∀ h' tk o', (∀ b ob, b ∉ S :: wr → s.heap.get? b = some ob → h'.get? b = some ob) → h'.get? S = some o' → SetX knd o' (dedup ks) → R (.ok (.ret .none)) { s with heap := h', toks := tk }) →
      codeAny (model prg w) A (.builtin "set.update.loop" ⟨[.ref S, .ref I], []⟩) R s := by
  have hSw : S ∉ wr := fun h => hSf (W.sub _ h)
  intro k
  induction k with
  | zero =>
    intro i s o hk hi hst ho hS hR
    have hin : i = n := by omega
    subst hin
    refine codeAny_builtin PyProof.Rows.F.entry_set_update_loop ?_
    rw [Around.under_plainId PyProof.Rows.F.plain_set_update_loop _]
    show wpAny _ A.in1 (pyNext (.ref I) >>= _) _ _ s
    refine wpAny_bind (W.done s _ _ hst fun h' tk hm => ?_)
    show wpAny _ A.in1 (ret Value.none) _ _ _
    rw [← hn, List.take_length] at hS
    exact wpAny_pure (hR h' tk o (fun b ob hb e => hm b ob (fun q => hb (.tail _ q)) e) (hm _ _ hSw ho) hS)
  | succ k ih =>
    intro i s o hk hi hst ho hS hR
    have hlt : i < n := by omega
    refine codeAny_builtin PyProof.Rows.F.entry_set_update_loop ?_
    rw [Around.under_plainId PyProof.Rows.F.plain_set_update_loop _]
    show wpAny _ A.in1 (pyNext (.ref I) >>= _) _ _ s
    refine wpAny_bind (W.item i s _ _ hlt hst fun v h' tk hP hst' hm => ?_)
    obtain ⟨key, hke, hkey, hsc⟩ := hval i v hP
    show wpAny _ A.in1 (holding [v] (setAdd S v) >>= _) _ _ _
    refine wpAny_bind (wpAny_holding ?_)
    unfold setAdd
    refine wpAny_holding ?_
    refine wpAny_bind (knd.pyHash (k := key) hkey ?_)
    have hroom : (dedup (ks.take i)).length + 1 < scanBound := by
      have h1 := dedup_len (ks.take i)
      rw [List.length_take] at h1
      omega
    refine add_hashed (knd := knd) (o := o) hkey hsc (hm _ _ hSw ho) hS hroom fun h'' o' b hsb ho' hS' => ?_
    rw [← dedup_take ks i key hke] at hS'
    refine wpAny_pure ⟨plainId_quiet PyProof.Rows.F.plain_set_update_loop _, ih (i + 1) _ o' (by omega) hlt (W.frame _ _ _ hst' fun b hb ob e => ?_) ho' hS' fun h3 tk3 o3 hk3 ho3 hS3 => ?_⟩
    · exact (hsb.2 b (fun q => hSf (q ▸ hb))).trans e
    · refine hR h3 tk3 o3 (fun b ob hb e => hk3 b ob hb ((hsb.2 b fun q => hb (q ▸ .head _)).trans (hm b ob (fun q => hb (.tail _ q)) e))) ho3 hS3
end
end Mine
set_option Elab.async false
set_option maxRecDepth 100000
set_option linter.unusedVariables false
namespace Mine
open PySem PySem.W PySem.Calls PyProof.Rows PySem.Spec PyProof.Rows.LCg

section
variable {K : Type} [DecidableEq K] {w : World} {knd : KeyKind prg w K} {A : Around} {E : Value → Shared → Prop} {s : Shared}
noncomputable abbrev bareSet (w : World) : Obj := { cls := .type "set", dict := none, data := .set #[] 0 (.fresh 0 0 (!(w.params.followText "set-order"))) }
theorem bare_setX : SetX knd (bareSet w) [] := ⟨⟨rfl, rfl, rfl⟩, #[], 0, _, rfl, fun e he => by simp at he, ⟨[], .refl _, .nil⟩, by unfold scanBound; decide, by rfl, .fresh _ _ _, rfl⟩

theorem code_newset (a : Value) {Q₁ : Value → Shared → Prop} (h : Q₁ (.ref s.heap.objs.size) { s with heap := s.heap.push (bareSet w) }) :
    codeAny (model prg w) A (.call (.builtin "set.__new__") ⟨[.type "set", a], []⟩) (wants Q₁ E) s := by
  refine codeAny_of_tree ?_
  show wpAny _ A.in1 (do checkBuiltinCall "set.__new__" ⟨[.type "set", a], []⟩; again (.builtin "set.__new__" ⟨[.type "set", a], []⟩)) _ _ s
  refine wpAny_bind (wpAny_of_eq (PySem.F.newCall_set_1 a) (wpAny_pure ⟨plainId_quiet PySem.F.plain_set_new _, codeAny_builtin PySem.F.entry_set_new ?_⟩))
  rw [Around.under_plainId PySem.F.plain_set_new _]
  unfold Builtin.«set.__new__» Builtin.Frozenset.newClass
  have hsub := sub_set_self
  obtain ⟨hp, g, d, tk, os⟩ := s
  dsimp only
  wp_walk
  refine wpAny_askSetting (wpAny_pure ?_)
  dsimp only
  simp only [newObj]
  refine wpAny_bind (wpAny_alloc (wpAny_pure ?_))
  exact wpAny_pure h

set_option maxHeartbeats 3200000 in
theorem call_set {l : Addr} {items : Array Value} {ks : List K} {Q : Value → Shared → Prop} (hh : A.handled = none) (hl : s.heap.IsList l items) (hi : All2 (fun v k => knd.is k v = true ∧ v.scannable = true) items.toList ks) (hb : items.size + 1 < scanBound)
    (h : ∀ (h' : Heap) (tk : Nat) o, h'.get? s.heap.objs.size = some o → SetX knd o (dedup ks) → HLe s.heap h' → Q (.ref s.heap.objs.size) { s with heap := h', toks := tk }) :
    wpAny (model prg w) A (call (.type "set") [.ref l]) Q E s := by
  obtain ⟨c, tl, hmro⟩ := PySem.F.called_set.mro
  have hmade := PySem.F.called_set.made
  have hsub := PySem.F.called_set.sub
  refine wpAny_call (codeAny_of_tree ?_)
  show wpAny _ _ (callAny (.type "set") _) _ _ _
  refine wpAny_pure ⟨Code.quiet_builtin _ (by decide +kernel), codeAny_builtin PySem.F.entry_type_call ?_⟩
  rw [Around.under_plain (weight_type_call_type "set" [.ref l] []) rfl]
  have h1 := PySem.F.called_set.notType
  have h2 := PySem.F.called_set.canCreate
  have hct := PySem.F.typeCall_set_1 (.ref l)
  repeat (any_goals (first | assumption | wp_step))
  refine codeAny_mono (code_newset (.ref l) (E := E) (Q₁ := fun obj s₁ => obj = .ref s.heap.objs.size ∧ s₁ = { s with heap := s.heap.push (bareSet w) }) ⟨rfl, rfl⟩) fun r s₁ hr => ?_
  cases r with
  | error e => exact hr
  | ok fl =>
    cases fl with
    | ret obj =>
      obtain ⟨rfl, rfl⟩ := hr
      have hS : (s.heap.push (bareSet w)).get? s.heap.objs.size = some (bareSet w) := Heap.get?_push_size _ rfl
      have hT : Shared.TypeIs { s with heap := s.heap.push (bareSet w) } (.ref s.heap.objs.size) "set" := ⟨_, hS, rfl⟩
      have hli := PySem.F.called_set.init.lookup
      have hbi := PySem.F.called_set.init.bind (.ref s.heap.objs.size)
      repeat (any_goals (first | assumption | wp_step))
      refine codeAny_mono (codeAny_call_builtin (R := wants (fun r s₂ => r = .none ∧ ∃ h' tk o, s₂ = { s with heap := h', toks := tk } ∧ h'.get? s.heap.objs.size = some o ∧ SetX knd o (dedup ks) ∧ HLe s.heap h') E) PySem.F.called_set.init.plain PySem.F.entry_set_init (check_set_init_1 hT ?_)) fun r₂ s₂ hr₂ => ?_
      · obtain ⟨ol, hol, hcl, nl, hdl⟩ := hl
        obtain ⟨ocls, odict, odata, oslots⟩ := ol
        simp only at hcl hdl
        subst hcl; subst hdl
        have hol' : (s.heap.push (bareSet w)).get? l = some { cls := .type "list", dict := odict, data := .seq items nl, slots := oslots } := Heap.get?_push_of_some _ hol
        have hsls := PySem.F.sub_list_set
        have hslf := PySem.F.sub_list_frozenset
        have hne : (Value.type "list" == Value.type "dict") = false := by decide
        have hl1 : (s.heap.push (bareSet w)).IsList l items := ⟨_, hol', rfl, nl, rfl⟩
        unfold Builtin.«set.__init__» noKeywords Builtin.Frozenset.updateFrom
        generalize hPI : pyIter = PI
        wp_walk
        subst hPI
        refine wpAny_pyIter_list hl1 ?_
        refine wpAny_bind (wpAny_runValue ?_)
        have hlS : l < s.heap.objs.size := Heap.lt_size hol
        have hh3 : A.in1.in1.in1.handled = none := by simp [hh]
        have hneI : l ≠ (s.heap.push (bareSet w)).objs.size := by
          rw [Heap.size_push]; exact Nat.ne_of_lt (Nat.lt_succ_of_lt hlS)
        have hSf : s.heap.objs.size ∉ [(s.heap.push (bareSet w)).objs.size, l] := by
          rw [Heap.size_push]; simp only [List.mem_cons, List.mem_singleton, List.not_mem_nil, or_false, not_or]
          exact ⟨Nat.ne_of_lt (Nat.lt_succ_self _), Nat.ne_of_gt hlS⟩
        have hget : ((s.heap.push (bareSet w)).push { cls := .type "list_iterator", data := .fields #[.ref l, .int 0 0] }).get? s.heap.objs.size = some (bareSet w) := Heap.get?_push_of_some _ hS
        refine set_loop (knd := knd) (Walks.list hh3 _ l hneI items) s.heap.objs.size hSf ks (by rw [← hi.length, Array.length_toList]) (fun i v hv => ?_) hb (items.size - 0) 0 _ (bareSet w) (by omega) (Nat.zero_le _)
          ⟨⟨_, Heap.get?_push_size _ rfl, rfl, rfl⟩, (hl1.push _)⟩ hget bare_setX fun h' tk o' hm ho' hS' => ?_
        · have hv : items[i]? = some v := hv
          obtain ⟨k, h3, h4⟩ := hi.get (i := i) (a := v) (by rw [Array.getElem?_toList]; exact hv)
          exact ⟨k, h3, h4⟩
        · show wpAny _ _ _ _ _ _
          refine wpAny_pure ?_
          show wpAny _ _ (ret Value.none) _ _ _
          refine wpAny_pure ⟨rfl, h', tk, o', rfl, ho', hS', fun b o e => ?_⟩
          have hb := Heap.lt_size e
          have hb1 : b ≠ s.heap.objs.size := Nat.ne_of_lt hb
          have hb2 : b ≠ (s.heap.push (bareSet w)).objs.size := by
            rw [Heap.size_push]; exact Nat.ne_of_lt (Nat.lt_succ_of_lt hb)
          exact hm b o (by simp only [List.mem_cons, List.mem_singleton, List.not_mem_nil, or_false, not_or]; exact ⟨hb1, hb2⟩) (Heap.get?_push_of_some _ (Heap.get?_push_of_some _ e))
      · cases r₂ with
        | error e => exact hr₂
        | ok fl₂ =>
          cases fl₂ with
          | ret r =>
            obtain ⟨rfl, h', tk, o, rfl, ho, hS', hk'⟩ := hr₂
            repeat (any_goals (first | assumption | wp_step))
            exact h _ _ _ ho hS' hk'
          | _ => exact hr₂.elim
    | _ => exact hr.elim
end
end Mine
set_option Elab.async false
set_option maxRecDepth 100000
set_option linter.unusedVariables false
namespace Mine
open PySem PySem.W PySem.Calls PyProof.Rows PySem.Spec PyProof.Rows.LCg

theorem slot_set_iter : Slot "set" "__iter__" "set.__iter__" :=
  .of (owner := "set") (n := "__iter__") (by rw [typeLookup_type, builtinLookup_eq_fast]; kernel_rfl) (by decide +kernel) (by decide +kernel) (by decide +kernel)
    (by first | exact .inl (by decide +kernel) | exact .inr (by decide +kernel)) (by rw [isSubtype_type]; kernel_rfl)
theorem entry_set_iter : entryFor table "set.__iter__" = some Builtin.«frozenset.__iter__» :=
  entryFor_alias (id' := "frozenset.__iter__") (by kernel_rfl) rfl (by decide +kernel) (by kernel_rfl)
theorem args_set_iter (a : Value) : argsOk "set.__iter__" ⟨[a], []⟩ := by
  unfold argsOk; kernel_rfl
theorem slot_seti_next : Slot "set_iterator" "__next__" "set_iterator.__next__" :=
  .of (owner := "set_iterator") (n := "__next__") (by rw [typeLookup_type, builtinLookup_eq_fast]; kernel_rfl) (by decide +kernel) (by decide +kernel) (by decide +kernel)
    (by first | exact .inl (by decide +kernel) | exact .inr (by decide +kernel)) (by rw [isSubtype_type]; kernel_rfl)
theorem entry_seti_next : entryFor table "set_iterator.__next__" = some Builtin.«set_iterator.__next__» := entryFor_of_tree (by kernel_rfl)
theorem args_seti_next (a : Value) : argsOk "set_iterator.__next__" ⟨[a], []⟩ := by
  unfold argsOk; kernel_rfl
theorem slot_seti_iter : Slot "set_iterator" "__iter__" "set_iterator.__iter__" :=
  .of (owner := "set_iterator") (n := "__iter__") (by rw [typeLookup_type, builtinLookup_eq_fast]; kernel_rfl) (by decide +kernel) (by decide +kernel) (by decide +kernel)
    (by first | exact .inl (by decide +kernel) | exact .inr (by decide +kernel)) (by rw [isSubtype_type]; kernel_rfl)
theorem entry_seti_iter : entryFor table "set_iterator.__iter__" = some Builtin.«dict_keyiterator.__iter__» :=
  entryFor_alias (id' := "dict_keyiterator.__iter__") (by kernel_rfl) rfl (by decide +kernel) (by kernel_rfl)
theorem args_seti_iter (a : Value) : argsOk "set_iterator.__iter__" ⟨[a], []⟩ := by
  unfold argsOk; kernel_rfl
end Mine
set_option Elab.async false
set_option maxRecDepth 100000
set_option linter.unusedVariables false
namespace Mine
open PySem PySem.W PySem.Calls PyProof.Rows PySem.Spec PyProof.Rows.LCg

theorem erase_perm {α : Type} : ∀ {l : List α} {i : Nat} (h : i < l.length), (l[i] :: l.eraseIdx i).Perm l
  | a :: l, 0, h => .refl _
  | a :: l, i + 1, h => (List.Perm.swap _ _ _).trans ((erase_perm (l := l) (i := i) (by simpa using h)).cons a)
section
variable {w : World} {A : Around} {E : Value → Shared → Prop} {s : Shared}
theorem wp_choose {src : Source} {n : Nat} {Q : Nat → Shared → Prop} (hn : n ≠ 0) (h : ∀ i dr, i < n → Q i { s with drawn := dr }) : wpAny (model prg w) A (choose src n) Q E s := fun Γ p _ =>
  ⟨hn, h _ _ (Nat.mod_lt _ (Nat.pos_of_ne_zero hn))⟩
theorem wp_drawOrder {α : Type} {Q : List α → Shared → Prop} : ∀ (n : Nat) (xs : List α) (s : Shared), n = xs.length → (∀ ys dr, ys.Perm xs → Q ys { s with drawn := dr }) → wpAny (model prg w) A (drawOrder n xs) Q E s := by
  intro n
  induction n generalizing Q with
  | zero =>
    intro xs s e h
    have : xs = [] := List.eq_nil_of_length_eq_zero e.symm
    subst this
    exact wpAny_pure (h [] s.drawn (.refl _))
  | succ n ih =>
    intro xs s e h
    cases xs with
    | nil => cases e
    | cons x r =>
      show wpAny _ _ (do
        let i ← choose .order (x :: r).length
        match (x :: r)[i]? with
        | some y => do pure (y :: (← drawOrder n ((x :: r).eraseIdx i)))
        | none => unsupported "internal:drawOrder") _ _ _
      refine wpAny_bind (wp_choose (by simp) fun i dr hi => ?_)
      rw [List.getElem?_eq_getElem hi]
      dsimp only
      refine wpAny_bind (ih _ _ (by rw [List.length_eraseIdx]; simp at e hi ⊢; rw [if_pos hi]; exact e) fun ys dr' hp => ?_)
      refine wpAny_pure (h _ dr' ?_)
      exact (hp.cons _).trans (erase_perm hi)
theorem pickOrder_go {α : Type} (next : Nat → Nat) : ∀ (fuel k : Nat) (left : List α) (out : Array α), fuel = left.length → (pickOrder.go next fuel k left out).toList.Perm (out.toList ++ left) := by
  intro fuel
  induction fuel with
  | zero =>
    intro k left out e
    have : left = [] := List.eq_nil_of_length_eq_zero e.symm
    subst this
    unfold pickOrder.go
    simp
  | succ n ih =>
    intro k left out e
    have hpos : 0 < left.length := by omega
    have hi : next k % left.length < left.length := Nat.mod_lt _ hpos
    unfold pickOrder.go
    rw [List.getElem?_eq_getElem hi]
    dsimp only
    refine (ih _ _ _ (by rw [List.length_eraseIdx, if_pos hi]; omega)).trans ?_
    rw [Array.toList_push, List.append_assoc]
    exact (List.Perm.append_left _ (erase_perm hi))
theorem pickOrder_perm {α : Type} (next : Nat → Nat) (xs : Array α) : (pickOrder next xs).toList.Perm xs.toList := by
  have := pickOrder_go next xs.size 0 xs.toList #[] (by simp)
  simpa [pickOrder] using this

/-- the end of a walk over a set -/
theorem raise_stop {Q : Option Value → Shared → Prop} (hh : A.handled = none) (h : ∀ h', HLe s.heap h' → Q none { s with heap := h' }) :
    wpAny (model prg w) A.in1 (newExc (.type "StopIteration") [] >>= fun e => (raiseNew e : Sem PySem.Fin)) (fun _ _ => False)
      (fun e s' => wpAny (model prg w) A (do if ← isInstance e (.type "StopIteration") then pure none else throw e) Q E s') s := by
  refine wpAny_bind ?_
  simp only [newExc, newTuple]
  refine wpAny_bind (wpAny_newObj_type ?_ (by size_fits))
  refine wpAny_bind (m := firstArgMember _ _) (wpAny_of_eq (a := Value.none) (by first | rfl | (simp only [firstArgMember]; rfl)) ?_)
  refine wpAny_newObj_type ?_ (by size_fits)
  simp only [raiseNew]
  refine wpAny_bind (wpAny_handled ?_)
  rw [show A.in1.handled = none from hh]
  refine wpAny_bind (wpAny_pure (wpAny_throw ?_))
  refine wpAny_bind (wpAny_isInstance (T := "StopIteration") (b := true) ⟨_, Heap.get?_push_size _ rfl, rfl⟩ isSubtype_stop ?_)
  exact wpAny_pure (h _ ((HLe.push _ _).trans (HLe.push _ _)))
end
end Mine
set_option Elab.async false
set_option maxRecDepth 100000
set_option linter.unusedVariables false
namespace Mine
open PySem PySem.W PySem.Calls PyProof.Rows PySem.Spec PyProof.Rows.LCg

noncomputable def setIt (first : Value) (i : Nat) (a : Addr) (n ep : Nat) : Obj := { cls := .type "set_iterator", dict := none, data := .fields #[first, .int i 0, .ref a, .int n 0, .int ep 0], slots := #[] }
/-- how a set is walked in this world -/
noncomputable def walkOf (w : World) (a : Addr) (es : Array (Int × Value)) (ep : Nat) : List (Int × Value) := if w.params.followText "set-order" = true then (pickOrder (w.params.setOrder a ep) es).toList else es.toList
theorem walkOf_perm (w : World) (a : Addr) (es : Array (Int × Value)) (ep : Nat) : (walkOf w a es ep).Perm es.toList := by
  unfold walkOf
  split
  · exact pickOrder_perm _ _
  · exact .refl _
section
variable {w : World} {A : Around} {E : Value → Shared → Prop} {s : Shared}

noncomputable def bodyItem (first s' : Value) (i size epoch : Int) (it : Value) : Sem PySem.Fin := do
  let .ref a := s' | rule "set_iterator.__next__.exhausted-before"; raiseNew (← newExc (.type "StopIteration") [])
  if ((← setEntries a).size : Int) != size then
    rule "set_iterator.__next__.size-changed"
    setField it 3 (rawInt (-1))
    raiseError "RuntimeError" "Set changed size during iteration"
  if let .int slot _ := first then
    match ← setNext a slot.toNat i.toNat epoch.toNat with
    | some (x, next) =>
      setField it 0 (rawInt next)
      setField it 1 (rawInt (i + 1))
      ret x
    | none => setField it 2 .none; raiseNew (← newExc (.type "StopIteration") [])
  else
    let some places ← seqItems? first | unsupported "internal:set_iterator"
    match places[i.toNat]? with
    | some (.int place _) =>
      let x ← setNextDrawn a place.toNat epoch.toNat
      setField it 1 (rawInt (i + 1))
      ret x
    | some _ => unsupported "internal:set_iterator"
    | none => setField it 0 (rawInt 0); setField it 2 .none; raiseNew (← newExc (.type "StopIteration") [])

theorem setNext_at {a : Addr} {o : Obj} {es : Array (Int × Value)} {ep : Nat} {t : SetTable} {slot i : Nat} {Q : Option (Value × Nat) → Shared → Prop} (ho : s.heap.get? a = some o) (hd : o.data = .set es ep t) (hf : t.fits es.size = true) (hL : Lain t) (hl : t.led = !(w.params.followText "set-order"))
    (hdr : w.params.followText "set-order" = true ∨ (!t.plain && decide (es.size > 1)) = false) (hs : w.params.followText "set-order" = true ∨ (SetTable.below t.place slot = i ∧ i ≤ es.size))
    (h : Q (((walkOf w a es ep)[i]?).map fun e => (e.2, if w.params.followText "set-order" = true then slot else t.place.getD i 0 + 1)) s) : wpAny (model prg w) A (setNext a slot i ep) Q E s := by
  have hsz : t.place.size = es.size := by
    simp only [SetTable.fits, Bool.and_eq_true, beq_iff_eq] at hf
    exact hf.1
  unfold setNext
  refine wpAny_bind (wpAny_setState_of ho hd hf ?_)
  dsimp only
  unfold setsByText
  refine wpAny_bind (wpAny_bind (wpAny_askSetting (wpAny_pure ?_)))
  show wpAny _ _ (if w.params.followText "set-order" = true then _ else _) _ _ _
  unfold walkOf at h
  cases hb : w.params.followText "set-order" with
  | true =>
    rw [hb] at h
    rw [if_pos rfl]
    simp only [bne_self_eq_false, Bool.false_eq_true, if_false]
    refine wpAny_bind ?_
    unfold setWalk
    refine wpAny_bind (wpAny_setState_of ho hd hf ?_)
    dsimp only
    unfold setsByText
    refine wpAny_bind (wpAny_bind (wpAny_askSetting (wpAny_pure ?_)))
    show wpAny _ _ (if w.params.followText "set-order" = true then _ else _) _ _ _
    rw [hb, if_pos rfl]
    refine wpAny_bind (wpAny_askSetting (wpAny_pure (wpAny_pure ?_)))
    simp only [if_true, Array.getElem?_toList] at h
    exact h
  | false =>
    rw [hb] at h hl
    rw [if_neg (by simp)]
    rcases hdr with q | hdr
    · rw [hb] at q; cases q
    rcases hs with q | ⟨hs, hi⟩
    · rw [hb] at q; cases q
    show wpAny _ _ (if (!t.plain && decide (es.size > 1)) = true then _ else _) _ _ _
    rw [hdr, if_neg (by simp)]
    show wpAny _ _ ((if (!t.led && !es.isEmpty) = true then unsupported "set:maker-not-led" else pure ()) >>= _) _ _ _
    rw [hl]
    simp only [Bool.not_false, Bool.not_true, Bool.false_and, Bool.false_eq_true, if_false]
    refine wpAny_bind (wpAny_pure (wpAny_pure ?_))
    rw [hs]
    simp only [Bool.false_eq_true, if_false, Array.getElem?_toList] at h
    rcases Nat.lt_or_ge i es.size with q | q
    · rw [Array.getElem?_eq_getElem q] at h ⊢
      rw [Array.getElem?_eq_getElem (by omega : i < t.place.size)]
      simp only [Option.map_some, Array.getD, hsz, q, dif_pos] at h
      simpa using h
    · rw [Array.getElem?_eq_none q] at h ⊢
      exact h

theorem setNextDrawn_at {a : Addr} {o : Obj} {es : Array (Int × Value)} {ep : Nat} {t : SetTable} {i : Nat} {e : Int × Value} {Q : Value → Shared → Prop} (ho : s.heap.get? a = some o) (hd : o.data = .set es ep t) (hf : t.fits es.size = true)
    (he : es[i]? = some e) (h : Q e.2 s) : wpAny (model prg w) A (setNextDrawn a i ep) Q E s := by
  unfold setNextDrawn
  refine wpAny_bind (wpAny_setState_of ho hd hf ?_)
  dsimp only
  simp only [bne_self_eq_false, Bool.false_eq_true, if_false]
  rw [he]
  exact wpAny_pure h

theorem next_body {it a : Addr} {first : Value} {i n ep : Nat} {Q : Option Value → Shared → Prop} (hit : s.heap.get? it = some (setIt first i a n ep))
    (h : wpAny (model prg w) A.in1 (bodyItem first (.ref a) i n ep (.ref it)) (fun fin s' => ∃ v, fin = .done (.ret v) ∧ Q (some v) s') (fun e s' => wpAny (model prg w) A (do if ← isInstance e (.type "StopIteration") then pure none else throw e) Q E s') s) :
    wpAny (model prg w) A (pyNext (.ref it)) Q E s := by
  unfold pyNext
  refine wpAny_bind (wpAny_attempt (wpAny_callSpecial?_slot (name := Str.ofString "__next__") ⟨_, hit, rfl⟩ slot_seti_next (wpAny_call_entry slot_seti_next ⟨_, hit, rfl⟩ entry_seti_next ?_ (args_seti_next _))))
  unfold Builtin.«set_iterator.__next__»
  refine wpAny_bind (wpAny_pure ?_)
  refine wpAny_bind (wpAny_fieldsOf hit rfl ?_)
  refine wpAny_mono h (fun fin s' q => ?_) fun e s' q => q
  obtain ⟨v, rfl, q⟩ := q
  exact ⟨v, rfl, wpAny_pure q⟩
end
end Mine
set_option Elab.async false
set_option maxRecDepth 100000
set_option linter.unusedVariables false
namespace Mine
open PySem PySem.W PySem.Calls PyProof.Rows PySem.Spec PyProof.Rows.LCg

section
variable {w : World} {A : Around} {E : Value → Shared → Prop} {s : Shared}
variable {it a : Addr} {o : Obj} {es : Array (Int × Value)} {ep : Nat} {t : SetTable}
theorem nextA_item {slot i : Nat} {e : Int × Value} {Q : Option Value → Shared → Prop} (hit : s.heap.get? it = some (setIt (.int slot 0) i a es.size ep)) (ho : s.heap.get? a = some o) (hd : o.data = .set es ep t) (hf : t.fits es.size = true) (hL : Lain t) (hl : t.led = !(w.params.followText "set-order"))
    (hdr : w.params.followText "set-order" = true ∨ (!t.plain && decide (es.size > 1)) = false) (hs : w.params.followText "set-order" = true ∨ (SetTable.below t.place slot = i ∧ i ≤ es.size)) (he : (walkOf w a es ep)[i]? = some e)
    (h : ∀ h' slot', Heap.SameBut it s.heap h' → h'.get? it = some (setIt (.int (slot' : Nat) 0) (i + 1) a es.size ep) → (w.params.followText "set-order" = true ∨ SetTable.below t.place slot' = i + 1) → Q (some e.2) { s with heap := h' }) :
    wpAny (model prg w) A (pyNext (.ref it)) Q E s := by
  have hsz : t.place.size = es.size := by
    simp only [SetTable.fits, Bool.and_eq_true, beq_iff_eq] at hf
    exact hf.1
  refine next_body hit ?_
  unfold bodyItem
  dsimp only
  refine wpAny_bind (wpAny_setEntries_of ho hd hf ?_)
  simp only [bne_self_eq_false, Bool.false_eq_true, if_false]
  refine wpAny_bind ?_
  show wpAny _ _ (setNext a slot i ep) _ _ _
  refine setNext_at ho hd hf hL hl hdr hs ?_
  rw [he]
  dsimp only [Option.map]
  refine wpAny_bind (wpAny_setField_rec hit (by simp) fun h1 e1 s1 => ?_)
  refine wpAny_bind (wpAny_setField_rec e1 (by simp) fun h2 e2 s2 => ?_)
  refine wpAny_pure ⟨_, rfl, ?_⟩
  have hi : i < es.size := by
    have h1 : i < (walkOf w a es ep).length := (List.getElem?_eq_some_iff.mp he).1
    rw [(walkOf_perm w a es ep).length_eq, Array.length_toList] at h1
    exact h1
  refine h h2 (if w.params.followText "set-order" = true then slot else t.place.getD i 0 + 1) ⟨s2.1.trans s1.1, fun b n => (s2.2 b n).trans (s1.2 b n)⟩ ?_ ?_
  · rw [e2]
    rfl
  · cases hb : w.params.followText "set-order" with
    | true => exact .inl rfl
    | false =>
      refine .inr ?_
      have hp : i < t.place.size := by omega
      have e : t.place.getD i 0 = t.place[i] := by simp [Array.getD, hp]
      simp only [Bool.false_eq_true, if_false]
      rw [e]
      exact below_at hL.rise i hp
theorem nextA_end {slot : Nat} {Q : Option Value → Shared → Prop} (hh : A.handled = none) (hit : s.heap.get? it = some (setIt (.int slot 0) es.size a es.size ep)) (ho : s.heap.get? a = some o) (hd : o.data = .set es ep t) (hf : t.fits es.size = true) (hL : Lain t) (hl : t.led = !(w.params.followText "set-order"))
    (hdr : w.params.followText "set-order" = true ∨ (!t.plain && decide (es.size > 1)) = false) (hs : w.params.followText "set-order" = true ∨ (SetTable.below t.place slot = es.size))
    (h : ∀ h', (∀ b ob, b ≠ it → s.heap.get? b = some ob → h'.get? b = some ob) → Q none { s with heap := h' }) :
    wpAny (model prg w) A (pyNext (.ref it)) Q E s := by
  refine next_body hit ?_
  unfold bodyItem
  dsimp only
  refine wpAny_bind (wpAny_setEntries_of ho hd hf ?_)
  simp only [bne_self_eq_false, Bool.false_eq_true, if_false]
  refine wpAny_bind ?_
  show wpAny _ _ (setNext a slot es.size ep) _ _ _
  refine setNext_at ho hd hf hL hl hdr (hs.imp id fun q => ⟨q, Nat.le_refl _⟩) ?_
  rw [List.getElem?_eq_none (by rw [(walkOf_perm w a es ep).length_eq, Array.length_toList]; exact Nat.le_refl _)]
  dsimp only [Option.map]
  refine wpAny_bind (wpAny_setField_rec hit (by simp) fun h1 e1 s1 => ?_)
  refine wpAny_mono (raise_stop (Q := Q) (E := E) hh fun h' hle => ?_) (fun _ _ q => q.elim) fun _ _ q => q
  exact h h' fun b ob n e => hle _ _ ((s1.2 b n).trans e)

theorem nextC_item {tup : Addr} {ot : Obj} {vs : Array Value} {nn i p : Nat} {tk : Tok} {e : Int × Value} {Q : Option Value → Shared → Prop} (hit : s.heap.get? it = some (setIt (.ref tup) i a es.size ep)) (ho : s.heap.get? a = some o) (hd : o.data = .set es ep t) (hf : t.fits es.size = true)
    (hot : s.heap.get? tup = some ot) (hdt : ot.data = .seq vs nn) (hv : vs[i]? = some (.int (p : Nat) tk)) (he : es[p]? = some e)
    (h : ∀ h', Heap.SameBut it s.heap h' → h'.get? it = some (setIt (.ref tup) (i + 1) a es.size ep) → Q (some e.2) { s with heap := h' }) :
    wpAny (model prg w) A (pyNext (.ref it)) Q E s := by
  refine next_body hit ?_
  unfold bodyItem
  dsimp only
  refine wpAny_bind (wpAny_setEntries_of ho hd hf ?_)
  simp only [bne_self_eq_false, Bool.false_eq_true, if_false]
  refine wpAny_bind ?_
  unfold seqItems?
  dsimp only
  refine wpAny_bind (wpAny_load hot ?_)
  rw [hdt]
  refine wpAny_pure ?_
  dsimp only
  rw [show ((i : Int).toNat) = i from rfl, hv]
  dsimp only
  refine wpAny_bind ?_
  show wpAny _ _ (setNextDrawn a p ep) _ _ _
  refine setNextDrawn_at ho hd hf he ?_
  refine wpAny_bind (wpAny_setField_rec hit (by simp) fun h1 e1 s1 => ?_)
  exact wpAny_pure ⟨_, rfl, h h1 s1 (by rw [e1]; rfl)⟩
theorem nextC_end {tup : Addr} {ot : Obj} {vs : Array Value} {nn : Nat} {Q : Option Value → Shared → Prop} (hh : A.handled = none) (hit : s.heap.get? it = some (setIt (.ref tup) es.size a es.size ep)) (ho : s.heap.get? a = some o) (hd : o.data = .set es ep t) (hf : t.fits es.size = true)
    (hot : s.heap.get? tup = some ot) (hdt : ot.data = .seq vs nn) (hv : vs.size = es.size)
    (h : ∀ h', (∀ b ob, b ≠ it → s.heap.get? b = some ob → h'.get? b = some ob) → Q none { s with heap := h' }) :
    wpAny (model prg w) A (pyNext (.ref it)) Q E s := by
  refine next_body hit ?_
  unfold bodyItem
  dsimp only
  refine wpAny_bind (wpAny_setEntries_of ho hd hf ?_)
  simp only [bne_self_eq_false, Bool.false_eq_true, if_false]
  refine wpAny_bind ?_
  unfold seqItems?
  dsimp only
  refine wpAny_bind (wpAny_load hot ?_)
  rw [hdt]
  refine wpAny_pure ?_
  dsimp only
  rw [show ((es.size : Int).toNat) = es.size from rfl, Array.getElem?_eq_none (Nat.le_of_eq hv)]
  dsimp only
  refine wpAny_bind (wpAny_setField_rec hit (by simp) fun h1 e1 s1 => ?_)
  refine wpAny_bind (wpAny_setField_rec e1 (by simp) fun h2 e2 s2 => ?_)
  refine wpAny_mono (raise_stop (Q := Q) (E := E) hh fun h' hle => ?_) (fun _ _ q => q.elim) fun _ _ q => q
  exact h h' fun b ob n e => hle _ _ ((s2.2 b n).trans ((s1.2 b n).trans e))
theorem self_setit {first : Value} {i n : Nat} {Q : Value → Shared → Prop} (hit : s.heap.get? it = some (setIt first i a n ep)) (h : Q (.ref it) s) : wpAny (model prg w) A (pyIter (.ref it)) Q E s := by
  refine wpAny_pyIter_slot ⟨_, hit, rfl⟩ slot_seti_iter (wpAny_call_entry slot_seti_iter ⟨_, hit, rfl⟩ entry_seti_iter ?_ (args_seti_iter _))
  show wpAny _ _ (ret (.ref it)) _ _ s
  exact wpAny_pure ⟨_, rfl, "set_iterator", _, ⟨_, hit, rfl⟩, slot_seti_next.lookup, h⟩
theorem setDrawn_at {a : Addr} {o : Obj} {es : Array (Int × Value)} {ep : Nat} {t : SetTable} {Q : Bool → Shared → Prop} (ho : s.heap.get? a = some o) (hd : o.data = .set es ep t) (hf : t.fits es.size = true)
    (h : Q (!w.params.followText "set-order" && (!t.plain && decide (es.size > 1))) s) : wpAny (model prg w) A (setDrawn a) Q E s := by
  unfold setDrawn
  refine wpAny_bind (wpAny_setState_of ho hd hf ?_)
  dsimp only
  unfold setsByText
  refine wpAny_bind (wpAny_bind (wpAny_askSetting (wpAny_pure ?_)))
  exact wpAny_pure h
end

/-- walking gives these keys, in some order -/
noncomputable def KSrc {K : Type} [DecidableEq K] {w : World} (knd : KeyKind prg w K) (h₀ : Heap) (v : Addr) (n : Nat) (ks : List K) : Prop :=
  ∀ (A : Around) (s : Shared) (Q : Value → Shared → Prop) (E : Value → Shared → Prop), A.handled = none → HLe h₀ s.heap →
    (∀ (it : Addr) (fp : List Addr) (P : Nat → Value → Prop) (St : Nat → Heap → Prop) (h' : Heap) (tk : Tok) (dr : Drawn) (ks' : List K), ks'.Perm ks → HLe s.heap h' → s.heap.get? it = none → (∀ b ∈ fp, s.heap.get? b = none ∨ ∃ o, h₀.get? b = some o) → (∀ A' : Around, A'.handled = none → Walks prg w A' it fp [it] n P St) → (∀ i x, P i x → ∃ k, ks'[i]? = some k ∧ knd.is k x = true) → St 0 h' →
      Q (.ref it) { s with heap := h', toks := tk, drawn := dr }) → wpAny (model prg w) A (pyIter (.ref v)) Q E s

theorem KSrc.set {K : Type} [DecidableEq K] {w : World} {knd : KeyKind prg w K} {h₀ : Heap} {a : Addr} {o : Obj} {ks : List K} (ho : h₀.get? a = some o) (hS : SetX knd o ks) : KSrc knd h₀ a ks.length ks := fun A s Q E hh hle k => by
  obtain ⟨hex, es, ep, t, hd, hel, ⟨ks', hp, hr⟩, hb, hf, hL, hl⟩ := hS
  have ho' := hle _ _ ho
  have hn : es.size = ks.length := by rw [← Array.length_toList, hr.length, hp.length_eq]
  refine wpAny_pyIter_slot ⟨_, ho', hex.1⟩ slot_set_iter (wpAny_call_entry slot_set_iter ⟨_, ho', hex.1⟩ entry_set_iter ?_ (args_set_iter _))
  unfold Builtin.«frozenset.__iter__»
  refine wpAny_bind (wpAny_pure ?_)
  refine wpAny_bind ?_
  unfold Builtin.Frozenset.sizeOf
  refine wpAny_bind (wpAny_setEntries_of ho' hd hf (wpAny_pure ?_))
  have finish : ∀ (first : Value) (h₁ : Heap) (dr : Drawn), HLe s.heap h₁ → (∀ Q' : Value → Shared → Prop, (Q' (.ref h₁.objs.size) { s with heap := h₁.push (setIt first 0 a es.size ep), drawn := dr } → wpAny (model prg w) A.in1 (do
      (do ret (← newFields "set_iterator" [first, rawInt 0, .ref a, rawInt es.size, rawInt (← setEpoch a)]) : Sem PySem.Fin)) (fun fin s' => ∃ v, fin = .done (.ret v) ∧ Q' v s') E { s with heap := h₁, drawn := dr })) := fun first h₁ dr h1 Q' q => by
    refine wpAny_bind (wpAny_setEpoch_of (h1 _ _ ho') hd hf ?_)
    refine wpAny_bind (wpAny_newObj_type (wpAny_pure ⟨_, rfl, ?_⟩))
    exact q
  have hit : ∀ (first : Value) (h₁ : Heap), (h₁.push (setIt first 0 a es.size ep)).get? h₁.objs.size = some (setIt first 0 a es.size ep) := fun first h₁ => Heap.get?_push_size _ rfl
  have old : ∀ (h₁ : Heap), HLe s.heap h₁ → s.heap.get? h₁.objs.size = none := fun h₁ h1 => by
    cases e : s.heap.get? h₁.objs.size with
    | none => rfl
    | some ob => exact absurd (Heap.lt_size (h1 _ _ e)) (Nat.lt_irrefl _)
  have ne : ∀ (h₁ : Heap), HLe s.heap h₁ → a ≠ h₁.objs.size := fun h₁ h1 => Nat.ne_of_lt (Heap.lt_size (h1 _ _ ho'))
  by_cases hdr : w.params.followText "set-order" = true ∨ (!t.plain && decide (es.size > 1)) = false
  · -- in the table's order, or the text's
    refine wpAny_bind (setDrawn_at ho' hd hf ?_)
    have hno : (!w.params.followText "set-order" && (!t.plain && decide (es.size > 1))) = false := by
      rcases hdr with e | e
      · rw [e]; simp
      · rw [e]; simp
    rw [hno, if_neg (by simp)]
    refine wpAny_bind (wpAny_pure ?_)
    have e0 : s = { s with heap := s.heap, drawn := s.drawn } := by cases s; rfl
    rw [e0]
    refine finish (rawInt 0) s.heap s.drawn (HLe.refl _) _ ?_
    refine ⟨"set_iterator", _, ⟨_, hit _ _, rfl⟩, slot_seti_next.lookup, ?_⟩
    obtain ⟨ks₂, p2, r2⟩ := perm2 (walkOf_perm w a es ep).symm hr
    refine k s.heap.objs.size [s.heap.objs.size, a] (fun i x => ∃ e, (walkOf w a es ep)[i]? = some e ∧ x = e.2) (fun i h => i ≤ es.size ∧ h.get? a = some o ∧ ∃ slot, h.get? s.heap.objs.size = some (setIt (.int (slot : Nat) 0) i a es.size ep) ∧ (w.params.followText "set-order" = true ∨ SetTable.below t.place slot = i)) _ s.toks s.drawn ks₂ (p2.symm.trans hp) (HLe.push _ _) (old _ (HLe.refl _)) (fun b hb => ?_) (fun A' hA => ?_) (fun i x ⟨e, h1, h2⟩ => ?_) ⟨Nat.zero_le _, Heap.get?_push_of_some _ ho', 0, hit _ _, .inr (below_zero hL.rise)⟩
    · rcases List.mem_cons.mp hb with rfl | hb
      · exact .inl (old _ (HLe.refl _))
      · rw [List.mem_singleton.mp hb]; exact .inr ⟨_, ho⟩
    · refine ⟨fun b hb => by rw [List.mem_singleton.mp hb]; exact .head _, fun i h h' st hk => ⟨st.1, hk a (.tail _ (.head _)) _ st.2.1, ?_⟩, fun i s' Q' E' hi st hQ => ?_, fun s' Q' E' st hQ => ?_, fun i s' Q' E' st hQ => ?_⟩
      · obtain ⟨slot, h1, h2⟩ := st.2.2
        exact ⟨slot, hk _ (.head _) _ h1, h2⟩
      · obtain ⟨h0, h1, slot, h2, h3⟩ := st
        have hwl : (walkOf w a es ep).length = es.size := by rw [(walkOf_perm w a es ep).length_eq, Array.length_toList]
        have he : (walkOf w a es ep)[i]? = some ((walkOf w a es ep)[i]'(by omega)) := List.getElem?_eq_getElem _
        refine nextA_item h2 h1 hd hf hL hl hdr (h3.imp id fun q => ⟨q, h0⟩) he fun h' slot' hsb hg hb => ?_
        exact hQ _ h' s'.toks ⟨_, he, rfl⟩ ⟨by omega, (hsb.2 _ (ne _ (HLe.refl _))).trans h1, slot', hg, hb⟩ fun b ob hb e => (hsb.2 b (by simpa using hb)).trans e
      · obtain ⟨h0, h1, slot, h2, h3⟩ := st
        rw [← hn] at h2 h3
        refine nextA_end hA h2 h1 hd hf hL hl hdr h3 fun h' hk => ?_
        exact hQ h' s'.toks fun b ob hb e => hk b ob (by simpa using hb) e
      · obtain ⟨h0, h1, slot, h2, h3⟩ := st
        exact self_setit h2 hQ
    · obtain ⟨k', q1, q2⟩ := r2.get h1
      exact ⟨k', q1, h2 ▸ q2⟩
  · -- drawn
    have hb0 : w.params.followText "set-order" = false := by
      cases e : w.params.followText "set-order" with
      | true => exact absurd (.inl e) hdr
      | false => rfl
    have hd1 : (!t.plain && decide (es.size > 1)) = true := by
      cases e : (!t.plain && decide (es.size > 1)) with
      | true => rfl
      | false => exact absurd (.inr e) hdr
    have nz : es.size ≠ 0 := by
      have h := (Bool.and_eq_true_iff.mp hd1).2
      have h : es.size > 1 := of_decide_eq_true h
      omega
    refine wpAny_bind (setDrawn_at ho' hd hf ?_)
    rw [hb0, hd1]
    simp only [Bool.not_false, Bool.and_self, if_true]
    refine wpAny_bind (wp_drawOrder _ _ _ (by simp) fun ys dr hys => ?_)
    have hyl : ys.length = es.size := by rw [hys.length_eq]; simp
    refine wpAny_bind (wpAny_newTuple ?_ (by rw [List.length_map, hyl]; exact fits_of_scanBound hb))
    generalize hT : ({ cls := .type "tuple", data := .seq (ys.map fun (i : Nat) => rawInt i).toArray } : Obj) = oT
    have hle1 : HLe s.heap (s.heap.push oT) := HLe.push _ _
    have hgT : (s.heap.push oT).get? s.heap.objs.size = some oT := Heap.get?_push_size _ (by rw [← hT]; rfl)
    refine finish (.ref s.heap.objs.size) (s.heap.push oT) dr hle1 _ ?_
    refine ⟨"set_iterator", _, ⟨_, hit _ _, rfl⟩, slot_seti_next.lookup, ?_⟩
    -- the elements, in the order drawn
    have hin : ∀ y ∈ ys, y < es.size := fun y hy => by simpa using hys.mem_iff.mp hy
    have hpe : (ys.filterMap fun i => es[i]?).Perm es.toList := (hys.filterMap _).trans (by rw [filterMap_getElem?_range])
    have hget : ∀ (l : List Nat), (∀ y ∈ l, y < es.size) → ∀ (i p : Nat), l[i]? = some p → ∃ e, (l.filterMap fun i => es[i]?)[i]? = some e ∧ es[p]? = some e := fun l => by
      induction l with
      | nil => intro _ i p h; simp at h
      | cons y l ih =>
        intro hl i p h
        have hy := hl y (.head _)
        have hc : (y :: l).filterMap (fun i => es[i]?) = es[y] :: l.filterMap (fun i => es[i]?) := List.filterMap_cons_some (by simp [hy])
        rw [hc]
        cases i with
        | zero =>
          simp only [List.getElem?_cons_zero, Option.some.injEq] at h ⊢
          subst h
          exact ⟨_, rfl, by simp [hy]⟩
        | succ i =>
          simp only [List.getElem?_cons_succ] at h ⊢
          exact ih (fun y hy => hl y (.tail _ hy)) i p h
    obtain ⟨ks₂, p2, r2⟩ := perm2 hpe.symm hr
    refine k (s.heap.push oT).objs.size [(s.heap.push oT).objs.size, a, s.heap.objs.size] (fun i x => ∃ e, (ys.filterMap fun i => es[i]?)[i]? = some e ∧ x = e.2)
      (fun i h => i ≤ es.size ∧ h.get? a = some o ∧ h.get? s.heap.objs.size = some oT ∧ h.get? (s.heap.push oT).objs.size = some (setIt (.ref s.heap.objs.size) i a es.size ep)) _ s.toks dr ks₂ (p2.symm.trans hp) (hle1.trans (HLe.push _ _)) (old _ hle1) (fun b hb => ?_) (fun A' hA => ?_) (fun i x ⟨e, h1, h2⟩ => ?_)
      ⟨Nat.zero_le _, Heap.get?_push_of_some _ (hle1 _ _ ho'), Heap.get?_push_of_some _ hgT, hit _ _⟩
    · rcases List.mem_cons.mp hb with rfl | hb
      · exact .inl (old _ hle1)
      · rcases List.mem_cons.mp hb with rfl | hb
        · exact .inr ⟨_, ho⟩
        · rw [List.mem_singleton.mp hb]; exact .inl (old _ (HLe.refl _))
    · have nT : s.heap.objs.size ≠ (s.heap.push oT).objs.size := by rw [Heap.size_push]; exact Nat.ne_of_lt (Nat.lt_succ_self _)
      have hdT : oT.data = .seq (ys.map fun (i : Nat) => rawInt i).toArray := by rw [← hT]
      refine ⟨fun b hb => by rw [List.mem_singleton.mp hb]; exact .head _, fun i h h' st hk => ⟨st.1, hk a (.tail _ (.head _)) _ st.2.1, hk _ (.tail _ (.tail _ (.head _))) _ st.2.2.1, hk _ (.head _) _ st.2.2.2⟩, fun i s' Q' E' hi st hQ => ?_, fun s' Q' E' st hQ => ?_, fun i s' Q' E' st hQ => ?_⟩
      · obtain ⟨h0, h1, h2, h3⟩ := st
        have hyi : ys[i]? = some (ys[i]'(by omega)) := List.getElem?_eq_getElem _
        obtain ⟨e, q1, q2⟩ := hget ys hin i _ hyi
        refine nextC_item (p := ys[i]'(by omega)) (tk := 0) h3 h1 hd hf h2 hdT (by simp only [List.getElem?_toArray, List.getElem?_map, hyi]; rfl) q2 fun h' hsb hg => ?_
        exact hQ _ h' s'.toks ⟨_, q1, rfl⟩ ⟨by omega, (hsb.2 _ (ne _ hle1)).trans h1, (hsb.2 _ nT).trans h2, hg⟩ fun b ob hb e => (hsb.2 b (by simpa using hb)).trans e
      · obtain ⟨h0, h1, h2, h3⟩ := st
        rw [← hn] at h3
        refine nextC_end hA h3 h1 hd hf h2 hdT (by simp [hyl]) fun h' hk => ?_
        exact hQ h' s'.toks fun b ob hb e => hk b ob (by simpa using hb) e
      · exact self_setit st.2.2.2 hQ
    · obtain ⟨k', q1, q2⟩ := r2.get h1
      exact ⟨k', q1, h2 ▸ q2⟩
end Mine
set_option Elab.async false
set_option maxRecDepth 100000
set_option linter.unusedVariables false
namespace Mine
open PySem PySem.W PySem.Calls PyProof.Rows PySem.Spec PyProof.Rows.LCg

structure Cont (w : World) (h₀ : Heap) (v : Addr) (T : String) : Prop where
  type : ∃ o, h₀.get? v = some o ∧ o.cls = .type T
  nl : (Value.type T == Value.type "list") = false
  nt : (Value.type T == Value.type "tuple") = false
  hint : ∀ (A : Around) (E : Value → Shared → Prop) (s : Shared) (Q : Bool → Shared → Prop), s.TypeIs (.ref v) T → Q false s → wpAny (model prg w) A (Builtin.List.listLengthHint (.ref v)) Q E s
theorem hint_set {w : World} {A : Around} {E : Value → Shared → Prop} {s : Shared} {r : Addr} {Q : Bool → Shared → Prop} (hT : s.TypeIs (.ref r) "set") (h : Q false s) : wpAny (model prg w) A (Builtin.List.listLengthHint (.ref r)) Q E s := by
  unfold Builtin.List.listLengthHint
  refine wpAny_bind (wpAny_specialOf hT PySem.F.slot_set_len.lookup ?_)
  generalize hid : ("set.__len__" : String) = id0
  wp_delta
  rw [show splitId id0 = some ("set", "__len__") from by subst hid; decide +kernel]
  subst hid
  refine wpAny_bind (wpAny_isInstance (T := "set") (b := true) hT (by rw [isSubtype_type]; kernel_rfl) ?_)
  refine wpAny_ite_split (fun hab => absurd hab (by decide)) (fun _ => ?_)
  refine wpAny_ite_split (fun _ => ?_) (fun hab => absurd (by decide +kernel) hab)
  refine wpAny_bind (wpAny_typeOf hT ?_)
  exact wpAny_pure h
theorem hint_dict {w : World} {A : Around} {E : Value → Shared → Prop} {s : Shared} {r : Addr} {Q : Bool → Shared → Prop} (hT : s.TypeIs (.ref r) "dict") (h : Q false s) : wpAny (model prg w) A (Builtin.List.listLengthHint (.ref r)) Q E s := by
  unfold Builtin.List.listLengthHint
  refine wpAny_bind (wpAny_specialOf hT PySem.F.slot_dict_len.lookup ?_)
  generalize hid : ("dict.__len__" : String) = id0
  wp_delta
  rw [show splitId id0 = some ("dict", "__len__") from by subst hid; decide +kernel]
  subst hid
  refine wpAny_bind (wpAny_isInstance (T := "dict") (b := true) hT (by rw [isSubtype_type]; kernel_rfl) ?_)
  refine wpAny_ite_split (fun hab => absurd hab (by decide)) (fun _ => ?_)
  refine wpAny_ite_split (fun _ => ?_) (fun hab => absurd (by decide +kernel) hab)
  refine wpAny_bind (wpAny_typeOf hT ?_)
  exact wpAny_pure h
theorem Cont.set {w : World} {h₀ : Heap} {v : Addr} {o : Obj} (ho : h₀.get? v = some o) (hc : o.cls = .type "set") : Cont w h₀ v "set" :=
  ⟨⟨o, ho, hc⟩, by decide, by decide, fun A E s Q hT h => hint_set hT h⟩
theorem Cont.dict {w : World} {h₀ : Heap} {v : Addr} {o : Obj} (ho : h₀.get? v = some o) (hc : o.cls = .type "dict") : Cont w h₀ v "dict" :=
  ⟨⟨o, ho, hc⟩, by decide, by decide, fun A E s Q hT h => hint_dict hT h⟩

section
variable {K : Type} [DecidableEq K] {w : World} {knd : KeyKind prg w K} {A : Around} {E : Value → Shared → Prop} {s : Shared} {h₀ : Heap} {v : Addr} {n : Nat} {ks : List K} {T : String}
theorem all2_of_items {P : Nat → Value → Prop} {ks' : List K} (hP : ∀ i x, P i x → ∃ k, ks'[i]? = some k ∧ knd.is k x = true) : ∀ {acc : Array Value}, ItemsOf P acc ks'.length → All2 (fun x k => knd.is k x = true) acc.toList ks' := fun {acc} h => by
  have gen : ∀ (l : List Value) (m : List K), l.length = m.length → (∀ (i : Nat) (x : Value), l[i]? = some x → ∃ k, m[i]? = some k ∧ knd.is k x = true) → All2 (fun x k => knd.is k x = true) l m := fun l => by
    induction l with
    | nil => intro m e _; rw [List.eq_nil_of_length_eq_zero e.symm]; exact .nil
    | cons a l ih =>
      intro m e hm
      cases m with
      | nil => cases e
      | cons b m =>
        obtain ⟨k, h1, h2⟩ := hm 0 a rfl
        simp only [List.getElem?_cons_zero, Option.some.injEq] at h1
        subst h1
        exact .cons h2 (ih m (by simpa using e) fun i x hx => by simpa using hm (i + 1) x (by simpa using hx))
  exact gen _ _ (by rw [Array.length_toList]; exact h.1) fun i x hx => hP i x (h.2 i x (by rw [← Array.getElem?_toList]; exact hx))

theorem my_extend {R : Result → Shared → Prop} (K' : KSrc knd h₀ v n ks) (C : Cont w h₀ v T) (hh : A.handled = none) (hle : HLe h₀ s.heap) (hks : ks.length = n) (S : Addr) (hS0 : h₀.get? S = none) (hvS : v ≠ S) (res : Value) (c₀ : Nat) (hS : s.heap.get? S = some { cls := .type "list", data := .seq #[] c₀ }) (hn : n ≤ sizeLine)
    (hR : ∀ h' tk dr acc' c' ks', ks'.Perm ks → (∀ b o, b ≠ S → s.heap.get? b = some o → h'.get? b = some o) → h'.get? S = some { cls := .type "list", dict := none, data := .seq acc' c', slots := #[] } → All2 (fun x k => knd.is k x = true) acc'.toList ks' → R (.ok (.ret res)) { s with heap := h', toks := tk, drawn := dr }) :
    wpAny (model prg w) A.in1 (Builtin.List.listExtendWith (.ref S) (.ref v) res)
      (fun fin s' => match fin with | .done f => R (.ok f) s' | .again c' => c'.quiet = true ∧ codeAny (model prg w) A c' R s') (fun e s' => R (.error e) s') s := by
  have hT : ∀ s' : Shared, HLe h₀ s'.heap → s'.TypeIs (.ref v) T := fun s' h => let ⟨o, h1, h2⟩ := C.type; ⟨o, h _ _ h1, h2⟩
  unfold Builtin.List.listExtendWith
  refine wpAny_bind (wpAny_typeOf (T := T) (hT s hle) ?_)
  have h1 : Builtin.List.listSameRef (.ref S) (.ref v) = false := by simp [Builtin.List.listSameRef, Ne.symm hvS]
  simp only [h1, C.nl, C.nt, Bool.or_false, Bool.false_eq_true, if_false]
  refine wpAny_bind (K' A.in1 s _ _ hh hle fun it fp P St h₁ tk₁ dr₁ ks' hp hle1 hit hfp W hP st => ?_)
  have hSf : S ∉ fp := fun q => by
    rcases hfp S q with e | ⟨o, e⟩
    · rw [hS] at e; cases e
    · rw [hS0] at e; cases e
  have W := W A.in1 hh
  have hkl : ks'.length = n := by rw [hp.length_eq, hks]
  have key : ∀ (h : Heap) (c₁ tk : Nat), St 0 h → (∀ b o, b ≠ S → s.heap.get? b = some o → h.get? b = some o) →
      h.get? S = some { cls := .type "list", data := .seq #[] c₁ } → codeAny (model prg w) A (.builtin "list.extend.loop" ⟨[.ref S, .ref it, res], []⟩) R { s with heap := h, toks := tk, drawn := dr₁ } := by
    intro h c₁ tk hst hk hS₁
    refine codeAny_extend_loopS W.toS hn S hSf res n 0 _ #[] c₁ rfl (Nat.zero_le _) hst hS₁ (ItemsOf.nil _) fun s' acc' c' hm hS' hacc => ?_
    rw [Moved.eq_with hm]
    refine hR s'.heap s'.toks _ acc' c' ks' hp (fun b o hb e => hm.heap b o (fun hmem => ?_) (hk b o hb e)) hS' (all2_of_items hP (hkl ▸ hacc))
    rcases List.mem_cons.mp hmem with e' | hmem
    · exact hb e'
    · rw [List.mem_singleton.mp hmem] at e
      rw [hit] at e; cases e
  have hS₁ := hle1 _ _ hS
  refine wpAny_bind (wpAny_holding (C.hint _ _ _ _ (hT _ (hle.trans hle1)) ?_))
  refine wpAny_ite_split (fun _ => ?_) (fun _ => wpAny_pure ⟨plainId_quiet PySem.F.plain_extend_loop _, key _ c₀ _ st (fun b o _ e => hle1 _ _ e) hS₁⟩)
  refine wpAny_bind (wpAny_rule ?_)
  refine wpAny_bind ?_
  show wpAny _ _ (updateSeq S (·.push .none) >>= fun _ => updateSeq S (·.pop)) _ _ _
  refine wpAny_bind (wpAny_updateSeq hS₁ rfl ?_)
  have hS₂ := Heap.get?_update_self (Obj.mapSeq (·.push Value.none)) hS₁ rfl
  refine wpAny_updateSeq (hz := by seq_fits) hS₂ rfl ?_
  have hS₃ := Heap.get?_update_self (Obj.mapSeq (·.pop)) hS₂ rfl
  refine wpAny_pure ⟨plainId_quiet PySem.F.plain_extend_loop _, key _ _ _ ?_ (fun b o hb e => ?_) hS₃⟩
  · refine W.frame 0 _ _ st fun b hb o e => ?_
    have hbS : b ≠ S := fun h => hSf (h ▸ hb)
    exact (Heap.get?_update_other _ _ (Ne.symm hbS)).trans ((Heap.get?_update_other _ _ (Ne.symm hbS)).trans e)
  · exact (Heap.get?_update_other _ _ (Ne.symm hb)).trans ((Heap.get?_update_other _ _ (Ne.symm hb)).trans (hle1 _ _ e))

theorem my_collect {R : List Value → Shared → Prop} (K' : KSrc knd s.heap v n ks) (C : Cont w s.heap v T) (hh : A.handled = none) (hks : ks.length = n) (hn : n ≤ sizeLine)
    (h : ∀ h' tk dr (acc : List Value) ks', ks'.Perm ks → HLe s.heap h' → All2 (fun x k => knd.is k x = true) acc ks' → R acc { s with heap := h', toks := tk, drawn := dr }) :
    wpAny (model prg w) A (collect (.ref v)) R E s := by
  have vlt : v < s.heap.objs.size := let ⟨o, h, _⟩ := C.type; Heap.lt_size h
  unfold collect
  refine wpAny_bind (wpAny_runValue (codeAny_builtin entry_proto_collect' ?_))
  rw [Around.under_plainId PySem.F.plain_proto_collect _]
  show wpAny _ A.in1 (newList [] >>= fun l => again (.builtin "list.__iadd__" ⟨[l, .ref v], []⟩)) _ _ s
  refine wpAny_bind (wpAny_newObj_type ?_)
  refine wpAny_pure ⟨plainId_quiet PySem.F.plain_list_iadd _, codeAny_builtin entry_list_iadd' ?_⟩
  rw [Around.under_plainId PySem.F.plain_list_iadd _]
  have hS₁ : (s.heap.push { cls := .type "list", data := .seq ([] : List Value).toArray }).get? s.heap.objs.size = some { cls := .type "list", data := .seq #[] } := Heap.get?_push_size _ rfl
  show wpAny _ A.in1 (Builtin.List.listExtendWith (.ref s.heap.objs.size) (.ref v) (.ref s.heap.objs.size)) _ _ _
  have key := my_extend (A := A) (s := { s with heap := s.heap.push { cls := .type "list", data := .seq ([] : List Value).toArray } })
    (R := fun (q : Result) (s' : Shared) => ∃ (h' : Heap) (tk : Nat) (dr : Drawn) (acc' : Array Value) (c' : Nat) (ks' : List K), q = .ok (.ret (.ref s.heap.objs.size)) ∧ s' = { s with heap := h', toks := tk, drawn := dr } ∧ ks'.Perm ks ∧
      HLe s.heap h' ∧ h'.get? s.heap.objs.size = some { cls := .type "list", dict := none, data := .seq acc' c', slots := #[] } ∧ All2 (fun x k => knd.is k x = true) acc'.toList ks')
    K' C hh (HLe.push _ _) hks s.heap.objs.size (Heap.get?_none_of_le (Nat.le_refl _)) (Nat.ne_of_lt vlt) (.ref s.heap.objs.size) 0 hS₁ hn
    (fun h' tk dr acc' c' ks' hp hk hS' hacc => ⟨h', tk, dr, acc', c', ks', rfl, rfl, hp, fun b o e => hk b o (Nat.ne_of_lt (Heap.lt_size e)) (Heap.get?_push_of_some _ e), hS', hacc⟩)
  refine wpAny_mono key (fun fin s' x => ?_) fun e s' x => ?_
  · cases fin with
    | done f =>
      obtain ⟨h', tk, dr, acc', c', ks', e, rfl, hp, hk, hS', hacc⟩ := x
      cases e
      show wpAny _ A (load s.heap.objs.size >>= _) _ _ _
      refine wpAny_bind (wpAny_load hS' ?_)
      exact wpAny_pure (h h' tk dr acc'.toList ks' hp hk hacc)
    | again c₁ =>
      refine ⟨x.1, codeAny_mono x.2 fun q s₂ y => ?_⟩
      obtain ⟨h', tk, dr, acc', c', ks', rfl, rfl, hp, hk, hS', hacc⟩ := y
      show wpAny _ A (load s.heap.objs.size >>= _) _ _ _
      refine wpAny_bind (wpAny_load hS' ?_)
      exact wpAny_pure (h h' tk dr acc'.toList ks' hp hk hacc)
  · obtain ⟨_, _, _, _, _, _, e', _⟩ := x
    cases e'

/-- sorted of such a thing; Srt says what sorting a list of such keys gives -/
noncomputable def SortsTo (w : World) (knd : KeyKind prg w K) (le : K → K → Prop) : Prop :=
  ∀ (A : Around) (E : Value → Shared → Prop) (s : Shared) (a : Addr) (vs : List Value) (ks : List K) (n : Nat) (P : PySem.Fin → Shared → Prop), s.heap.get? a = some (seqObj "list" vs.toArray n) → All2 (fun x k => knd.is k x = true) vs ks → vs.length < 64 →
    (∀ (out : Array Value) (ks' : List K), All2 (fun x k => knd.is k x = true) out.toList ks' → ks'.Perm ks → ks'.Pairwise le → P (.done (.ret .none)) { s with heap := sortedHeap s.heap a vs out }) → wpAny (model prg w) A (Builtin.«list.sort» ⟨[.ref a], []⟩) P E s
theorem my_sorted {le : K → K → Prop} {Q : Value → Shared → Prop} (Z : SortsTo w knd le) (K' : KSrc knd s.heap v n ks) (C : Cont w s.heap v T) (hh : A.handled = none) (hks : ks.length = n) (hn : n < 64)
    (h : ∀ D h' tk dr (out : Array Value) c ks', HLe s.heap h' → s.heap.get? D = none → h'.get? D = some (seqObj "list" out c) → All2 (fun x k => knd.is k x = true) out.toList ks' → ks'.Perm ks → ks'.Pairwise le → Q (.ref D) { s with heap := h', toks := tk, drawn := dr }) :
    wpAny (model prg w) A (call (.builtin "sorted") [.ref v]) Q E s := by
  refine Calls.call_function_entry kind_sorted plain_sorted entry_sorted (args_sorted1 _) ?_
  unfold Builtin.«sorted»
  refine wpAny_bind (m := checkCount "sorted" 1 1 _) (wpAny_pure ?_)
  refine wpAny_bind (my_collect K' C (A := A.in1) hh hks (by rw [sizeLine_eq]; omega) fun h' tk dr acc ks' hp hle hacc => ?_)
  have hl : acc.length = n := by rw [hacc.length, hp.length_eq, hks]
  have hl64 : acc.length < 64 := by rw [hl]; exact hn
  refine wpAny_bind (wpAny_newList ?_ (by rw [sizeLine_eq]; omega))
  have hg : (h'.push { cls := .type "list", data := .seq acc.toArray }).get? h'.objs.size = some (seqObj "list" acc.toArray 0) := Heap.get?_push_size _ rfl
  refine wpAny_bind (wpAny_holding (wpAny_call_entry slot_list_sort ⟨_, hg, rfl⟩ entry_list_sort (Z _ _ _ _ acc ks' 0 _ hg hacc (by omega) fun out ks₂ a1 a2 a3 => ⟨_, rfl, ?_⟩) (args_list_sort _)))
  obtain ⟨e, he⟩ := sortedHeap_at (out := out) hg
  refine wpAny_pure ⟨_, rfl, h _ _ tk dr out e ks₂ (fun b o q => ?_) ?_ he a1 (a2.trans hp) a3⟩
  · have hlt := Heap.lt_size (hle _ _ q)
    rw [sortedHeap_old (Nat.ne_of_lt hlt) (by rw [Heap.size_push]; exact Nat.lt_succ_of_lt hlt), Heap.get?_push_ne _ _ _ (Nat.ne_of_lt hlt)]
    exact hle _ _ q
  · cases q : s.heap.get? h'.objs.size with
    | none => rfl
    | some o => exact absurd (Heap.lt_size (hle _ _ q)) (Nat.lt_irrefl _)
end

theorem SortsTo.int (w : World) : SortsTo w (intKind prg w) (· ≤ ·) := fun A E s a vs ks n P ho hk h64 h => by
  have hI : IntsAre vs ks := by
    clear ho h64 h
    induction hk with
    | nil => exact .nil
    | cons r _ ih => obtain ⟨t, rfl⟩ := Value.isInt_shape r; exact .cons _ t ih
  have back : ∀ {vs : List Value} {ks : List Int}, IntsAre vs ks → All2 (fun x k => (intKind prg w).is k x = true) vs ks := fun hI => by
    induction hI with
    | nil => exact .nil
    | cons n t _ ih => exact .cons (intKind_is _ _ _ _) ih
  exact list_sort_tree ho hI h64 fun out ns' a1 a2 a3 => h out ns' (back a1) a2 a3
noncomputable def leS (a b : Str) : Prop := a.cps.toList ≤ b.cps.toList
theorem leS_of_rising : ∀ (l : List Str) (p : Str), risingS p l = true → (∀ y ∈ l, leS p y) ∧ l.Pairwise leS
  | [], p, _ => ⟨fun y h => by (cases h), .nil⟩
  | x :: r, p, h => by
    unfold risingS at h
    obtain ⟨h1, h2⟩ := Bool.and_eq_true_iff.mp h
    obtain ⟨i1, i2⟩ := leS_of_rising r x h2
    have hpx : leS p x := by
      rw [ltCps_eq] at h1
      unfold leS
      exact List.not_lt.mp (by simpa using h1)
    exact ⟨fun y hy => by
      rcases List.mem_cons.mp hy with rfl | hy
      · exact hpx
      · exact List.le_trans hpx (i1 y hy), List.pairwise_cons.mpr ⟨i1, i2⟩⟩
theorem leS_of_sorted {l : List Str} (h : sortedS l = true) : l.Pairwise leS := by
  cases l with
  | nil => exact .nil
  | cons x r => exact List.pairwise_cons.mpr (leS_of_rising r x h)
theorem SortsTo.str (w : World) : SortsTo w (strKind prg w) leS := fun A E s a vs ks n P ho hk h64 h => by
  have hS : StrsAre vs ks := by
    clear ho h64 h
    induction hk with
    | nil => exact .nil
    | cons r _ ih => obtain ⟨t, rfl⟩ := Value.isStrOf_shape r; exact .cons _ t ih
  have back : ∀ {vs : List Value} {ks : List Str}, StrsAre vs ks → All2 (fun x k => (strKind prg w).is k x = true) vs ks := fun hI => by
    induction hI with
    | nil => exact .nil
    | cons n t _ ih => exact .cons (strKind_is _ _ _ _) ih
  refine list_sort_treeK strKind_oneLt ho hS.keysOf (fun v₁ v₂ rest e => keyKind_strs (by rw [← e]; exact hS)) h64 fun st' hp hs => ?_
  obtain ⟨ss', h1, h2, h3⟩ := sorted_out_str hS hp hs
  exact h _ ss' (back h1) h2 (leS_of_sorted h3)
theorem KSrc.dict {K : Type} [DecidableEq K] {w : World} {knd : KeyKind prg w K} {h₀ : Heap} {d : Addr} {kvs : List (K × Value)} (hd : h₀.DictOf knd d kvs) (lo : (d == sysModules) = false) : KSrc knd h₀ d kvs.length (kvs.map (·.1)) := fun A s Q E hh hle k => by
  obtain ⟨ep, hat⟩ := hd.dictAt
  have hat' := hat.keep hle
  refine wpAny_pyIter_dict lo hat' ?_
  have hne : d ≠ s.heap.objs.size := Nat.ne_of_lt hat'.lt_size
  refine k s.heap.objs.size [s.heap.objs.size, d] _ _ _ s.toks s.drawn _ (.refl _) (HLe.push _ _) (Heap.get?_none_of_le (Nat.le_refl _)) (fun b hb => ?_) (fun A' h' => Walks.dictKeys (knd := knd) h' s.heap.objs.size d hne kvs ep) (fun i x h => ?_) ⟨⟨_, Heap.get?_push_size _ rfl, rfl, rfl⟩, hat'.push _⟩
  · rcases List.mem_cons.mp hb with rfl | hb
    · exact .inl (Heap.get?_none_of_le (Nat.le_refl _))
    · rw [List.mem_singleton.mp hb]
      obtain ⟨o, _, h, _⟩ := hat
      exact .inr ⟨o, h⟩
  · obtain ⟨k', y, hx, hk⟩ := h
    exact ⟨k', by rw [List.getElem?_map, hx]; rfl, hk⟩
end Mine
set_option Elab.async false
set_option maxRecDepth 100000
set_option linter.unusedVariables false
namespace Mine
open PySem PySem.W PySem.Calls PyProof.Rows PySem.Spec PyProof.Rows.LCg

noncomputable def srtI (l : List Int) : List Int := l.mergeSort fun a b => decide (a ≤ b)
noncomputable def srtS (l : List Str) : List Str := l.mergeSort fun a b => decide (a.cps.toList ≤ b.cps.toList)
theorem srtI_perm (l : List Int) : (srtI l).Perm l := List.mergeSort_perm _ _
theorem srtS_perm (l : List Str) : (srtS l).Perm l := List.mergeSort_perm _ _
theorem srtI_eq {l l' : List Int} (p : l'.Perm l) (h : l'.Pairwise (· ≤ ·)) : l' = srtI l := by
  refine List.Perm.eq_of_pairwise (le := (· ≤ ·)) (fun a b _ _ h1 h2 => Int.le_antisymm h1 h2) h ?_ (p.trans (srtI_perm l).symm)
  have := List.pairwise_mergeSort (le := fun a b : Int => decide (a ≤ b)) (fun a b c h1 h2 => by simp at *; omega) (fun a b => by simp; omega) l
  exact this.imp fun h => by simpa using h
theorem srtS_eq {l l' : List Str} (p : l'.Perm l) (h : l'.Pairwise leS) : l' = srtS l := by
  refine List.Perm.eq_of_pairwise (le := leS) (fun a b _ _ h1 h2 => ?_) h ?_ (p.trans (srtS_perm l).symm)
  · have := List.le_antisymm h1 h2
    cases a; cases b; simp at this; simp [this]
  · have := List.pairwise_mergeSort (le := fun a b : Str => decide (a.cps.toList ≤ b.cps.toList)) (fun a b c h1 h2 => by simp at *; exact List.le_trans h1 h2) (fun a b => by simp; exact List.le_total _ _) l
    exact this.imp fun h => by simpa [leS] using h

/-- keys that can be sorted and held in sets -/
structure SK (K : Type) [DecidableEq K] extends DK K where
  enc : K → PyData
  srt : List K → List K
  le : K → K → Prop
  sorts : ∀ w, SortsTo w (knd w) le
  uniq : ∀ {l l' : List K}, l'.Perm l → l'.Pairwise le → l' = srt l
  rd : ∀ {w I v k}, (knd w).is k v = true → Rv I v (.d (enc k))
  ke : ∀ k, key k = .d (enc k)
  sc : ∀ {w v k}, (knd w).is k v = true → v.scannable = true
  srtP : ∀ l, (srt l).Perm l
noncomputable def sI : SK Int where
  toDK := kI
  enc := .int
  srt := srtI
  le := (· ≤ ·)
  sorts := SortsTo.int
  uniq := srtI_eq
  rd := fun h => by obtain ⟨t, rfl⟩ := Value.isInt_shape h; exact ⟨_, Reads.int _ _⟩
  ke := fun _ => rfl
  sc := fun h => by obtain ⟨t, rfl⟩ := Value.isInt_shape h; rfl
  srtP := srtI_perm
noncomputable def sS : SK Str where
  toDK := kS
  enc := .str
  srt := srtS
  le := leS
  sorts := SortsTo.str
  uniq := srtS_eq
  rd := fun h => by obtain ⟨t, rfl⟩ := Value.isStrOf_shape h; exact ⟨_, Reads.str _ _⟩
  ke := fun _ => rfl
  sc := fun h => by obtain ⟨t, rfl⟩ := Value.isStrOf_shape h; rfl
  srtP := srtS_perm

section
variable {c : Cx} {env : Env} {ρ ρ₁ ρ₂ ρ' : Vs} {ω ω₁ ω₂ ω₃ ω' : Os} {Ψ Ψ' : Fl → Vs → Os → Prop} {Φ Φ' Φ₁ : Os → Oc → Prop}

theorem all2_isR {K : Type} [DecidableEq K] (D : SK K) {w : World} {I : Heap} {vs : List Value} {ks : List K} (h : All2 (fun x k => (D.knd w).is k x = true) vs ks) : All2 (Rv I) vs ((ks.map D.enc).map .d) := by
  induction h with
  | nil => exact .nil
  | cons r _ ih => exact .cons (D.rd r) ih
theorem rd_is {K : Type} [DecidableEq K] (D : SK K) {w : World} {I : Heap} {vs : List Value} : ∀ {ks : List K}, All2 (Rv I) vs ((ks.map D.enc).map .d) → All2 (fun v k => (D.knd w).is k v = true ∧ v.scannable = true) vs ks := by
  induction vs with
  | nil => intro ks h; cases ks with | nil => exact .nil | cons k ks => cases h
  | cons v vs ih =>
    intro ks h
    cases ks with
    | nil => cases h
    | cons k ks =>
      cases h with
      | cons r t =>
        have := (D.isk w I v k (by rw [D.ke]; exact r)).1
        exact .cons ⟨this, D.sc this⟩ (ih t)

/-- what sorted can walk over: its keys -/
noncomputable def Sbl {K : Type} [DecidableEq K] (D : SK K) (c : Cx) (ω : Os) (av : AV) (ks : List K) : Prop :=
  (∃ d fs, av = vR d ∧ HasD D.toDK ω d fs ∧ ks = fs.map (·.1)) ∨ (∃ P : Obj → Prop, av = .fz P ∧ ∀ o, P o → ∃ kvs, o.IsDictOf (D.knd c.w) kvs ∧ ks = kvs.map (·.1)) ∨ (∃ P : Obj → Prop, av = .fz P ∧ ∀ o, P o → SetX (D.knd c.w) o ks)
theorem fin_sorted {K : Type} [DecidableEq K] (D : SK K) {I : Heap} {mu : Led} {s : Shared} {ks ks' : List K} {Q E : Value → Shared → Prop} {h' : Heap} {tk : Tok} {dr : Drawn} {out : Array Value} {e : Nat} {a : Addr} (X : S c I mu s) (W : Wd c env I ρ ω mu) (q : KE c env ρ ω I mu Φ Q E)
    (hp : Φ ω (.val (.d (.list ((D.srt ks).map D.enc))))) (hle : HLe s.heap h') (hn : s.heap.get? a = none) (ha : h'.get? a = some (seqObj "list" out e)) (hr : All2 (fun x k => (D.knd c.w).is k x = true) out.toList ks') (p : ks'.Perm ks) (o : ks'.Pairwise D.le) : Q (.ref a) { s with heap := h', toks := tk, drawn := dr } := by
  have e1 := D.uniq p o
  subst e1
  refine q.on _ (.d (.list ((D.srt ks).map D.enc))) _ _ _ _ (Go.grow X W hle) ?_ hp
  obtain ⟨as, ra⟩ := reads_of_all2 (all2_isR D (I := imm c mu h') hr)
  exact ⟨_, reads_list_at (X.grow_get ha hn) rfl rfl ra⟩
theorem isDict_cls {K : Type} [DecidableEq K] {w : World} {knd : KeyKind prg w K} {o : Obj} {kvs : List (K × Value)} (h : o.IsDictOf knd kvs) : o.cls = .type "dict" := let ⟨_, _, h, _⟩ := h; h.1
theorem keys_same {K : Type} {I : Heap} {kvs : List (K × Value)} {fs : List (K × AV)} (h : All2 (Kv I) kvs fs) : kvs.map (·.1) = fs.map (·.1) := by
  induction h with
  | nil => rfl
  | cons r _ ih => simp only [List.map_cons, ih, r.1]
theorem CB.sorted {lv : Nat} {K : Type} [DecidableEq K] (D : SK K) {av : AV} {ks : List K} (hc : c.Ok lv) (h : Sbl D c ω av ks) (hz : ks.length < 64) (hp : Φ ω (.val (.d (.list ((D.srt ks).map D.enc))))) : CB c env ρ ω (.builtin "sorted") [av] Φ := fun I mu s vals Q E X W r q => by
  obtain ⟨v, rfl, r1⟩ := r.one
  rcases h with ⟨d, fs, rfl, hd, rfl⟩ | ⟨P, rfl, hP⟩ | ⟨P, rfl, hP⟩
  · have r1 : v = .ref d := r1
    subst r1
    obtain ⟨o, kvs, h1, h2, h3, h4⟩ := dict_at D.toDK X W hd
    have ek := keys_same h3
    obtain ⟨o', ho', hd'⟩ := Heap.dictOf_iff.mp h2
    refine my_sorted (D.sorts c.w) (KSrc.dict h2 h4) (Cont.dict ho' (isDict_cls hd')) hc.handled (by simp) (by rw [← List.length_map (f := (·.1)), ek]; exact hz) fun a h' tk dr out e ks' q1 q2 q3 q4 q5 q6 => ?_
    rw [ek] at q5
    exact fin_sorted D X W q hp q1 q2 q3 q4 q5 q6
  · obtain ⟨a, o, rfl, h1, h2, h3⟩ := r1
    obtain ⟨kvs, h4, rfl⟩ := hP o h2
    have hD : s.heap.DictOf (D.knd c.w) a kvs := Heap.dictOf_iff.mpr ⟨o, X.im _ _ h1, h4⟩
    refine my_sorted (D.sorts c.w) (KSrc.dict hD (beq_eq_false_iff_ne.mpr (Nat.ne_of_gt h3))) (Cont.dict (X.im _ _ h1) (isDict_cls h4)) hc.handled (by simp) (by simpa using hz) fun a h' tk dr out e ks' q1 q2 q3 q4 q5 q6 => ?_
    exact fin_sorted D X W q hp q1 q2 q3 q4 q5 q6
  · obtain ⟨a, o, rfl, h1, h2, h3⟩ := r1
    have hS := hP o h2
    refine my_sorted (D.sorts c.w) (KSrc.set (X.im _ _ h1) hS) (Cont.set (X.im _ _ h1) hS.1.1) hc.handled rfl hz fun a h' tk dr out e ks' q1 q2 q3 q4 q5 q6 => ?_
    exact fin_sorted D X W q hp q1 q2 q3 q4 q5 q6

theorem CB.set {lv : Nat} {K : Type} [DecidableEq K] (D : SK K) {ks : List K} (hc : c.Ok lv) (hz : ks.length ≤ 1000) (hp : Φ ω (.val (.fz fun o => SetX (D.knd c.w) o (dedup ks)))) : CB c env ρ ω (.type "set") [.d (.list (ks.map D.enc))] Φ := fun I mu s vals Q E X W r q => by
  obtain ⟨v, rfl, as, r⟩ := r.one
  obtain ⟨a, l, bs, rfl, -, hl, ra⟩ := reads_list_items r
  have hl' : s.heap.IsList a l.toArray := let ⟨o, h, h'⟩ := hl; ⟨o, X.im _ _ h, h'⟩
  have ra' := rd_is D (w := c.w) (all2_of_reads ra)
  have hsz : l.length = ks.length := ra'.length
  refine call_set (knd := D.knd c.w) hc.handled hl' (by simpa using ra') (by rw [List.size_toArray, hsz]; unfold scanBound; omega) fun h' tk o ho hS hle => ?_
  refine q.on _ (.fz fun o => SetX (D.knd c.w) o (dedup ks)) _ _ _ _ (Go.grow X W (dr := s.drawn) hle) ⟨_, o, rfl, X.grow_get ho (Heap.get?_none_of_le (Nat.le_refl _)), hS, X.big hc⟩ hp
end
end Mine
set_option Elab.async false
set_option maxRecDepth 100000
set_option linter.unusedVariables false
namespace Mine
open PySem PySem.W PySem.Calls PyProof.Rows PySem.Spec PyProof.Rows.LCg

section
variable {c : Cx} {env : Env} {ρ ρ₁ ρ₂ ρ' : Vs} {ω ω₁ ω₂ ω₃ ω' : Os} {Ψ Ψ' : Fl → Vs → Os → Prop} {Φ Φ' Φ₁ : Os → Oc → Prop}

/-- something new, owned from now on -/
theorem go_new {lv : Nat} {I : Heap} {mu : Led} {s : Shared} {o : Obj} {ao : AO} {tk : Tok} {dr : Drawn} (hc : c.Ok lv) (X : S c I mu s) (W : Wd c env I ρ ω mu) (hf : o.isFreed = false) (r : Ro c.w I o ao) :
    ∃ I', Go c env ρ ω ((s.heap.objs.size, ao) :: ω) I mu I' ((s.heap.objs.size, o) :: mu) { s with heap := s.heap.push o, toks := tk, drawn := dr } ∧ s.heap.objs.size ∉ keys ω := by
  have hn : s.heap.get? s.heap.objs.size = none := Heap.get?_none_of_le (Nat.le_refl _)
  obtain ⟨X', le⟩ := X.own (tk := tk) (dr := dr) (HLe.push s.heap o) (Heap.get?_push_size _ hf) hn (X.big hc)
  have nm := X.newMu hn
  obtain ⟨lin, kin⟩ := lead W
  have nk : s.heap.objs.size ∉ keys ω := fun h => nm (kin _ h)
  refine ⟨_, ⟨X', le, Fp.sub fun p hp => .tail _ hp, fun a ha => ?_, ?_⟩, nk⟩
  · rcases List.mem_cons.mp ha with rfl | ha
    · exact .inr nm
    · exact .inl ha
  · refine W.step (P := fun _ => False) le (Fp.sub fun p hp => .tail _ hp) (fun h => h) (fun q hq => ?_) (fun a ha => ?_) (List.nodup_cons.mpr ⟨nk, W.nd⟩) X.kL
    · rcases List.mem_cons.mp hq with rfl | hq
      · exact ⟨o, .head _, r.mono le⟩
      · obtain ⟨o', h1, h2⟩ := W.own q hq
        exact ⟨o', .tail _ h1, h2.mono le⟩
    · rcases List.mem_cons.mp ha with rfl | ha
      · exact .inr nm
      · exact .inl ha

theorem TV.dict0 {lv : Nat} {K : Type} [DecidableEq K] {p : Pos} (D : DK K) (hc : c.Ok lv) (hp : ∀ d, d ∉ keys ω → Φ ((d, D.ao []) :: ω) (.val (vR d))) : TV c env ρ ω (.Dict [] [] p) Φ := fun I mu s Q E X W q => by
  refine wpAny_Dict_empty ?_
  have hd : (s.heap.push { cls := .type "dict", data := .dict #[] }).DictOf (D.knd c.w) s.heap.objs.size [] := Heap.DictOf.new s.heap
  obtain ⟨o', ho', hd'⟩ := Heap.dictOf_iff.mp hd
  have e : o' = { cls := .type "dict", data := .dict #[] } := Option.some.inj (ho'.symm.trans (Heap.get?_push_size _ rfl))
  subst e
  obtain ⟨I', g, nk⟩ := go_new (o := { cls := .type "dict", data := .dict #[] }) (tk := s.toks) (dr := s.drawn) hc X W rfl ((D.ro _ _ _ _).mpr ⟨[], hd', .nil⟩)
  exact q.on (.ref s.heap.objs.size) (vR s.heap.objs.size) _ _ _ _ g (show Rv I' (.ref s.heap.objs.size) (vR s.heap.objs.size) from rfl) (hp _ nk)
/-- an empty dict that nobody will turn -/
theorem TE.dict0 {lv : Nat} {K : Type} [DecidableEq K] {p : Pos} (D : DK K) (hc : c.Ok lv) : TE c env ρ ω (.Dict [] [] p) ω (.fz fun o => ∃ kvs, o.IsDictOf (D.knd c.w) kvs ∧ kvs.map (·.1) = []) := fun I mu s Q E X W q => by
  refine wpAny_Dict_empty ?_
  have hd : (s.heap.push { cls := .type "dict", data := .dict #[] }).DictOf (D.knd c.w) s.heap.objs.size [] := Heap.DictOf.new s.heap
  obtain ⟨o', ho', hd'⟩ := Heap.dictOf_iff.mp hd
  exact q _ _ _ _ (Go.grow X W (HLe.push _ _)) ⟨_, _, rfl, X.grow_get ho' (Heap.get?_none_of_le (Nat.le_refl _)), ⟨[], hd', rfl⟩, X.big hc⟩
theorem TV.list0 {lv : Nat} {p : Pos} (hc : c.Ok lv) (hp : ∀ d, d ∉ keys ω → Φ ((d, .list []) :: ω) (.val (vR d))) : TV c env ρ ω (.List [] p) Φ := fun I mu s Q E X W q => by
  refine List_ (spliced_nil (wpAny_newObj_type ?_))
  obtain ⟨I', g, nk⟩ := go_new (o := listOf #[] 0) (ao := .list []) (tk := s.toks) (dr := s.drawn) hc X W rfl ⟨#[], 0, rfl, .nil⟩
  exact q.on (.ref s.heap.objs.size) (vR s.heap.objs.size) _ _ _ _ g (show Rv I' (.ref s.heap.objs.size) (vR s.heap.objs.size) from rfl) (hp _ nk)

/-! ## items -/
theorem sub_end {value slice : Expr} {p : Pos} {a b r : AV} (hv : TE c env ρ ω value ω₁ a) (hs : TE c env ρ ω₁ slice ω₂ b)
    (h : ∀ (I : Heap) (mu : Led) (s : Shared) (o i : Value) (Q E : Value → Shared → Prop), S c I mu s → Wd c env I ρ ω₂ mu → Rv I o a → Rv I i b → (∀ v s' I' mu', Go c env ρ ω₂ ω₂ I mu I' mu' s' → Rv I' v r → Q v s') → wpAny (model prg c.w) c.A (subscriptTail value slice o i) Q E s) :
    TE c env ρ ω (.Subscript value slice p) ω₂ r := fun I mu s Q E X W q => by
  refine Subscript_ (hv I mu s _ _ X W fun v s₁ I₁ mu₁ g₁ r₁ => hs _ _ _ _ _ g₁.st g₁.wd fun kv s₂ I₂ mu₂ g₂ r₂ => ?_)
  exact h _ _ _ _ _ _ _ g₂.st g₂.wd (r₁.mono g₂.le) r₂ fun v s₃ I₃ mu₃ g₃ r₃ => q _ _ _ _ ((g₁.trans g₂).trans g₃) r₃
theorem all2_at {I : Heap} {vs : List Value} {ds : List PyData} {k : Nat} {d : PyData} (r : All2 (Rv I) vs (ds.map .d)) (h : ds[k]? = some d) : ∃ v, vs[k]? = some v ∧ Rv I v (.d d) := by
  obtain ⟨v, h1, h2⟩ := r.get' (i := k) (b := .d d) (by rw [List.getElem?_map, h]; rfl)
  exact ⟨v, h1, h2⟩
theorem TE.itemT {value slice : Expr} {p : Pos} {ds : List PyData} {k : Nat} {d : PyData} (hv : TE c env ρ ω value ω₁ (.d (.tuple ds))) (hs : TE c env ρ ω₁ slice ω₂ (dI k)) (hk : ds[k]? = some d) (hz : k < 1000)
    (hsl : ∀ o i, subscripted slice false o i = operate [o, i] (getItem o i) := by intro _ _; rfl) : TE c env ρ ω (.Subscript value slice p) ω₂ (.d d) :=
  sub_end hv hs fun I mu s o i Q E X W r1 r2 q => by
  obtain ⟨as, r1⟩ := r1
  obtain ⟨t, l, rfl, ⟨o, h1, h2, n, h3⟩, ra⟩ := reads_tuple_items r1
  obtain ⟨tk, rfl⟩ := r2.int
  obtain ⟨v, e1, e2⟩ := all2_at (all2_of_reads ra) hk
  have hl : k < l.length := (List.getElem?_eq_some_iff.mp e1).1
  have ht : IsTup s.heap t l.toArray := ⟨o, X.im _ _ h1, h2, n, h3⟩
  refine tail_any ht.typeIs slot_tuple_getitem.lookup (getItem_tuple (j := k) ht (by omega) (by omega) ?_ (by simpa using e1) (q _ _ _ _ (Go.refl X W) e2)) (hsl _ _)
  simp [seqIndex?]
  omega
theorem TE.itemL {value slice : Expr} {p : Pos} {ds : List PyData} {k : Int} {d : PyData} (hv : TE c env ρ ω value ω₁ (.d (.list ds))) (hs : TE c env ρ ω₁ slice ω₂ (dI k)) (h0 : 0 ≤ k) (hk : ds[k.toNat]? = some d) (hz : k < 1000)
    (hsl : ∀ o i, subscripted slice false o i = operate [o, i] (getItem o i) := by intro _ _; rfl) : TE c env ρ ω (.Subscript value slice p) ω₂ (.d d) :=
  sub_end hv hs fun I mu s o i Q E X W r1 r2 q => by
  obtain ⟨as, r1⟩ := r1
  obtain ⟨a, l, bs, rfl, -, hl, ra⟩ := reads_list_items r1
  have hl' : s.heap.IsList a l.toArray := let ⟨o, h, h'⟩ := hl; ⟨o, X.im _ _ h, h'⟩
  obtain ⟨tk, rfl⟩ := r2.int
  obtain ⟨v, e1, e2⟩ := all2_at (all2_of_reads ra) hk
  exact tail_any hl'.typeIs slot_list_getitem.lookup (wpAny_getItem_list hl' h0 (by omega) (by simpa using e1) (q _ _ _ _ (Go.refl X W) e2)) (hsl _ _)
theorem TE.itemS {value slice : Expr} {p : Pos} {x : Str} {k : Int} {ch : Nat} (hv : TE c env ρ ω value ω₁ (dS x)) (hs : TE c env ρ ω₁ slice ω₂ (dI k)) (h0 : 0 ≤ k) (hz : k < 1000) (hk : (seqIndex? k x.length).bind (x.cps[·]?) = some ch)
    (hsl : ∀ o i, subscripted slice false o i = operate [o, i] (getItem o i) := by intro _ _; rfl) : TE c env ρ ω (.Subscript value slice p) ω₂ (dS ⟨#[ch]⟩) :=
  sub_end hv hs fun I mu s o i Q E X W r1 r2 q => by
  obtain ⟨t, rfl⟩ := r1.str
  obtain ⟨tk, rfl⟩ := r2.int
  refine tail_any (T := "str") rfl slot_str_getitem.lookup (PyProof.Rows.getItem_str (c := ch) ?_ hk (q _ _ _ _ (Go.toks X W) (rS _ _ _))) (hsl _ _)
  simp
  omega
end
end Mine
set_option Elab.async false
set_option maxRecDepth 100000
set_option linter.unusedVariables false
namespace Mine
open PySem PySem.W PySem.Calls PyProof.Rows PySem.Spec PyProof.Rows.LCg

section
variable {c : Cx} {env : Env} {ρ ρ₁ ρ₂ ρ' : Vs} {ω ω₁ ω₂ ω₃ ω' : Os} {Ψ Ψ' : Fl → Vs → Os → Prop} {Φ Φ' Φ₁ : Os → Oc → Prop}

/-! ## calls of one argument, whatever it gives -/
theorem spl1 {e : Expr} {p : Pos} {I : Heap} {mu : Led} {s : Shared} {Q : List Value → Shared → Prop} {E : Value → Shared → Prop} (ha : TV c env ρ ω e Φ₁) (X : S c I mu s) (W : Wd c env I ρ ω mu)
    (q : ∀ v av ω' s' I' mu', Go c env ρ ω ω' I mu I' mu' s' → Rv I' v av → Φ₁ ω' (.val av) → Q [v] s') (x : ∀ e C ω' s' I' mu', Go c env ρ ω ω' I mu I' mu' s' → Exc c I' mu' e C s' → Φ₁ ω' (.exc C) → E (.ref e) s') (he : starEach [e] env = [(false, eval e env)] := by rfl) :
    wpAny (model prg c.w) c.A (spliced (backTo p (starEach [e] env))) Q E s := by
  rw [he]
  exact spliced_cons (ha I mu s _ _ X W ⟨fun v av ω' s' I' mu' g r p => spliced_nil (q _ _ _ _ _ _ g r p), x⟩)
theorem TV.bf1 {fe e : Expr} {p : Pos} {id : String} (hf : TE c env ρ ω fe ω₁ (.v (.builtin id))) (ha : TV c env ρ ω₁ e Φ₁) (hs : ∀ o a, Φ₁ o (.val a) → CB c env ρ o (.builtin id) [a] Φ) (hx : ∀ o C, Φ₁ o (.exc C) → Φ o (.exc C))
    (h1 : starEach [e] env = [(false, eval e env)] := by rfl)
    (he : eval (.Call fe [e] [] p) env = (do callWith p (← eval fe env) [] (backTo p (starEach [e] env)) (backToKw p (keywordEach [] env))) := by rfl) :
    TV c env ρ ω (.Call fe [e] [] p) Φ := fun I mu s Q E X W q => by
  refine Call_ (hf I mu s _ _ X W fun v s₁ I₁ mu₁ g₁ r₁ => ?_) he
  have r₁ : v = .builtin id := r₁
  subst r₁
  exact callWith_method1 (first := []) (spl1 ha g₁.st g₁.wd (fun v av ω' s₂ I₂ mu₂ g₂ r₂ p₂ => hs _ _ p₂ _ _ _ _ _ _ g₂.st g₂.wd (.cons r₂ .nil) (q.after (g₁.trans g₂))) (fun e C ω' s' I' mu' g x p => q.up _ _ _ _ _ _ (g₁.trans g) x (hx _ _ p)) h1) h1 rfl
theorem TV.bt1 {fe e : Expr} {p : Pos} {T : String} (hf : TE c env ρ ω fe ω₁ (.v (.type T))) (ha : TV c env ρ ω₁ e Φ₁) (hs : ∀ o a, Φ₁ o (.val a) → CB c env ρ o (.type T) [a] Φ) (hx : ∀ o C, Φ₁ o (.exc C) → Φ o (.exc C))
    (h1 : starEach [e] env = [(false, eval e env)] := by rfl)
    (he : eval (.Call fe [e] [] p) env = (do callWith p (← eval fe env) [] (backTo p (starEach [e] env)) (backToKw p (keywordEach [] env))) := by rfl) :
    TV c env ρ ω (.Call fe [e] [] p) Φ := fun I mu s Q E X W q => by
  refine Call_ (hf I mu s _ _ X W fun v s₁ I₁ mu₁ g₁ r₁ => ?_) he
  have r₁ : v = .type T := r₁
  subst r₁
  have z : wpAny (model prg c.w) c.A (spliced (backTo p (starEach [e] env))) (fun vs s₂ => wpAny (model prg c.w) c.A (call (.type T) vs) Q E s₂) E s₁ :=
    spl1 ha g₁.st g₁.wd (fun v av ω' s₂ I₂ mu₂ g₂ r₂ p₂ => hs _ _ p₂ _ _ _ _ _ _ g₂.st g₂.wd (.cons r₂ .nil) (q.after (g₁.trans g₂))) (fun e C ω' s' I' mu' g x p => q.up _ _ _ _ _ _ (g₁.trans g) x (hx _ _ p)) h1
  rw [h1] at z ⊢
  exact PyProof.Rows.callWith_type rfl (evalArgs_plain z)
theorem exc_no {ω₁ : Os} {av : AV} : ∀ (o : Os) (C : Addr), Ph ω₁ av o (.exc C) → Φ o (.exc C) := fun o C h => nomatch h.2
/-- of an argument that gives one value -/
theorem TE.bf1 {fe e : Expr} {p : Pos} {id : String} {a r : AV} (hf : TE c env ρ ω fe ω₁ (.v (.builtin id))) (ha : TE c env ρ ω₁ e ω₂ a) (hs : CB c env ρ ω₂ (.builtin id) [a] (Ph ω₃ r))
    (h1 : starEach [e] env = [(false, eval e env)] := by rfl)
    (he : eval (.Call fe [e] [] p) env = (do callWith p (← eval fe env) [] (backTo p (starEach [e] env)) (backToKw p (keywordEach [] env))) := by rfl) : TE c env ρ ω (.Call fe [e] [] p) ω₃ r :=
  TV.e (TV.bf1 hf (Φ₁ := Ph ω₂ a) (TE.v ha ⟨rfl, rfl⟩) (fun o a' h => by obtain ⟨rfl, h⟩ := h; cases h; exact hs) (fun o C h => nomatch h.2) h1 he)
theorem TE.bt1 {fe e : Expr} {p : Pos} {T : String} {a r : AV} (hf : TE c env ρ ω fe ω₁ (.v (.type T))) (ha : TE c env ρ ω₁ e ω₂ a) (hs : CB c env ρ ω₂ (.type T) [a] (Ph ω₃ r))
    (h1 : starEach [e] env = [(false, eval e env)] := by rfl)
    (he : eval (.Call fe [e] [] p) env = (do callWith p (← eval fe env) [] (backTo p (starEach [e] env)) (backToKw p (keywordEach [] env))) := by rfl) : TE c env ρ ω (.Call fe [e] [] p) ω₃ r :=
  TV.e (TV.bt1 hf (Φ₁ := Ph ω₂ a) (TE.v ha ⟨rfl, rfl⟩) (fun o a' h => by obtain ⟨rfl, h⟩ := h; cases h; exact hs) (fun o C h => nomatch h.2) h1 he)

/-! ## numbers, slices, sums of lists -/
theorem TE.floordiv {l r : Expr} {p : Pos} {a b : Int} (hl : TE c env ρ ω l ω₁ (dI a)) (hr : TE c env ρ ω₁ r ω₂ (dI b)) (hb : b ≠ 0) (hs : ∀ a, Builtin.divisionGoesByPylong a b = false) : TE c env ρ ω (.BinOp l .FloorDiv r p) ω₂ (dI (Int.fdiv a b)) :=
  TE.binop hl hr fun I mu s u v Q E X W r1 r2 h => by
    obtain ⟨t1, rfl⟩ := r1.int
    obtain ⟨t2, rfl⟩ := r2.int
    exact floordiv_int hb (h _ _ _ _ (Go.toks X W) ⟨_, Reads.int _ _⟩) (.inl (hs a))
theorem frz_list {lv : Nat} {I : Heap} {mu : Led} {s : Shared} {a : Addr} {h' : Heap} {tk : Tok} {dr : Drawn} {o : Obj} {vs : List Value} {n : Nat} {ds : List PyData} (X : S c I mu s) (W : Wd c env I ρ ω mu) (k : HLe s.heap h') (n0 : s.heap.get? a = none) (e : h'.get? a = some o) (h1 : o.cls = .type "list") (h2 : o.data = .seq vs.toArray n)
    (r : All2 (Rv I) vs (ds.map .d)) : Go c env ρ ω ω I mu (imm c mu h') mu { s with heap := h', toks := tk, drawn := dr } ∧ Rv (imm c mu h') (.ref a) (.d (.list ds)) := by
  have g := Go.grow X W (tk := tk) (dr := dr) k
  obtain ⟨as, ra⟩ := reads_of_all2 (r.imp fun _ _ h => h.mono g.le)
  exact ⟨g, _, reads_list_at (X.grow_get e n0) h1 h2 ra⟩
theorem TE.addL {l r : Expr} {p : Pos} {xs ys : List PyData} (hl : TE c env ρ ω l ω₁ (.d (.list xs))) (hr : TE c env ρ ω₁ r ω₂ (.d (.list ys))) (hz : xs.length + ys.length ≤ 1000) : TE c env ρ ω (.BinOp l .Add r p) ω₂ (.d (.list (xs ++ ys))) :=
  TE.binop hl hr fun I mu s u v Q E X W r1 r2 h => by
    obtain ⟨as, r1⟩ := r1
    obtain ⟨bs, r2⟩ := r2
    obtain ⟨a, vs, _, rfl, -, ⟨⟨cls, dd, data, sl⟩, ho, hc, n, hd⟩, ra⟩ := reads_list_items r1
    obtain ⟨b, ws, _, rfl, -, ⟨⟨cls2, dd2, data2, sl2⟩, ho2, hc2, n2, hd2⟩, rb⟩ := reads_list_items r2
    simp only at hc hd hc2 hd2
    subst hc hd hc2 hd2
    have la := (all2_of_reads ra).length
    have lb := (all2_of_reads rb).length
    rw [List.length_map] at la lb
    have e : vs.toArray ++ ws.toArray = (vs ++ ws).toArray := by simp
    have ho := X.im _ _ ho
    have ho2 := X.im _ _ ho2
    refine concat_meets ⟨_, ho, rfl⟩ ⟨_, ho2, rfl⟩ noFill_list_add seq_list_add PySem.F.slot_list_add PySem.F.entry_list_add (PySem.F.args_list_add_2 _ _) (list_addW a b vs.toArray ws.toArray n n2 dd dd2 sl sl2 (by simp only [List.size_toArray]; rw [sizeLine_eq]; omega)) ⟨ho, ho2, ?_⟩
    rw [e]
    obtain ⟨g, rv⟩ := frz_list (lv := 0) (tk := s.toks) (dr := s.drawn) (o := { cls := .type "list", data := .seq (vs ++ ws).toArray }) (ds := xs ++ ys) X W (HLe.push _ _) (Heap.get?_none_of_le (Nat.le_refl _)) (Heap.get?_push_size _ rfl) rfl rfl (by rw [List.map_append]; exact (all2_of_reads ra).append (all2_of_reads rb))
    exact h _ _ _ _ g rv
theorem TE.sliceI {value : Expr} {p p' pos : Pos} {k : Nat} {n : Int} {ns : List Int} (hv : TE c env ρ ω value ω₁ (.d (.list (ns.map .int)))) (h0 : 0 ≤ n) (hz : ns.length ≤ 1000)
    (ht : ∀ o r, letTemporaryGo value o r = pure () := by intro _ _; rfl) : TE c env ρ ω (.Subscript value (.Slice none (some (.Constant (.int n) k p)) none p') pos) ω₁ (.d (.list ((ns.take n.toNat).map .int))) := fun I mu s Q E X W q => by
  refine Subscript_ (hv I mu s _ _ X W fun v s₁ I₁ mu₁ g₁ r₁ => ?_)
  obtain ⟨as, r₁⟩ := r₁
  obtain ⟨a, vs, _, rfl, -, hl, ra⟩ := reads_list_items r₁
  rw [arm_eval_Slice]
  refine wpAny_bind (wpAny_pure (wpAny_bind (wpAny_holding ?_)))
  show wpAny _ _ (eval (.Constant (.int n) k p) env) _ _ _
  refine wpAny_Constant_int ?_
  refine wpAny_bind (wpAny_holding (wpAny_pure ?_))
  refine wpAny_newObj_type ?_
  have X₁ := g₁.st
  have hi : IntsAre vs ns := ints_of (by have := all2_of_reads ra; rwa [List.map_map] at this)
  have hl' : s₁.heap.IsList a vs.toArray := let ⟨o, h, h'⟩ := hl; ⟨o, X₁.im _ _ h, h'⟩
  refine subscriptTail_ops (Heap.IsList.typeIs (s := { s₁ with heap := s₁.heap.push { cls := .type "slice", data := .fields #[.none, .int n s₁.toks, .none] }, toks := s₁.toks + 1 }) (hl'.push _)) list_getitem_lookup
    (wpAny_getItem_list_slice (hl'.push _) (Heap.IsSliceOf.new ..) .none (.int _ _) .none (by simp) ?_ (by rw [List.size_toArray, IntsAre.length hi, sizeLine_eq]; omega)) (by with_unfolding_all rfl) (ht _)
  have hle : HLe s₁.heap ((s₁.heap.push { cls := .type "slice", data := .fields #[.none, .int n s₁.toks, .none] }).push { cls := .type "list", data := .seq (slicePick vs.toArray none (some n) none) }) := (HLe.push _ _).trans (HLe.push _ _)
  have hp := slice_ints_uptoW hi h0
  have hn0 : s₁.heap.get? (s₁.heap.push { cls := .type "slice", data := .fields #[.none, .int n s₁.toks, .none] }).objs.size = none := Heap.get?_none_of_le (by rw [Heap.size_push]; exact Nat.le_succ _)
  obtain ⟨g, rv⟩ := frz_list (lv := 0) (tk := s₁.toks + 1) (dr := s₁.drawn) (vs := (slicePick vs.toArray none (some n) none).toList) (ds := (ns.take n.toNat).map .int) X₁ g₁.wd hle hn0 (Heap.get?_push_size _ rfl) rfl (by rw [Array.toArray_toList]) (by
    rw [List.map_map]; exact of_ints _ hp)
  exact q _ _ _ _ (g₁.trans g) rv

theorem preSum_list : ∀ (ns : List Int), preSum (fun i => ns.getD i 0) ns.length = ns.sum := by
  have gen : ∀ (f : Nat → Int) (n : Nat), preSum f (n + 1) = f 0 + preSum (fun i => f (i + 1)) n := fun f n => by
    induction n with
    | zero => simp [preSum]
    | succ n ih =>
      show preSum f (n + 1) + f (n + 1) = f 0 + (preSum (fun i => f (i + 1)) n + f (n + 1))
      rw [ih, Int.add_assoc]
  intro ns
  induction ns with
  | nil => rfl
  | cons a ns ih =>
    rw [List.length_cons, gen, List.sum_cons, ← ih]
    rfl
theorem CB.len {lv : Nat} {av : AV} {xs : List AV} (h : IsLst ω av xs) (hz : xs.length ≤ 1000) (hp : Φ ω (.val (dI (xs.length : Nat)))) : CB c env ρ ω (.builtin "len") [av] Φ := fun I mu s vals Q E X W r q => by
  obtain ⟨v, rfl, r1⟩ := r.one
  obtain ⟨a, vs, rfl, hl, ra⟩ := h.at X W r1
  have e := ra.length
  refine call_len_list hl (by rw [List.size_toArray]; omega) (q.on _ _ _ _ _ _ (Go.toks X W) ?_ hp)
  rw [List.size_toArray, e]
  exact rI _ _ _
theorem CB.sum {lv : Nat} {av : AV} {ns : List Int} (hc : c.Ok lv) (h : IsLst ω av (ns.map dI)) (hp : Φ ω (.val (dI ns.sum))) : CB c env ρ ω (.builtin "sum") [av] Φ := fun I mu s vals Q E X W r q => by
  obtain ⟨v, rfl, r1⟩ := r.one
  obtain ⟨a, vs, rfl, hl, ra⟩ := h.at X W r1
  have hi := ints_of ra
  have hlt : a < s.heap.objs.size := let ⟨o, h, _⟩ := hl; Heap.lt_size h
  have en : vs.toArray.size = ns.length := by rw [List.size_toArray, IntsAre.length hi]
  refine call_sum_walkAnyS (wpAny_pyIter_list hl ⟨s.heap.objs.size, _, _, _, _, _, _, fun i => ns.getD i 0, rfl, (Walks.list (A := c.A.in1) hc.handled _ a (Nat.ne_of_lt hlt) vs.toArray).toS, ⟨⟨_, Heap.get?_push_size _ rfl, rfl, rfl⟩, hl.push _⟩, fun b hb => ?_, fun i v hv => ?_, fun s' t' hm => ?_⟩)
  · show b < (s.heap.push _).objs.size
    rw [Heap.size_push]
    rcases List.mem_cons.mp hb with rfl | hb
    · exact Nat.lt_succ_self _
    · rw [List.mem_singleton.mp hb]; exact Nat.lt_succ_of_lt hlt
  · have hv : vs.toArray[i]? = some v := hv
    exact IntsAre.int_at hi i v (by simpa using hv)
  · have hk : HLe s.heap s'.heap := fun b o e => hm.heap b o (fun hI => absurd (Heap.lt_size e) (by rw [List.mem_singleton.mp hI]; exact Nat.lt_irrefl _)) (Heap.get?_push_of_some _ e)
    rw [Moved.eq_with hm, en, preSum_list]
    exact q.on _ _ _ _ _ _ (Go.grow X W hk) (rI _ _ _) hp
theorem CB.any {lv : Nat} {av : AV} {bs : List Bool} (hc : c.Ok lv) (h : IsLst ω av (bs.map dB)) (hp : Φ ω (.val (dB (bs.any id)))) : CB c env ρ ω (.builtin "any") [av] Φ := fun I mu s vals Q E X W r q => by
  obtain ⟨v, rfl, r1⟩ := r.one
  obtain ⟨a, vs, rfl, hl, ra⟩ := h.at X W r1
  have hlt : a < s.heap.objs.size := let ⟨o, h, _⟩ := hl; Heap.lt_size h
  have en : vs.toArray.size = bs.length := by rw [List.size_toArray, ra.length, List.length_map]
  refine call_any_walk (wpAny_pyIter_list hl ⟨s.heap.objs.size, _, _, _, _, _, fun i => bs.getD i false, rfl, Walks.list (A := c.A.in1) hc.handled _ a (Nat.ne_of_lt hlt) vs.toArray, ⟨⟨_, Heap.get?_push_size _ rfl, rfl, rfl⟩, hl.push _⟩, fun i v s' Q' E' hv hQ => ?_, fun h' tk hk => ?_⟩)
  · have hv : vs.toArray[i]? = some v := hv
    obtain ⟨x, e1, e2⟩ := ra.get (i := i) (a := v) (by simpa using hv)
    rw [List.getElem?_map] at e1
    obtain ⟨b, e3, rfl⟩ := Option.map_eq_some_iff.mp e1
    cases e2.bool
    refine wpAny_truthy_bool ?_
    have e4 : bs.getD i false = b := by simp [e3]
    rw [← e4]; exact hQ
  · have hk' : HLe s.heap h' := fun b o e => hk b o (fun hI => absurd (Heap.lt_size e) (by rw [List.mem_singleton.mp hI]; exact Nat.lt_irrefl _)) (Heap.get?_push_of_some _ e)
    have e : (List.range vs.toArray.size).any (fun i => bs.getD i false) = bs.any id := by
      rw [en, Bool.eq_iff_iff, List.any_eq_true, List.any_eq_true]
      constructor
      · rintro ⟨i, hi, hb⟩
        have hi := List.mem_range.mp hi
        refine ⟨bs[i], List.getElem_mem hi, ?_⟩
        simpa [hi] using hb
      · rintro ⟨b, hb, hb'⟩
        obtain ⟨i, hi, e⟩ := List.getElem_of_mem hb
        exact ⟨i, List.mem_range.mpr hi, by simpa [hi, e] using hb'⟩
    rw [e]
    exact q.on _ _ _ _ _ _ (Go.grow X W hk') (rB _ _) hp
theorem CB.tuple {av : AV} {ds : List PyData} (h : IsLst ω av (ds.map .d)) (hz : ds.length ≤ 1000) (hp : Φ ω (.val (.d (.tuple ds)))) : CB c env ρ ω (.type "tuple") [av] Φ := fun I mu s vals Q E X W r q => by
  obtain ⟨v, rfl, r1⟩ := r.one
  obtain ⟨a, vs, rfl, hl, ra⟩ := h.at X W r1
  have el := ra.length
  rw [List.length_map] at el
  refine call_tuple_list hl (fun h' hk => ?_) (by rw [List.size_toArray, el, sizeLine_eq]; omega)
  have hle : HLe s.heap (h'.push { cls := .type "tuple", data := .seq vs.toArray }) := fun b o e => Heap.get?_push_of_some _ (hk b o e)
  have g := Go.grow X W (tk := s.toks) (dr := s.drawn) hle
  obtain ⟨as, ra'⟩ := reads_of_all2 (ra.imp fun _ _ h => h.mono g.le)
  refine q.on _ (.d (.tuple ds)) _ _ _ _ g ⟨_, reads_tuple_at (X.grow_get (Heap.get?_push_size _ rfl) ?_) rfl rfl ra'⟩ hp
  cases e : s.heap.get? h'.objs.size with
  | none => rfl
  | some o => exact absurd (Heap.lt_size (hk _ _ e)) (Nat.lt_irrefl _)
theorem CB.range {lv : Nat} {a b : Int} (hc : c.Ok lv) (hp : Φ ω (.val (.fz (IsRng a b)))) : CB c env ρ ω (.type "range") [dI a, dI b] Φ := fun I mu s vals Q E X W r q => by
  obtain ⟨v1, v2, rfl, r1, r2⟩ := r.two
  obtain ⟨t, rfl⟩ := r1.int
  obtain ⟨u, rfl⟩ := r2.int
  refine call_range_2 ?_
  exact q.on _ (.fz (IsRng a b)) _ _ _ _ (Go.grow X W (HLe.push _ _)) ⟨_, _, rfl, X.grow_get (Heap.get?_push_size _ rfl) (Heap.get?_none_of_le (Nat.le_refl _)), ⟨t, u, _, rfl⟩, X.big hc⟩ hp
end
end Mine
set_option Elab.async false
set_option maxRecDepth 100000
set_option linter.unusedVariables false
namespace Mine
open PySem PySem.W PySem.Calls PyProof.Rows PySem.Spec PyProof.Rows.LCg

theorem entry_dul : entryFor table "dict.update.loop" = some Builtin.«dict.update.loop» := entryFor_of_tree (by kernel_rfl)
theorem plain_dul : plainId "dict.update.loop" = true := by decide +kernel
theorem list_keys_miss : typeLookup (.type "list") "keys" = pure none := by rw [typeLookup_type, builtinLookup_eq_fast]; kernel_rfl

section
variable {K : Type} [DecidableEq K] {w : World} {knd : KeyKind prg w K} {A : Around} {E : Value → Shared → Prop} {s : Shared}

/-- a list has no attribute keys -/
theorem no_keys {a : Addr} {xs : Array Value} {k : Nat} {Q : Option Value → Shared → Prop} (hx : s.heap.get? a = some (listOf xs k)) (hA : A.handled = none) (h : ∀ h' tk, HLe s.heap h' → Q none { s with heap := h', toks := tk }) :
    wpAny (model prg w) A (getAttr? (.ref a) "keys") Q E s := by
  obtain ⟨hp, g, d, tk, os⟩ := s
  have hT : ∀ tk', (⟨hp, g, d, tk', os⟩ : Shared).TypeIs (.ref a) "list" := fun _ => ⟨_, hx, rfl⟩
  have f1 := sub_AttributeError
  have f3 := PySem.F.slot_list_getattribute.lookup
  have f4 := PySem.F.slot_list_getattribute.bind (.ref a)
  have f5 := am_list_getattr_none
  unfold getAttr? getAttrBy? getAttrBy
  repeat (any_goals (first | assumption | exact hT _ | ((with_reducible show wpAny _ _ (call (Value.builtin "list.__getattribute__") _ _) _ _ _); refine call_meets PySem.F.slot_list_getattribute (hT _) am_entry_list_getattribute (PySem.F.args_list_getattribute_2 _ _) (meets_getattribute_miss_list a xs k #[] "keys" _ list_keys_miss (by decide +kernel) (by rw [sizeLine_eq]; decide +kernel)) ⟨hx, hA, fun h' tk' e hx' => ?_⟩) | wp_step))
  obtain ⟨t', u', he⟩ := hx'.there
  show wpAny _ _ (getattributeRaised _ _ _ _ _ _ _) _ _ _
  unfold getattributeRaised
  repeat (any_goals (first | assumption | wp_step))
  exact h _ _ hx'.keeps

noncomputable def storeAllK (kvs : List (K × Value)) (ps : List (K × Value)) : List (K × Value) := ps.foldl (fun acc p => stored acc p.1 p.2) kvs
theorem stored_keys (kvs : List (K × Value)) (k : K) (v : Value) : (stored kvs k v).map (·.1) = addk (kvs.map (·.1)) k := by
  unfold stored addk
  by_cases h : kvs.any (fun kv => decide (kv.1 = k)) = true
  · have hm : k ∈ kvs.map (·.1) := by
      obtain ⟨p, hp, e⟩ := List.any_eq_true.mp h
      rw [← of_decide_eq_true e]
      exact List.mem_map_of_mem hp
    rw [if_pos h, if_pos hm, List.map_map]
    refine List.map_congr_left fun p _ => ?_
    show (if p.1 = k then (p.1, v) else p).1 = p.1
    split <;> rfl
  · have hm : ¬ k ∈ kvs.map (·.1) := fun hm => h (by
      obtain ⟨p, hp, e⟩ := List.mem_map.mp hm
      exact List.any_eq_true.mpr ⟨p, hp, decide_eq_true e⟩)
    rw [if_neg h, if_neg hm, List.map_append]
    rfl
theorem storeAllK_keys (ps kvs : List (K × Value)) : (storeAllK kvs ps).map (·.1) = (ps.map (·.1)).foldl addk (kvs.map (·.1)) := by
  induction ps generalizing kvs with
  | nil => rfl
  | cons p ps ih =>
    show (storeAllK (stored kvs p.1 p.2) ps).map (·.1) = _
    rw [ih, stored_keys]
    rfl

/-- the pairs are stored, one by one -/
theorem pairs_loop {R : Result → Shared → Prop} {I : Addr} {fp wr : List Addr} {n : Nat} {P : Nat → Value → Prop} {St : Nat → Heap → Prop} (W : Walks prg w A.in1 I fp wr n P St) (d : Addr) (hdf : d ∉ fp)
    (ps : List (K × Value)) (hn : ps.length = n) (h₀ : Heap) (hw : ∀ b ∈ wr, h₀.get? b = none) (hd0 : h₀.get? d = none)
    (hval : ∀ i v, P i v → ∃ q kv, ps[i]? = some q ∧ knd.is q.1 kv = true ∧ ∃ t o m, v = .ref t ∧ h₀.get? t = some o ∧ o.cls = .type "tuple" ∧ o.data = .seq #[kv, q.2] m) (hz : n ≤ 1000) :
    ∀ (k i : Nat) (s : Shared) (tk : Tok), n - i = k → i ≤ n → St i s.heap → HLe h₀ s.heap → s.heap.DictOf knd d (storeAllK [] (ps.take i)) →
      (∀ h' tk, HLe h₀ h' → h'.DictOf knd d (storeAllK [] ps) → R (.ok (.ret .none)) { s with heap := h', toks := tk }) →
      codeAny (model prg w) A (.builtin "dict.update.loop" ⟨[.ref d, .ref I, .int i tk, .none], []⟩) R s := by
  have hdw : d ∉ wr := fun h => hdf (W.sub _ h)
  have old : ∀ {h h' : Heap}, HLe h₀ h → (∀ b o, b ∉ wr → h.get? b = some o → h'.get? b = some o) → HLe h₀ h' := fun l k b o e => k b o (fun hb => by rw [hw b hb] at e; cases e) (l _ _ e)
  intro k
  induction k with
  | zero =>
    intro i s tk hk hi hst hle hd hR
    have hin : i = n := by omega
    subst hin
    refine codeAny_builtin entry_dul ?_
    rw [Around.under_plainId plain_dul _]
    show wpAny _ A.in1 (pyNext (.ref I) >>= _) _ _ s
    refine wpAny_bind (W.done s _ _ hst fun h' tk' hm => ?_)
    show wpAny _ A.in1 (Builtin.Dict.addKeywords d [] >>= _) _ _ _
    rw [← hn, List.take_length] at hd
    refine wpAny_bind (wpAny_pure (wpAny_pure (hR h' tk' (old hle hm) ?_)))
    obtain ⟨o, ho, h⟩ := Heap.dictOf_iff.mp hd
    exact Heap.dictOf_iff.mpr ⟨o, hm _ _ hdw ho, h⟩
  | succ k ih =>
    intro i s tk hk hi hst hle hd hR
    have hlt : i < n := by omega
    refine codeAny_builtin entry_dul ?_
    rw [Around.under_plainId plain_dul _]
    show wpAny _ A.in1 (pyNext (.ref I) >>= _) _ _ s
    refine wpAny_bind (W.item i s _ _ hlt hst fun v h' tk' hP hst' hm => ?_)
    obtain ⟨q, kv, hq, hkey, t, o, m, rfl, ho, hc, hdt⟩ := hval i v hP
    have hle' := old hle hm
    have ho' := hle' _ _ ho
    have hd' : h'.DictOf knd d (storeAllK [] (ps.take i)) := by
      obtain ⟨o, ho, h⟩ := Heap.dictOf_iff.mp hd
      exact Heap.dictOf_iff.mpr ⟨o, hm _ _ hdw ho, h⟩
    show wpAny _ A.in1 (holding [Value.ref t] _ >>= _) _ _ _
    refine wpAny_bind (wpAny_holding ?_)
    refine wpAny_bind (wpAny_tryCatch ?_)
    unfold Builtin.Dict.pairItems
    refine wpAny_bind (wpAny_typeOf (T := "tuple") ⟨o, ho', hc⟩ ?_)
    rw [if_pos (by decide)]
    unfold seqItems?
    dsimp only
    refine wpAny_bind (wpAny_bind (wpAny_load ho' ?_))
    rw [hdt]
    refine wpAny_pure (wpAny_pure ?_)
    dsimp only [Option.getD]
    have hlen : (storeAllK ([] : List (K × Value)) (ps.take i)).length ≤ sizeLine := by
      have e : (storeAllK ([] : List (K × Value)) (ps.take i)).length = ((storeAllK ([] : List (K × Value)) (ps.take i)).map (·.1)).length := by simp
      rw [e, storeAllK_keys]
      have h1 := foldl_addk_len ((ps.take i).map (·.1)) ([] : List K)
      simp only [List.map_nil, List.length_nil, List.length_map, List.length_take] at h1 ⊢
      rw [sizeLine_eq]
      omega
    refine wpAny_holding (wpAny_dictSet_pairs (hsz := hlen) hkey hd' fun h'' hd'' hsb => ?_)
    have e : stored (storeAllK [] (ps.take i)) q.1 q.2 = storeAllK [] (ps.take (i + 1)) := by
      unfold storeAllK
      rw [List.take_add_one, hq]
      simp
    rw [e] at hd''
    have nd : ∀ b ob, h₀.get? b = some ob → b ≠ d := fun b ob e q => by rw [q, hd0] at e; cases e
    refine wpAny_pure ⟨plainId_quiet plain_dul _, ih (i + 1) _ 0 (by omega) hlt (W.frame _ _ _ hst' fun b hb ob e => ?_) (fun b ob e => (hsb.2 b (nd b ob e)).trans (hle' _ _ e)) hd'' fun h3 tk3 hk3 hd3 => hR h3 tk3 hk3 hd3⟩
    exact (hsb.2 b fun q => hdf (q ▸ hb)).trans e

theorem call_dict_pairs {l : Addr} {items : Array Value} {n : Nat} {ps : List (K × Value)} {Q : Value → Shared → Prop} (hh : A.handled = none) (hl : s.heap.get? l = some (listOf items n))
    (hi : All2 (fun v q => ∃ kv, knd.is q.1 kv = true ∧ ∃ t o m, v = .ref t ∧ s.heap.get? t = some o ∧ o.cls = .type "tuple" ∧ o.data = .seq #[kv, q.2] m) items.toList ps) (hz : ps.length ≤ 1000)
    (h : ∀ h' tk, HLe s.heap h' → h'.DictOf knd s.heap.objs.size (storeAllK [] ps) → Q (.ref s.heap.objs.size) { s with heap := h', toks := tk }) :
    wpAny (model prg w) A (call (.type "dict") [.ref l]) Q E s := by
  refine callType_codes (Q₁ := fun obj s₁ => obj = .ref s.heap.objs.size ∧ s₁ = { s with heap := s.heap.push { cls := .type "dict", data := .dict #[] } }) PySem.F.kt_called_dict (PySem.F.kt_typeCall_dict_1 _) PySem.F.entry_dict_init (kt_code_dict_new _ ⟨rfl, rfl⟩) ?_
  rintro obj s₁ ⟨rfl, rfl⟩
  have hnew : (s.heap.push { cls := .type "dict", data := .dict #[] }).DictOf knd s.heap.objs.size [] := Heap.DictOf.new s.heap
  refine ⟨hnew.typeIs, PySem.F.args_dict_init_2 _ _, ?_⟩
  unfold Builtin.«dict.__init__»
  refine wpAny_bind ?_
  unfold Builtin.Dict.selfAndRest
  refine wpAny_bind (wpAny_notOrdered_dict hnew.typeIs ?_)
  show wpAny _ _ (pure (s.heap.objs.size, [Value.ref l])) _ _ _
  refine wpAny_pure ?_
  show wpAny _ _ (Builtin.Dict.updateFrom "dict.__init__" s.heap.objs.size (.ref l) [] .none) _ _ _
  unfold Builtin.Dict.updateFrom
  have hl1 : (s.heap.push { cls := .type "dict", data := .dict #[] }).get? l = some (listOf items n) := Heap.get?_push_of_some _ hl
  refine wpAny_bind (wpAny_typeOf (T := "list") ⟨_, hl1, rfl⟩ ?_)
  rw [if_pos (by decide)]
  refine wpAny_bind (no_keys hl1 hh fun h₂ tk₂ hle₂ => ?_)
  rw [if_pos (by rfl)]
  refine wpAny_bind (wpAny_rule ?_)
  have hl2 : h₂.IsList l items := ⟨_, hle₂ _ _ hl1, rfl, n, rfl⟩
  refine wpAny_bind (wpAny_pyIter_list hl2 ?_)
  have hll : l ≠ h₂.objs.size := Nat.ne_of_lt (Heap.lt_size (hle₂ _ _ hl1))
  have hD2 : h₂.DictOf knd s.heap.objs.size [] := by
    obtain ⟨o, ho, h⟩ := Heap.dictOf_iff.mp hnew
    exact Heap.dictOf_iff.mpr ⟨o, hle₂ _ _ ho, h⟩
  have hdlt : s.heap.objs.size < h₂.objs.size := by obtain ⟨_, _, _, hg, _⟩ := hD2; exact Heap.lt_size hg
  have hle : HLe s.heap h₂ := (HLe.push _ _).trans hle₂
  refine wpAny_pure ⟨plainId_quiet plain_dul _, ?_⟩
  refine pairs_loop (knd := knd) (Walks.list (A := A.in1.in1) hh h₂.objs.size l hll items) s.heap.objs.size ?_ ps (by rw [← hi.length, Array.length_toList]) s.heap (fun b hb => ?_) (Heap.get?_none_of_le (Nat.le_refl _)) (fun i v hv => ?_) (by rw [← Array.length_toList, hi.length]; exact hz)
    (items.size - 0) 0 { s with heap := h₂.push { cls := .type "list_iterator", data := .fields #[.ref l, .int 0 0] }, toks := tk₂ } 0 rfl (Nat.zero_le _) ⟨⟨_, Heap.get?_push_size _ rfl, rfl, rfl⟩, hl2.push _⟩ (hle.trans (HLe.push _ _)) (hD2.push _) fun h' tk hk hd => ⟨rfl, h h' tk hk hd⟩
  · simp only [List.mem_cons, List.not_mem_nil, or_false, not_or]
    exact ⟨Nat.ne_of_lt hdlt, fun e => by
      have := Heap.lt_size hl
      rw [← e] at this; exact Nat.lt_irrefl _ this⟩
  · rw [List.mem_singleton.mp hb]
    exact Heap.get?_none_of_le (Nat.le_of_lt hdlt)
  · have hv : items[i]? = some v := hv
    obtain ⟨q, e1, kv, e2, e3⟩ := hi.get (i := i) (a := v) (by rw [Array.getElem?_toList]; exact hv)
    exact ⟨q, kv, e1, e2, e3⟩
end
end Mine
set_option Elab.async false
set_option maxRecDepth 100000
set_option linter.unusedVariables false
namespace Mine
open PySem PySem.W PySem.Calls PyProof.Rows PySem.Spec PyProof.Rows.LCg

section
variable {c : Cx} {env : Env} {ρ ρ₁ ρ₂ ρ' : Vs} {ω ω₁ ω₂ ω₃ ω' : Os} {Ψ Ψ' : Fl → Vs → Os → Prop} {Φ Φ' Φ₁ : Os → Oc → Prop}

theorem pairs_read {K : Type} [DecidableEq K] (D : SK K) {w : World} {I h : Heap} (im : HLe I h) {vs : List Value} : ∀ {ps : List (K × PyData)}, All2 (Rv I) vs (ps.map fun p => .d (.tuple [D.enc p.1, p.2])) →
    ∃ qs : List (K × Value), qs.map (·.1) = ps.map (·.1) ∧ All2 (fun v q => ∃ kv, (D.knd w).is q.1 kv = true ∧ ∃ t o m, v = .ref t ∧ h.get? t = some o ∧ o.cls = .type "tuple" ∧ o.data = .seq #[kv, q.2] m) vs qs := by
  induction vs with
  | nil => intro ps r; cases ps with | nil => exact ⟨[], rfl, .nil⟩ | cons p ps => cases r
  | cons v vs ih =>
    intro ps r
    cases ps with
    | nil => cases r
    | cons p ps =>
      cases r with
      | cons r t =>
        obtain ⟨qs, h1, h2⟩ := ih t
        obtain ⟨as, r⟩ := r
        obtain ⟨t, l, rfl, ⟨o, e1, e2, n, e3⟩, ra⟩ := reads_tuple_items r
        obtain ⟨x, y, rfl, rx, ry⟩ := (all2_of_reads ra).two
        have hk := (D.isk w I x p.1 (by rw [D.ke]; exact rx)).1
        exact ⟨(p.1, y) :: qs, by simp [h1], .cons ⟨x, hk, t, o, n, rfl, im _ _ e1, e2, e3⟩ h2⟩
theorem CB.dictP {lv : Nat} {K : Type} [DecidableEq K] (D : SK K) {l : Addr} {ps : List (K × PyData)} (hc : c.Ok lv) (hl : (l, AO.list (ps.map fun p => .d (.tuple [D.enc p.1, p.2]))) ∈ ω) (hz : ps.length ≤ 1000)
    (hp : Φ ω (.val (.fz fun o => ∃ kvs, o.IsDictOf (D.knd c.w) kvs ∧ kvs.map (·.1) = dedup (ps.map (·.1))))) : CB c env ρ ω (.type "dict") [vR l] Φ := fun I mu s vals Q E X W r q => by
  obtain ⟨v, rfl, r1⟩ := r.one
  have r1 : v = .ref l := r1
  subst r1
  obtain ⟨vs, n, h1, h2⟩ := list_at X W (.inl hl)
  obtain ⟨qs, e1, e2⟩ := pairs_read D (w := c.w) X.im h2
  have el : qs.length = ps.length := by have := congrArg List.length e1; simpa using this
  refine call_dict_pairs (knd := D.knd c.w) hc.handled (X.ow _ h1) e2 (by omega) fun h' tk hle hd => ?_
  obtain ⟨o, ho, hd'⟩ := Heap.dictOf_iff.mp hd
  have g := Go.grow X W (tk := tk) (dr := s.drawn) hle
  refine q.on _ (.fz _) _ _ _ _ g ⟨_, o, rfl, X.grow_get ho (Heap.get?_none_of_le (Nat.le_refl _)), ⟨_, hd', ?_⟩, X.big hc⟩ hp
  rw [storeAllK_keys, e1]
  rfl
end
end Mine
set_option Elab.async false
set_option maxRecDepth 100000
set_option linter.unusedVariables false
namespace Mine
open PySem PySem.W PySem.Calls PyProof.Rows PySem.Spec PyProof.Rows.LCg

section
variable {c : Cx} {env : Env} {ρ ρ₁ ρ₂ ρ' : Vs} {ω ω₁ ω₂ ω₃ ω' : Os} {Ψ Ψ' : Fl → Vs → Os → Prop} {Φ Φ' Φ₁ : Os → Oc → Prop}

/-! ## stores into targets -/
noncomputable def TB (c : Cx) (env : Env) (ρ : Vs) (ω : Os) (target : Expr) (av : AV) (ρ' : Vs) (ω' : Os) : Prop :=
  ∀ (I : Heap) (mu : Led) (s : Shared) (v : Value) (Q : Unit → Shared → Prop) (E : Value → Shared → Prop), S c I mu s → Wd c env I ρ ω mu → Rv I v av →
    (∀ s' I' mu', GoS c env ω ρ' ω' I mu I' mu' s' → Q () s') → wpAny (model prg c.w) c.A (assign target env v) Q E s
theorem TB.name {x : Str} {p : Pos} {av : AV} (hx : env.kindOf x = some .local) : TB c env ρ ω (.Name x p) av ((x, av) :: ρ) ω := fun I mu s v Q E X W r k => wpAny_assign_Name (wp_store X W r hx k)
theorem TB.cell {x : Str} {p : Pos} {av : AV} {a : Addr} {ov : Option AV} (hx : env.kindOf x = some .cell) (ha : env.cells.lookup x = some a) (hm : (a, AO.cell ov) ∈ ω) : TB c env ρ ω (.Name x p) av ρ (updO a (.cell (some av)) ω) :=
  fun I mu s v Q E X W r k => wpAny_assign_Name (wp_storeC X W r hx ha hm fun s' I' mu' g => k _ _ _ g.toS)
theorem TB.sub {K : Type} [DecidableEq K] {o i : Expr} {p : Pos} {d : Addr} {fs : List (K × AV)} {k : K} {av : AV} (D : DK K) (ho : TE c env ρ ω o ω₁ (vR d)) (hi : TE c env ρ ω₁ i ω₂ (D.key k)) (hd : (d, D.ao fs) ∈ ω₂) (hz : fs.length ≤ 1000) :
    TB c env ρ ω (.Subscript o i p) av ρ (updO d (D.ao (storedA fs k av)) ω₂) := fun I mu s v Q E X W r k' => by
  rw [assign_Subscript]
  refine wpAny_bind (wpAny_holding (ho _ _ _ _ _ X W fun ov s₂ I₂ mu₂ g₂ r₂ => wpAny_bind (wpAny_holding (hi _ _ _ _ _ g₂.st g₂.wd fun iv s₃ I₃ mu₃ g₃ r₃ => wpAny_bind (wpAny_standAt (wpAny_bind (wpAny_holding ?_)))))))
  have r₂ : ov = .ref d := r₂
  subst r₂
  refine setDict D g₃.st g₃.wd hd r₃ (r.mono (g₂.le.trans g₃.le)) hz fun s' I' mu' g => ?_
  exact wpAny_release (k' _ _ _ (((g₂.trans g₃).trans g).toS))

/-- two targets, two values -/
theorem TX.assign2 {lv : Nat} {t₁ t₂ e₁ e₂ : Expr} {k k' : Nat} {p p' pos : Pos} {a₁ : AV} (hc : c.Ok lv) (h1 : TE c env ρ ω e₁ ω₁ a₁) (h2 : TV c env ρ ω₁ e₂ Φ) (hx : ∀ o C, ¬ Φ o (.exc C))
    (h : ∀ o a, Φ o (.val a) → ∃ ρ₁ o₁ ρ₂ o₂, TB c env ρ o t₁ a₁ ρ₁ o₁ ∧ TB c env ρ₁ o₁ t₂ a ρ₂ o₂ ∧ Ψ .next ρ₂ o₂)
    (he : (assignEach [t₁, t₂] env) = [(false, PySem.assign t₁ env), (false, PySem.assign t₂ env)] := by rfl)
    (hv : starEach [e₁, e₂] env = [(false, eval e₁ env), (false, eval e₂ env)] := by rfl)
    (hs : swapsWithSole [.Tuple [t₁, t₂] k p] (.Tuple [e₁, e₂] k' p') pos.line env = pure false := by rfl)
    (hw : swappedStores [.Tuple [t₁, t₂] k p] (.Tuple [e₁, e₂] k' p') env = pure none := by rfl) :
    TX c env ρ ω (.Assign [.Tuple [t₁, t₂] k p] (.Tuple [e₁, e₂] k' p') pos) Ψ := fun I mu s Q E X W q => by
  refine Assign_Tuple (Tuple_ ?_) hs hw
  rw [hv]
  refine spliced_cons (h1 I mu s _ _ X W fun v₁ s₁ I₁ mu₁ g₁ r₁ => spliced_cons (h2 _ _ _ _ _ g₁.st g₁.wd ⟨fun v₂ a₂ o s₂ I₂ mu₂ g₂ r₂ p₂ => spliced_nil ?_, fun e C o s₂ I₂ mu₂ g₂ x p => (hx _ _ p).elim⟩))
  refine wpAny_newObj_type ?_
  have G := Go.grow g₂.st g₂.wd (tk := s₂.toks) (dr := s₂.drawn) (HLe.push s₂.heap { cls := .type "tuple", data := .seq [v₁, v₂].toArray })
  have ht : IsTup (s₂.heap.push { cls := .type "tuple", data := .seq [v₁, v₂].toArray }) s₂.heap.objs.size #[v₁, v₂] := ⟨_, Heap.get?_push_size _ rfl, rfl, 0, rfl⟩
  obtain ⟨ρ₁, o₁, ρ₂, o₂, b1, b2, pp⟩ := h _ _ p₂
  refine assign_Tuple_tuple hc.handled ht (by rw [he]; rfl) (by rw [he]; rfl) fun h₅ hext => ?_
  have G2 := Go.grow G.st G.wd (tk := s₂.toks) (dr := s₂.drawn) (h' := h₅) fun b o e => hext b o (Nat.ne_of_lt (Heap.lt_size e)) e
  have le2 := (g₂.le.trans G.le).trans G2.le
  rw [he]
  refine assignInOrder_cons (b1 _ _ _ _ _ _ G2.st G2.wd (r₁.mono le2) fun s₆ I₆ mu₆ g₆ => ?_)
  refine assignInOrder_cons (b2 _ _ _ _ _ _ g₆.st g₆.wd (r₂.mono ((G.le.trans G2.le).trans g₆.le)) fun s₇ I₇ mu₇ g₇ => ?_)
  exact assignInOrder_nil (q.on .next .next _ _ _ _ _ ((((g₁.trans g₂).trans G).trans G2).toS.trans (g₆.trans g₇)) trivial pp)

/-- two local names, stored from the right -/
theorem TX.assign2s {lv : Nat} {x y : Str} {px py : Pos} {e₁ e₂ : Expr} {k k' : Nat} {p p' pos : Pos} {a₁ a₂ : AV} (hc : c.Ok lv) (h1 : TE c env ρ ω e₁ ω₁ a₁) (h2 : TE c env ρ ω₁ e₂ ω₂ a₂) (hx : env.kindOf x = some .local) (hy : env.kindOf y = some .local)
    (hv : starEach [e₁, e₂] env = [(false, eval e₁ env), (false, eval e₂ env)] := by rfl)
    (hs : swapsWithSole [.Tuple [.Name x px, .Name y py] k p] (.Tuple [e₁, e₂] k' p') pos.line env = pure false := by rfl)
    (hw : swappedStores [.Tuple [.Name x px, .Name y py] k p] (.Tuple [e₁, e₂] k' p') env = pure (some [x, y]) := by rfl) :
    TX c env ρ ω (.Assign [.Tuple [.Name x px, .Name y py] k p] (.Tuple [e₁, e₂] k' p') pos) (Nx ((x, a₁) :: (y, a₂) :: ρ) ω₂) := fun I mu s Q E X W q => by
  refine Assign_Tuple_swapped (Tuple_ ?_) hs hw
  rw [hv]
  refine spliced_cons (h1 I mu s _ _ X W fun v₁ s₁ I₁ mu₁ g₁ r₁ => spliced_cons (h2 _ _ _ _ _ g₁.st g₁.wd fun v₂ s₂ I₂ mu₂ g₂ r₂ => spliced_nil ?_))
  refine wpAny_newObj_type ?_
  have G := Go.grow g₂.st g₂.wd (tk := s₂.toks) (dr := s₂.drawn) (HLe.push s₂.heap { cls := .type "tuple", data := .seq [v₁, v₂].toArray })
  have ht : IsTup (s₂.heap.push { cls := .type "tuple", data := .seq [v₁, v₂].toArray }) s₂.heap.objs.size #[v₁, v₂] := ⟨_, Heap.get?_push_size _ rfl, rfl, 0, rfl⟩
  rw [show [x, y].length = (#[v₁, v₂] : Array Value).size from rfl]
  refine unpackItems_tuple hc.handled ht fun h₅ hext => ?_
  have G2 := Go.grow G.st G.wd (tk := s₂.toks) (dr := s₂.drawn) (h' := h₅) fun b o e => hext b o (Nat.ne_of_lt (Heap.lt_size e)) e
  have le2 := (g₂.le.trans G.le).trans G2.le
  show wpAny _ _ (assignInOrder [fun v => bindName env y v, fun v => bindName env x v] [v₂, v₁]) _ _ _
  refine assignInOrder_cons (bindName_ (wp_store G2.st G2.wd (r₂.mono (G.le.trans G2.le)) hy fun s₆ I₆ mu₆ g₆ => ?_))
  refine assignInOrder_cons (bindName_ (wp_store g₆.st g₆.wd ((r₁.mono le2).mono g₆.le) hx fun s₇ I₇ mu₇ g₇ => ?_))
  exact assignInOrder_nil (q.on .next .next _ _ _ _ _ ((((g₁.trans g₂).trans G).trans G2).toS.trans (g₆.trans g₇)) trivial ⟨rfl, rfl, rfl⟩)

/-! ## stores of what may be new -/
theorem TX.setsubV {K : Type} [DecidableEq K] {o i value : Expr} {p' p : Pos} (D : DK K) (hv : TV c env ρ ω value Φ) (hx : ∀ o C, Φ o (.exc C) → Ψ (.exc C) ρ o)
    (h : ∀ o₁ a, Φ o₁ (.val a) → ∃ (d : Addr) (fs : List (K × AV)) (k : K) (o₂ o₃ : Os), TE c env ρ o₁ o o₂ (vR d) ∧ TE c env ρ o₂ i o₃ (D.key k) ∧ (d, D.ao fs) ∈ o₃ ∧ fs.length ≤ 1000 ∧ Ψ .next ρ (updO d (D.ao (storedA fs k a)) o₃))
    (hs : swapsWith value (some (.Subscript o i p')) p.line env = pure false := by rfl) : TX c env ρ ω (.Assign [.Subscript o i p'] value p) Ψ := fun I mu s Q E X W q => by
  refine wpAny_Assign_Subscript (hv I mu s _ _ X W ⟨fun v a o₁ s₁ I₁ mu₁ g₁ r₁ p₁ => ?_, fun e C o s₂ I₂ mu₂ g₂ x p => q.up _ _ _ _ _ _ _ g₂.toS x (hx _ _ p)⟩) hs
  obtain ⟨d, fs, k, o₂, o₃, ho, hi, hd, hz, pp⟩ := h _ _ p₁
  refine ho _ _ _ _ _ g₁.st g₁.wd fun ov s₂ I₂ mu₂ g₂ r₂ => hi _ _ _ _ _ g₂.st g₂.wd fun iv s₃ I₃ mu₃ g₃ r₃ => ?_
  have r₂ : ov = .ref d := r₂
  subst r₂
  exact setDict D g₃.st g₃.wd hd r₃ (r₁.mono (g₂.le.trans g₃.le)) hz fun s' I' mu' g => q.on .next .next _ _ _ _ _ (((g₁.trans g₂).trans g₃).trans g).toS trivial pp

/-- an attribute there already -/
theorem TX.setattrV {o value : Expr} {x : Str} {p' p : Pos} {g dx C n lv : Nat} (hc : c.Ok lv) (hv : TV c env ρ ω value Φ) (hx : ∀ o C, Φ o (.exc C) → Ψ (.exc C) ρ o)
    (h : ∀ o₁ a, Φ o₁ (.val a) → ∃ (fs : List (Str × AV)) (o₂ : Os), TE c env ρ o₁ o o₂ (vR g) ∧ (g, AO.raw (instObj C dx)) ∈ o₂ ∧ (dx, AO.ns n fs) ∈ o₂ ∧ (fs.lookup x).isSome = true ∧ Ψ .next ρ (updO dx (.ns n (upF x a fs)) o₂))
    (hk : setIn (KK c.w) C x = true) (hn : n ≤ 100)
    (hs : swapsWith value (some (.Attribute o x p')) p.line env = pure false := by rfl) :
    TX c env ρ ω (.Assign [.Attribute o x p'] value p) Ψ := fun I mu s Q E X W k => by
  refine plainObj_wpAny_Assign_Attribute (hv I mu s _ _ X W ⟨fun v a o₁ s₁ I₁ mu₁ g₁ r₁ p₁ => ?_, fun e C o s₂ I₂ mu₂ g₂ x p => k.up _ _ _ _ _ _ _ g₂.toS x (hx _ _ p)⟩) hs
  obtain ⟨fs, o₂, ho, hg, hd, hl, pp⟩ := h _ _ p₁
  refine ho _ _ _ _ _ g₁.st g₁.wd fun ov s₂ I₂ mu₂ g₂ r₂ => ?_
  have r₂ : ov = .ref g := r₂
  subst r₂
  refine wp_setAttr hc g₂.st g₂.wd hg hd hk hn fun es es' ep' h' tk e1 e2 e3 e4 e5 X' => ?_
  have rv := r₁.mono g₂.le
  have nn : (nsFind es x).isSome = true := by
    have z := e1 x
    obtain ⟨a, ha⟩ := Option.isSome_iff_exists.mp hl
    rw [ha] at z
    obtain ⟨u, hu, _⟩ := z
    rw [hu]; rfl
  have ro : Ro c.w I₂ { cls := .type "dict", data := .dict es' ep' } (.ns n (upF x a fs)) :=
    ⟨es', ep', rfl, e5 nn, e2, by rw [show nsFind es' = fun y => if y = x then some v else nsFind es y from funext e3]; exact e1.put rv hl⟩
  obtain ⟨o₀, hm, _⟩ := g₂.wd.own _ hd
  obtain ⟨W', fp, nw⟩ := wd_put g₂.wd g₂.st.kL ⟨o₀, hm⟩ hd ro
  have G : Go c env ρ o₂ (updO dx (.ns n (upF x a fs)) o₂) I₂ mu₂ I₂ _ _ := ⟨X', HLe.refl _, fp, nw, W'⟩
  exact k.on .next .next _ _ _ _ _ ((g₁.trans g₂).trans G).toS trivial pp
/-- a new one -/
theorem TX.setattrN {o value : Expr} {x : Str} {p' p : Pos} {g dx C n lv : Nat} (hc : c.Ok lv) (hv : TV c env ρ ω value Φ) (hx : ∀ o C, Φ o (.exc C) → Ψ (.exc C) ρ o)
    (h : ∀ o₁ a, Φ o₁ (.val a) → ∃ (fs : List (Str × AV)) (o₂ : Os), TE c env ρ o₁ o o₂ (vR g) ∧ (g, AO.raw (instObj C dx)) ∈ o₂ ∧ (dx, AO.ns n fs) ∈ o₂ ∧ fs.lookup x = none ∧ Ψ .next ρ (updO dx (.ns (n + 1) (fs ++ [(x, a)])) o₂))
    (hk : setIn (KK c.w) C x = true) (hn : n ≤ 100)
    (hs : swapsWith value (some (.Attribute o x p')) p.line env = pure false := by rfl) :
    TX c env ρ ω (.Assign [.Attribute o x p'] value p) Ψ := fun I mu s Q E X W k => by
  refine plainObj_wpAny_Assign_Attribute (hv I mu s _ _ X W ⟨fun v a o₁ s₁ I₁ mu₁ g₁ r₁ p₁ => ?_, fun e C o s₂ I₂ mu₂ g₂ x p => k.up _ _ _ _ _ _ _ g₂.toS x (hx _ _ p)⟩) hs
  obtain ⟨fs, o₂, ho, hg, hd, hl, pp⟩ := h _ _ p₁
  refine ho _ _ _ _ _ g₁.st g₁.wd fun ov s₂ I₂ mu₂ g₂ r₂ => ?_
  have r₂ : ov = .ref g := r₂
  subst r₂
  refine wp_setAttr hc g₂.st g₂.wd hg hd hk hn fun es es' ep' h' tk e1 e2 e3 e4 e5 X' => ?_
  have rv := r₁.mono g₂.le
  have ro : Ro c.w I₂ { cls := .type "dict", data := .dict es' ep' } (.ns (n + 1) (fs ++ [(x, a)])) :=
    ⟨es', ep', rfl, e4, e2, by rw [show nsFind es' = fun y => if y = x then some v else nsFind es y from funext e3]; exact e1.new rv hl⟩
  obtain ⟨o₀, hm, _⟩ := g₂.wd.own _ hd
  obtain ⟨W', fp, nw⟩ := wd_put g₂.wd g₂.st.kL ⟨o₀, hm⟩ hd ro
  have G : Go c env ρ o₂ (updO dx (.ns (n + 1) (fs ++ [(x, a)])) o₂) I₂ mu₂ I₂ _ _ := ⟨X', HLe.refl _, fp, nw, W'⟩
  exact k.on .next .next _ _ _ _ _ ((g₁.trans g₂).trans G).toS trivial pp

/-! ## displays -/
noncomputable def mergedA {K : Type} [DecidableEq K] (fs : List (K × AV)) : List (K × AV) := fs.foldl (fun acc kv => storedA acc kv.1 kv.2) []
noncomputable def TP {K : Type} [DecidableEq K] (D : DK K) (c : Cx) (env : Env) (ρ : Vs) (ω : Os) (ks : List (Option Expr)) (vs : List Expr) (Φ : Os → List (K × AV) → Prop) : Prop :=
  ∀ (p : Pos) (I : Heap) (mu : Led) (s : Shared) (Q : List (Value × Value) → Shared → Prop) (E : Value → Shared → Prop), S c I mu s → Wd c env I ρ ω mu →
    (∀ ps fs ω' s' I' mu', Go c env ρ ω ω' I mu I' mu' s' → All2 (fun (q : Value × Value) (f : K × AV) => Rv I' q.1 (D.key f.1) ∧ Rv I' q.2 f.2) ps fs → Φ ω' fs → Q ps s') → wpAny (model prg c.w) c.A (evalPairs (pairTrees ks vs env p)) Q E s
theorem TP.nil {K : Type} [DecidableEq K] {D : DK K} {Φ : Os → List (K × AV) → Prop} (h : Φ ω []) : TP D c env ρ ω [] [] Φ := fun p I mu s Q E X W q => evalPairs_nil (q _ _ _ _ _ _ (Go.refl X W) .nil h)
theorem TP.cons {K : Type} [DecidableEq K] {D : DK K} {Φ : Os → List (K × AV) → Prop} {k v : Expr} {ks : List (Option Expr)} {vs : List Expr} {key : K} (hk : TE c env ρ ω k ω₁ (D.key key)) (hv : TV c env ρ ω₁ v Φ₁) (hx : ∀ o C, ¬ Φ₁ o (.exc C))
    (hr : ∀ o a, Φ₁ o (.val a) → TP D c env ρ o ks vs fun o' fs => Φ o' ((key, a) :: fs)) : TP D c env ρ ω (some k :: ks) (v :: vs) Φ := fun p I mu s Q E X W q => by
  refine pairTrees_cons_walk (hk _ _ _ _ _ X W fun kv s₁ I₁ mu₁ g₁ r₁ => hv _ _ _ _ _ g₁.st g₁.wd ⟨fun vv a o s₂ I₂ mu₂ g₂ r₂ p₂ => ?_, fun e C o s₂ I₂ mu₂ g₂ x p => (hx _ _ p).elim⟩)
  exact hr _ _ p₂ p _ _ _ _ _ g₂.st g₂.wd fun ps fs ω' s₃ I₃ mu₃ g₃ r₃ p₃ => q _ _ _ _ _ _ ((g₁.trans g₂).trans g₃) (.cons ⟨(r₁.mono g₂.le).mono g₃.le, r₂.mono g₃.le⟩ r₃) p₃
theorem TP.cons1 {K : Type} [DecidableEq K] {D : DK K} {Φ : Os → List (K × AV) → Prop} {k v : Expr} {ks : List (Option Expr)} {vs : List Expr} {key : K} {a : AV} (hk : TE c env ρ ω k ω₁ (D.key key)) (hv : TE c env ρ ω₁ v ω₂ a)
    (hr : TP D c env ρ ω₂ ks vs fun o' fs => Φ o' ((key, a) :: fs)) : TP D c env ρ ω (some k :: ks) (v :: vs) Φ :=
  TP.cons (Φ₁ := Ph ω₂ a) hk (TE.v hv ⟨rfl, rfl⟩) (fun o C h => nomatch h.2) fun o a' h => by obtain ⟨rfl, h⟩ := h; cases h; exact hr
theorem carries_of {K : Type} [DecidableEq K] {D : DK K} {w : World} {I : Heap} : ∀ {ps : List (Value × Value)} {fs : List (K × AV)}, All2 (fun (q : Value × Value) (f : K × AV) => Rv I q.1 (D.key f.1) ∧ Rv I q.2 f.2) ps fs →
    ∃ kvs, Carries (D.knd w) ps kvs ∧ All2 (Kv I) kvs fs
  | [], [], _ => ⟨[], trivial, .nil⟩
  | (k, v) :: ps, (k', a) :: fs, .cons ⟨h1, h2⟩ t => by
    obtain ⟨kvs, c1, c2⟩ := carries_of (w := w) t
    exact ⟨(k', v) :: kvs, ⟨(D.isk w I k k' h1).1, rfl, c1⟩, .cons ⟨rfl, h2⟩ c2⟩
theorem kv_merged {K : Type} [DecidableEq K] {I : Heap} : ∀ {kvs : List (K × Value)} {fs : List (K × AV)} {acc : List (K × Value)} {accA : List (K × AV)}, All2 (Kv I) acc accA → All2 (Kv I) kvs fs →
    All2 (Kv I) (merged acc kvs) (fs.foldl (fun acc kv => storedA acc kv.1 kv.2) accA)
  | [], [], _, _, h, _ => h
  | (k, v) :: kvs, (k', a) :: fs, acc, accA, h, .cons ⟨h1, h2⟩ t => by
    have h1 : k = k' := h1
    subst h1
    exact kv_merged (acc := stored acc k v) (accA := storedA accA k a) (kv_stored h h2) t
theorem TV.dictN {lv : Nat} {K : Type} [DecidableEq K] (D : DK K) {keys' : List (Option Expr)} {values : List Expr} {p : Pos} (hc : c.Ok lv) (hall : keys'.all (·.isSome) = true) (hl : keys'.length = values.length) (h0 : keys' ≠ []) (hlen : keys'.length ≤ 15)
    (h : ∀ d, d ∉ keys ω → TP D c env ρ ((d, D.ao []) :: ω) keys' values fun o' fs => (d, D.ao []) ∈ o' ∧ Φ (updO d (D.ao (mergedA fs)) o') (.val (vR d))) : TV c env ρ ω (.Dict keys' values p) Φ := fun I mu s Q E X W q => by
  have hd : (s.heap.push { cls := .type "dict", data := .dict #[] }).DictOf (D.knd c.w) s.heap.objs.size [] := Heap.DictOf.new s.heap
  obtain ⟨o', ho', hd'⟩ := Heap.dictOf_iff.mp hd
  have e : o' = { cls := .type "dict", data := .dict #[] } := Option.some.inj (ho'.symm.trans (Heap.get?_push_size _ rfl))
  subst e
  obtain ⟨I', g, nk⟩ := go_new (o := { cls := .type "dict", data := .dict #[] }) (tk := s.toks) (dr := s.drawn) hc X W rfl ((D.ro _ _ _ _).mpr ⟨[], hd', .nil⟩)
  refine wpAny_Dict_walk (knd := D.knd c.w) hall hl h0 hlen (h _ nk p I' _ _ _ _ g.st g.wd fun ps fs ω' s₁ I₁ mu₁ g₁ r₁ p₁ => ?_)
  obtain ⟨hin, pp⟩ := p₁
  obtain ⟨kvs, c1, c2⟩ := carries_of (D := D) (w := c.w) r₁
  obtain ⟨o, kvs0, m1, m2, m3, m4⟩ := dict_at D g₁.st g₁.wd (.inl hin)
  cases m3
  refine ⟨kvs, c1, m2, fun h' hm hs => ?_⟩
  obtain ⟨o2, ho2, hd2⟩ := Heap.dictOf_iff.mp hm
  have ro : Ro c.w I₁ o2 (D.ao (mergedA fs)) := (D.ro _ _ _ _).mpr ⟨_, hd2, kv_merged .nil c2⟩
  have X' := g₁.st.upd (tk := s₁.toks + ps.length) (dr := s₁.drawn) m1 hs ho2 fun q => absurd q (g₁.wd.sep _ hin).2
  obtain ⟨W', fp, nw⟩ := wd_put g₁.wd g₁.st.kL ⟨o, m1⟩ hin ro
  have G : Go c env ρ ω' (updO s.heap.objs.size (D.ao (mergedA fs)) ω') I₁ mu₁ I₁ _ _ := ⟨X', HLe.refl _, fp, nw, W'⟩
  exact q.on (.ref s.heap.objs.size) (vR s.heap.objs.size) _ _ _ _ ((g.trans g₁).trans G) (show Rv I₁ (.ref s.heap.objs.size) (vR s.heap.objs.size) from rfl) pp
/-- a list display, owned -/
theorem TV.listN {lv : Nat} {es : List Expr} {p : Pos} {as : List AV} (hc : c.Ok lv) (h : TEs c env ρ ω es ω₁ as) (hn : as.length ≤ 1000) (hp : ∀ d, d ∉ keys ω₁ → Φ ((d, .list as) :: ω₁) (.val (vR d))) : TV c env ρ ω (.List es p) Φ := fun I mu s Q E X W q => by
  refine List_ (h p I mu s _ _ X W fun vs s₁ I₁ mu₁ g r => ?_)
  refine wpAny_newObj_type ?_ (by show vs.toArray.size ≤ sizeLine; rw [List.size_toArray, r.length]; unfold sizeLine; omega)
  obtain ⟨I', g', nk⟩ := go_new (o := listOf vs.toArray 0) (ao := .list as) (tk := s₁.toks) (dr := s₁.drawn) hc g.st g.wd rfl ⟨vs.toArray, 0, rfl, by simpa using r⟩
  exact q.on (.ref s₁.heap.objs.size) (vR s₁.heap.objs.size) _ _ _ _ (g.trans g') (show Rv I' (.ref s₁.heap.objs.size) (vR s₁.heap.objs.size) from rfl) (hp _ nk)
/-- a tuple of plain values -/
theorem TE.tupleV {es : List Expr} {k : Nat} {p : Pos} {xs : List Value} {lv : Nat} (hc : c.Ok lv) (h : TEs c env ρ ω es ω₁ (xs.map .v)) (hn : xs.length ≤ 1000) : TE c env ρ ω (.Tuple es k p) ω₁ (.fz (IsTupV xs)) := fun I mu s Q E X W q => by
  refine Tuple_ (h p I mu s _ _ X W fun vs s₁ I₁ mu₁ g r => ?_)
  have e : vs = xs := by
    have : ∀ {vs xs : List Value}, All2 (Rv I₁) vs (xs.map .v) → vs = xs := fun {vs} => by
      induction vs with
      | nil => intro xs h; cases xs with | nil => rfl | cons _ _ => cases h
      | cons v vs ih =>
        intro xs h
        cases xs with
        | nil => cases h
        | cons x xs =>
          cases h with
          | cons a t => rw [show v = x from a, ih t]
    exact this r
  subst e
  refine wpAny_newObj_type ?_ (by show vs.toArray.size ≤ sizeLine; rw [List.size_toArray]; unfold sizeLine; omega)
  have G := Go.grow g.st g.wd (tk := s₁.toks) (dr := s₁.drawn) (HLe.push s₁.heap { cls := .type "tuple", data := .seq vs.toArray })
  exact q _ _ _ _ (g.trans G) ⟨_, _, rfl, g.st.grow_get (Heap.get?_push_size _ rfl) (Heap.get?_none_of_le (Nat.le_refl _)), ⟨rfl, 0, rfl⟩, g.st.big hc⟩

/-! ## what is exactly known for a while -/
theorem updO_keys (a : Addr) (ao : AO) (ω : Os) : keys (updO a ao ω) = keys ω := by
  unfold keys updO
  rw [List.map_map]
  refine List.map_congr_left fun q _ => ?_
  show (if q.1 = a then (a, ao) else q).1 = q.1
  split <;> rename_i h
  · exact h.symm
  · rfl
theorem nd_uniq {l : Addr} {a b : AO} : ∀ {ω : Os}, (keys ω).Nodup → (l, a) ∈ ω → (l, b) ∈ ω → a = b
  | [], _, h, _ => by cases h
  | (k, x) :: ω, n, h1, h2 => by
    obtain ⟨n1, n2⟩ := List.nodup_cons.mp (show (k :: keys ω).Nodup from n)
    rcases List.mem_cons.mp h1 with e1 | m1 <;> rcases List.mem_cons.mp h2 with e2 | m2
    · cases e1; cases e2; rfl
    · cases e1; exact absurd (show l ∈ keys ω from List.mem_map_of_mem (f := Prod.fst) m2) n1
    · cases e2; exact absurd (show l ∈ keys ω from List.mem_map_of_mem (f := Prod.fst) m1) n1
    · exact nd_uniq n2 m1 m2
theorem updO_in {l a : Addr} {x ao : AO} {ω : Os} (h : (a, x) ∈ ω) (n : a ≠ l) : (a, x) ∈ updO l ao ω := List.mem_map.mpr ⟨(a, x), h, by simp [n]⟩
theorem updO_self {l : Addr} {x ao : AO} {ω : Os} (h : (l, x) ∈ ω) : (l, ao) ∈ updO l ao ω := List.mem_map.mpr ⟨(l, x), h, by simp⟩
theorem Wd.exact {I : Heap} {mu : Led} {l : Addr} {ao : AO} (W : Wd c env I ρ ω mu) (hl : (l, ao) ∈ ω) : ∃ o, Wd c env I ρ (updO l (.exact o ao) ω) mu := by
  obtain ⟨o, h1, h2⟩ := W.own _ hl
  refine ⟨o, W.ok, W.vars, W.loc, fun q hq => ?_, fun q hq => ?_, by rw [updO_keys]; exact W.nd⟩
  · obtain ⟨p, hp, rfl⟩ := List.mem_map.mp hq
    by_cases e : p.1 = l
    · rw [if_pos e]; exact ⟨o, h1, rfl, h2⟩
    · rw [if_neg e]; exact W.own p hp
  · obtain ⟨p, hp, rfl⟩ := List.mem_map.mp hq
    by_cases e : p.1 = l
    · rw [if_pos e]; exact W.sep (l, ao) hl
    · rw [if_neg e]; exact W.sep p hp
theorem Wd.unexact {I : Heap} {mu : Led} {l : Addr} {ao : AO} {o : Obj} (hl : (l, ao) ∈ ω) (nd : (keys ω).Nodup) (W : Wd c env I ρ (updO l (.exact o ao) ω) mu) : Wd c env I ρ ω mu := by
  have key : ∀ q ∈ ω, q.1 ∈ keys (updO l (.exact o ao) ω) := fun q hq => by rw [updO_keys]; exact List.mem_map_of_mem hq
  refine ⟨W.ok, W.vars, W.loc, fun q hq => ?_, fun q hq => ?_, nd⟩
  · by_cases e : q.1 = l
    · have hq' : (l, q.2) ∈ ω := by rw [← e]; exact hq
      rw [nd_uniq nd hq' hl, e]
      obtain ⟨o', h1, h2⟩ := W.own _ (updO_self (ao := .exact o ao) hl)
      have h2 : o' = o ∧ Ro c.w I o ao := h2
      rw [h2.1] at h1
      exact ⟨o, h1, h2.2⟩
    · exact W.own q (updO_in (show (q.1, q.2) ∈ ω from hq) e)
  · obtain ⟨p, hp, e⟩ := List.mem_map.mp (key q hq)
    rw [← e]; exact W.sep p hp
theorem Go.exact {I I' : Heap} {mu mu' : Led} {s' : Shared} {l : Addr} {ao : AO} {o : Obj} (hl : (l, ao) ∈ ω) (nd : (keys ω).Nodup) (g : Go c env ρ (updO l (.exact o ao) ω) (updO l (.exact o ao) ω) I mu I' mu' s') : Go c env ρ ω ω I mu I' mu' s' :=
  ⟨g.st, g.le, g.fp.mono fun a h => by rw [In, updO_keys] at h; exact h, Nw.refl _ _, g.wd.unexact hl nd⟩
theorem TE.exact {e : Expr} {av : AV} {l : Addr} {ao : AO} (hl : (l, ao) ∈ ω) (h : ∀ o, TE c env ρ (updO l (.exact o ao) ω) e (updO l (.exact o ao) ω) av) : TE c env ρ ω e ω av := fun I mu s Q E X W q => by
  obtain ⟨o, W'⟩ := W.exact hl
  exact h o I mu s Q E X W' fun v s' I' mu' g r => q _ _ _ _ (g.exact hl W.nd) r
/-- what is owned is owned apart -/
theorem TE.nd {e : Expr} {av : AV} (h : (keys ω).Nodup → TE c env ρ ω e ω₁ av) : TE c env ρ ω e ω₁ av := fun I mu s Q E X W q => h W.nd I mu s Q E X W q
theorem TV.nd {e : Expr} (h : (keys ω).Nodup → TV c env ρ ω e Φ) : TV c env ρ ω e Φ := fun I mu s Q E X W q => h W.nd I mu s Q E X W q
theorem TX.nd {st : Stmt} (h : (keys ω).Nodup → TX c env ρ ω st Ψ) : TX c env ρ ω st Ψ := fun I mu s Q E X W q => h W.nd I mu s Q E X W q
theorem TS.nd {st : List Stmt} (h : (keys ω).Nodup → TS c env ρ ω st Ψ) : TS c env ρ ω st Ψ := fun I mu s Q E X W q => h W.nd I mu s Q E X W q
theorem CV.nd {lv : Nat} {f : Addr} {args : List AV} (h : (keys ω).Nodup → CV lv f args ω Φ) : CV lv f args ω Φ := fun c I mu s vals R hc X o n l r k1 k2 => h n c I mu s vals R hc X o n l r k1 k2
theorem TE.bm {o : Expr} {x : Str} {ap p : Pos} {es : List Expr} {id : String} {ao r : AV} {avs : List AV} {pl : Sem Bool} (ho : TE c env ρ ω o ω₁ ao) (hm : GM c env ρ ω₁ ao x id) (ha : TEs c env ρ ω₁ es ω₂ avs) (hs : CB c env ρ ω₂ (.builtin id) (ao :: avs) (Ph ω₃ r))
    (hne : ∃ e r, es = e :: r ∧ starEach es env = (false, eval e env) :: starEach r env ∧ ∀ q, (backTo q (starEach r env)).any (·.1) = false := by exact ⟨_, _, rfl, rfl, fun _ => rfl⟩)
    (he : eval (.Call (.Attribute o x ap) es [] p) env = (do
      let ov ← eval o env
      standAt ap.atName
      let (f, first) ← holding [ov] (getMethod ov x pl)
      callWith p f first (backTo p (starEach es env)) []) := by rfl) : TE c env ρ ω (.Call (.Attribute o x ap) es [] p) ω₃ r := TV.e (TV.bm ho hm ha hs hne he)
end
end Mine
set_option Elab.async false
set_option maxRecDepth 100000
set_option linter.unusedVariables false
namespace Mine
open PySem PySem.W PySem.Calls PyProof.Rows PySem.Spec PyProof.Rows.LCg

section
variable {c : Cx} {env : Env} {ρ ρ₁ ρ₂ ρ' : Vs} {ω ω₁ ω₂ ω₃ ω' : Os} {Ψ Ψ' : Fl → Vs → Os → Prop} {Φ Φ' : Os → Oc → Prop}

theorem TX.forB {x : Str} {px p : Pos} {iter : Expr} {body : List Stmt} {av : AV} {as : List AV} {lv : Nat} (Inv : Nat → Vs → Os → Prop) (hc : c.Ok lv) (hi : TE c env ρ ω iter ω₁ av) (hs : SRC c env ρ ω₁ av as) 
    (h0 : Inv 0 ρ ω₁) (hstay : ∀ i ρ' ω', Inv i ρ' ω' → ∀ b o a, (b, AO.exact o a) ∈ ω₁ → (b, AO.exact o a) ∈ ω')
    (hb : ∀ i a ρ' ω', as[i]? = some a → Inv i ρ' ω' → ∃ ρ₁ ω₂, TB c env ρ' ω' (.Name x px) a ρ₁ ω₂ ∧ TS c env ρ₁ ω₂ body (fun fl ρ'' ω'' => fl = .next ∧ Inv (i + 1) ρ'' ω''))
    (hfold : ∀ x, foldedSetIterable iter env x = pure x := by intro _; rfl) :
    TX c env ρ ω (.For (.Name x px) iter body [] p) (fun fl ρ' ω' => fl = .next ∧ Inv as.length ρ' ω') := fun I mu s Q E X W k => by
  refine wpAny_For (hi I mu s _ _ X W fun v s₁ I₁ mu₁ g₁ r₁ => hs I₁ mu₁ s₁ v c.A _ _ hc.handled g₁.st g₁.wd r₁ fun it oi fp P St tk h₁ I₂ X₂ hle hnew le₂ SD st₀ hf => ?_) hfold
  have itn : it ∉ mu₁.map (·.1) := g₁.st.newMu hnew
  have kin : ∀ a ∈ keys ω₁, a ∈ mu₁.map (·.1) := fun a ha => by
    obtain ⟨q, hq, rfl⟩ := List.mem_map.mp ha
    obtain ⟨o, h1, _⟩ := g₁.wd.own q hq
    exact List.mem_map_of_mem (f := Prod.fst) h1
  have itL : it ≠ c.L := fun e => by
    obtain ⟨o, h⟩ := g₁.st.kL
    exact itn (e ▸ List.mem_map_of_mem (f := Prod.fst) h)
  have itl : it ≠ env.locals := fun e => by
    obtain ⟨o, m, h, _⟩ := g₁.wd.loc
    exact itn (e ▸ List.mem_map_of_mem (f := Prod.fst) h)
  have W₂ : Wd c env I₂ ρ ω₁ ((it, oi) :: mu₁) := g₁.wd.more le₂ (fun p hp => .tail _ hp) g₁.st.kL
  have G₂ : GoS c env ω₁ ρ ω₁ I₂ mu₁ I₂ ((it, oi) :: mu₁) { s₁ with heap := h₁, toks := tk } := ⟨X₂, HLe.refl _, Fp.sub fun p hp => .tail _ hp, Nw.refl _ _, W₂⟩
  have W := SD.W c.A hc.handled
  have fin : ∀ ρ' ω' s' I' mu', GoS c env ω₁ ρ' ω' I₂ mu₁ I' mu' s' → Inv as.length ρ' ω' → Q .next s' := fun ρ' ω' s' I' mu' g hI => by
    have g' : GoS c env ω₁ ρ' ω' I₁ mu₁ I' mu' s' := ⟨g.st, le₂.trans g.le, g.fp, g.nw, g.wd⟩
    exact k.on .next .next _ _ _ _ _ (g₁.toS.trans g') trivial ⟨rfl, hI⟩
  refine codeAny_forLoop (fun n s' => ∃ i I' mu' ρ' ω' oi', i ≤ as.length ∧ n = as.length + 1 - i ∧ GoS c env ω₁ ρ' ω' I₂ mu₁ I' mu' s' ∧ (it, oi') ∈ mu' ∧ it ∉ keys ω' ∧ St i s'.heap ∧ Inv i ρ' ω') (fun n s' hI => ?_) (as.length + 1)
    ⟨0, I₂, _, ρ, ω₁, oi, Nat.zero_le _, rfl, G₂, .head _, fun h => itn (kin _ h), st₀, h0⟩
  obtain ⟨i, I', mu', ρ', ω', oi', hi', rfl, g, mi, nk, st, hInv⟩ := hI
  by_cases hlt : i < as.length
  · refine W.item i _ _ _ hlt st fun v h' tk' hP st' hk => ?_
    obtain ⟨oi₂, ho₂⟩ := SD.there _ _ st'
    have g₃ := g.turn (tk := tk') g₁.st.kL itn mi itL itl nk (fun b ob n e => hk b ob (by simpa using n) e) ho₂
    obtain ⟨a, ha, ra⟩ := SD.vals i v hP
    have m₃ : (it, oi₂) ∈ updL it oi₂ mu' := updL_self mi
    obtain ⟨ρ₄, ω₄, hta, hbo⟩ := hb i a ρ' ω' ha hInv
    refine hta _ _ _ _ _ _ g₃.st g₃.wd (ra.mono g₃.le) fun s₄ I₄ mu₄ g₄ => ?_
    refine hbo _ _ _ _ _ g₄.st g₄.wd ⟨fun f fl ρ₅ ω₅ s₅ I₅ mu₅ g₅ r p => ?_, fun e C ρ' ω' s' I' mu' g x p => by cases p.1⟩
    obtain ⟨rfl, hInv₅⟩ := p
    cases f <;> first | exact r.elim | skip
    have g45 := g₄.trans g₅
    have nP : ¬ InS env ω' it := fun h => h.elim nk itl
    have s5 := still (P := InS env ω') hf g₃.st g₃.le g₅.st g45.le g45.fp nP m₃ itL g₃.wd.own g₅.wd.own (h₁ := h₁) fun b o a hx => ⟨hstay _ _ _ hInv b o a hx, hstay _ _ _ hInv₅ b o a hx⟩
    refine ⟨as.length + 1 - (i + 1), by omega, i + 1, I₅, mu₅, ρ₅, ω₅, oi₂, hlt, rfl, g₃.trans g45, g45.fp.other _ m₃ nP itL, fun h => ?_, W.frame _ _ _ st' fun b hb o e => s5 b hb o e, hInv₅⟩
    rcases g45.nw _ h with h | h
    · exact nk h
    · exact h (List.mem_map_of_mem (f := Prod.fst) m₃)
  · have : i = as.length := by omega
    subst this
    refine W.done _ _ _ st fun h' tk' hk => wpAny_execs_nil ?_
    exact fin _ _ _ _ _ (g.lose (tk := tk') itn mi itL itl nk fun b ob n e => hk b ob (by simpa using n) e) hInv
end
end Mine
set_option Elab.async false
set_option maxRecDepth 100000
set_option linter.unusedVariables false
namespace Mine
open PySem PySem.W PySem.Calls PyProof.Rows PySem.Spec PyProof.Rows.LCg

/-! # own exceptions with an own __init__ -/
noncomputable abbrev excO (C t : Addr) (d : Option Addr) : Obj := { cls := .ref C, dict := d, data := .fields #[.ref t, .none, .none, .none, .bool false, .none] }
section
variable {w : World} {A : Around} {E : Value → Shared → Prop} {s : Shared} {C e t : Addr} {d : Option Addr}

theorem exc_init {why : Value} {oc : Value} {od : Option Addr} {cd : ClassData} {sl : Array (Option Value)} {Q : Value → Shared → Prop} (he : s.heap.get? e = some (excO C t none)) (X : (KK w).In s.heap) (hs : subIn (KK w) (.ref C) (.type "Exception") = some true) (hC : s.heap.get? C = some ⟨oc, od, .cls cd, sl⟩)
    (h : ∀ h' t', (∀ b ob, b ≠ e → s.heap.get? b = some ob → h'.get? b = some ob) → h'.get? e = some (excO C t' none) → Q .none { s with heap := h' }) :
    wpAny (model prg w) A (call (.builtin "Exception.__init__") [.ref e, why]) Q E s := by
  have F := PySem.F.excBase_Exception
  have ty : Looks (model prg w) s.heap (isInstance (.ref e) (.type "Exception")) true := ((Looks.ld he).andThen .now).andThen (looks_subIn X hs)
  refine wpAny_call (codeAny_call_builtin F.init.plain F.initEntry ?_)
  simp only [checkBuiltinCall, F.initKind, F.initSplit, F.initRow]
  refine wpAny_bind (ty.here ?_)
  simp only [Bool.not_true, Bool.false_eq_true, if_false]
  repeat lk
  have he' := Heap.get?_push_of_some { cls := .type "tuple", data := .seq #[why] } he
  refine nd_load he' ?_
  refine wpAny_pure (a := excO C t none) ?_
  refine wpAny_pure (a := #[Value.ref t, .none, .none, .none, .bool false, .none]) ?_
  refine wpAny_pure (a := Value.ref t) ?_
  refine wpAny_bind (wpAny_setField_rec (s := { s with heap := s.heap.push { cls := .type "tuple", data := .seq #[why] } }) (a := e) (cls := .ref C) (vs := #[.ref t, .none, .none, .none, .bool false, .none]) he' (Nat.zero_lt_succ _) fun h1 e1 s1 => ?_)
  dsimp only
  refine wpAny_letGo ?_
  refine wpAny_pure ?_
  refine h h1 s.heap.objs.size (fun b ob n q => (s1.2 b n).trans (Heap.get?_push_of_some _ q)) ?_
  simpa using e1

/-- a name laid on it: its dict is made -/
theorem exc_set {name : Str} {v : Value} {l : List Value} {Q : Unit → Shared → Prop} {cd : ClassData} (he : s.heap.get? e = some (excO C t none)) (X : (KK w).In s.heap) (hc : clsIn (KK w) C = some cd) (hd : cd.hasDict = true) (hm : cd.mro = l) (ho : l.contains (.type "object") = true) (hl : l.isEmpty = false)
    (hr : refuseLoop (.ref e) "__setattr__" l = pure ()) (hs : findIn (KK w) (.ref C) "__setattr__" = some (some (.builtin "object.__setattr__"))) (hn : findIn (KK w) (.ref C) name = some none)
    (h : ∀ h' d, (∀ b ob, b ≠ e → s.heap.get? b = some ob → h'.get? b = some ob) → h'.get? e = some (excO C t (some d)) → Q () { s with heap := h', toks := s.toks + 2 }) :
    wpAny (model prg w) A (setAttr (.ref e) name v) Q E s := by
  have I : InstAt s.heap e (excO C t none) C none := ⟨he, rfl, rfl, trivial⟩
  refine set_plain X I hs ?_
  have SF := PySem.F.store_object
  have sub : Looks (model prg w) s.heap (isInstance (.ref e) (.type "object")) true := I.type.andThen (looks_mroIn X (by unfold mroIn; rw [hc, Option.bind_some, hm, if_neg (by rw [hl]; decide), ho]))
  refine codeAny_call_builtin SF.slot.plain SF.entry (@check_slot (model prg w) _ _ { s with toks := s.toks + 1 } "object.__setattr__" "object" "__setattr__" (.ref e) [.str name s.toks, v] [] _ SF.kind SF.split sub (SF.args (.ref e) (.str name s.toks) v) ?_)
  have hmro : Looks (model prg w) s.heap (mroOf (.ref C)) cd.mro := (looks_clsIn X hc).andThen .now
  rw [osa_eq, refuse_eq]
  refine wpAny_bind (wpAny_bind (I.type.here (s := { s with toks := s.toks + 1 }) (wpAny_bind (hmro.here (s := { s with toks := s.toks + 1 }) ?_))))
  rw [hm, hr]
  refine wpAny_pure (wpAny_bind (I.type.here (s := { s with toks := s.toks + 1 }) (wpAny_bind ((looks_findIn X hn).here (s := { s with toks := s.toks + 1 }) (wpAny_bind (wpAny_pure ?_))))))
  dsimp only
  unfold Builtin.ObjectAttr.storeInOwnDict
  refine wpAny_bind (wpAny_pure (wpAny_bind ?_))
  have s1 : ∀ b ob, b ≠ e → s.heap.get? b = some ob → ((s.heap.push emptyDict).update e fun o => { o with dict := some s.heap.objs.size }).get? b = some ob := fun b ob n q => (Heap.get?_update_other _ _ (Ne.symm n)).trans (Heap.get?_push_of_some _ q)
  have he1 := Heap.get?_push_of_some emptyDict he
  have he2 : ((s.heap.push emptyDict).update e fun o => { o with dict := some s.heap.objs.size }).get? e = some (excO C t (some s.heap.objs.size)) := Heap.get?_update_self _ he1 rfl
  have ne : s.heap.objs.size ≠ e := Nat.ne_of_gt (Heap.lt_size he)
  have hd2 : ((s.heap.push emptyDict).update e fun o => { o with dict := some s.heap.objs.size }).get? s.heap.objs.size = some emptyDict := (Heap.get?_update_other _ _ (Ne.symm ne)).trans (Heap.get?_push_size _ rfl)
  have D : Looks (model prg w) s.heap (classData C) cd := looks_clsIn X hc
  unfold Builtin.ObjectAttr.ownDictForStores instanceDict
  refine wpAny_bind (wpAny_loadPart he ?_)
  dsimp only
  refine wpAny_bind (D.here (s := { s with toks := s.toks + 1 }) ?_)
  rw [hd]
  rw [if_neg (by decide), if_neg (show ¬ (!true || !typeHasDict (.ref C)) = true from Bool.false_ne_true)]
  refine wpAny_bind (wpAny_alloc (wpAny_bind (wpAny_update he1 (wpAny_pure ?_))))
  dsimp only
  unfold Builtin.ObjectAttr.storeInDict
  refine wpAny_bind (wpAny_pure (wpAny_bind ?_))
  unfold nsSet
  refine wpAny_bind (wpAny_bind (wpAny_askSetting (wpAny_pure (wpAny_bind (wpAny_mkText (wpAny_bind (wpAny_loadPart hd2 ?_)))))))
  dsimp only
  rw [aRefKeyMayBeTheName_at, show (!(#[] : Array DictEntry).any (·.key.isStr name) && (#[] : Array DictEntry).any (·.refKey)) = false by simp]
  refine wpAny_updatePart hd2 ?_
  obtain ⟨es', ep', f1, f2, f3, f4, f5⟩ := putName_ns (name := name) (hsh := (if name.cps.isEmpty = true then 0 else reduceHash ((model prg w).w.params.strHash name.cps))) (t := s.toks + 1) (v := v) (es := #[]) (ep := 0) (fun e he => by simp at he)
  have D' := Heap.get?_update_self (Obj.putName name (if name.cps.isEmpty = true then 0 else reduceHash ((model prg w).w.params.strHash name.cps)) (.str name (s.toks + 1)) v) hd2 (by rw [f1]; rfl)
  rw [f1] at D'
  refine wpAny_bind (wpAny_lookBehind D' (pastItsLine_dict (by unfold sizeLine; simp at f4; omega)) ?_)
  refine wpAny_pure ?_
  refine h _ s.heap.objs.size (fun b ob n q => ?_) ?_
  · refine (Heap.get?_update_other _ _ ?_).trans (s1 b ob n q)
    exact Nat.ne_of_gt (Heap.lt_size q)
  · exact (Heap.get?_update_other _ _ ne).trans he2
end
end Mine
set_option Elab.async false
set_option maxRecDepth 100000
set_option linter.unusedVariables false
namespace Mine
open PySem PySem.W PySem.Calls PyProof.Rows PySem.Spec PyProof.Rows.LCg

/-- what an own exception class must be -/
structure XCls (w : World) (C : Addr) : Prop where
  obj : ∃ oc od cd sl, (KK w).lookup C = some ⟨oc, od, .cls cd, sl⟩ ∧ cd.mro.isEmpty = false ∧ cd.hasDel = false
  kind : typeIn (KK w) (.ref C) = some (.type "type")
  call : specialIn (KK w) (.ref C) "__call__" = some (some (.builtin "type.__call__"))
  typ : instIn (KK w) (.ref C) (.type "type") = some true
  made : peek (KK w) ⟨prg, w.params⟩ (Bind.madeBy (.ref C)) = some (some "Exception.__new__")
  self : subIn (KK w) (.ref C) (.ref C) = some true
  chk : ∀ why, peek (KK w) ⟨prg, w.params⟩ (checkBuiltinCall "Exception.__new__" ⟨[.ref C, why], []⟩) = some ()
  here : peek (KK w) ⟨prg, w.params⟩ (Bind.madeHere "BaseException.__new__" (.ref C)) = some ()
  isT : peek (KK w) ⟨prg, w.params⟩ (isType (.ref C)) = some true
  sub : subIn (KK w) (.ref C) (.type "Exception") = some true
  subB : subIn (KK w) (.ref C) (.type "BaseException") = some true
  subA : subIn (KK w) (.ref C) (.type "AttributeError") = some false
  subN : subIn (KK w) (.ref C) (.type "NameError") = some false
  init : findIn (KK w) (.ref C) "__init__" = some (some (.ref 28))
  keep : peek (KK w) ⟨prg, w.params⟩ (keeperOf (.ref C)) = some .machine
theorem xcls56 (w : World) : XCls w 56 := by
  refine ⟨⟨_, _, _, _, rfl, rfl, rfl⟩, ?_, ?_, ?_, ?_, ?_, ?_, ?_, ?_, ?_, ?_, ?_, ?_, ?_, ?_⟩
  · kernel_rfl
  · kernel_rfl
  · kernel_rfl
  · kernel_rfl
  · kernel_rfl
  · intro why; kernel_rfl
  · kernel_rfl
  · kernel_rfl
  · kernel_rfl
  · kernel_rfl
  · kernel_rfl
  · kernel_rfl
  · kernel_rfl
  · kernel_rfl
theorem xcls44 (w : World) : XCls w 44 := by
  refine ⟨⟨_, _, _, _, rfl, rfl, rfl⟩, ?_, ?_, ?_, ?_, ?_, ?_, ?_, ?_, ?_, ?_, ?_, ?_, ?_, ?_⟩
  · kernel_rfl
  · kernel_rfl
  · kernel_rfl
  · kernel_rfl
  · kernel_rfl
  · intro why; kernel_rfl
  · kernel_rfl
  · kernel_rfl
  · kernel_rfl
  · kernel_rfl
  · kernel_rfl
  · kernel_rfl
  · kernel_rfl
  · kernel_rfl

section
variable {w : World} {A : Around} {C : Addr} {R : Result → Shared → Prop} {h : Heap} {g : Array GenState} {d : Drawn} {t : Nat} {os : OsState}
theorem exc_new (Y : XCls w C) (X : (KK w).In h) {why : Value} (hq : R (.ok (.ret (.ref (h.objs.size + 1)))) ⟨(h.push { cls := .type "tuple", data := .seq #[why] }).push (excO C h.objs.size none), g, d, t, os⟩) :
    codeAny (model prg w) A (.builtin "Exception.__new__" ⟨[.ref C, why], []⟩) R ⟨h, g, d, t, os⟩ := by
  have F := PySem.F.excBase_Exception
  obtain ⟨oc, od, cd, sl, hC, e1, e2⟩ := Y.obj
  have hC := X _ _ hC
  have i1 : Looks (model prg w) h (isType (.ref C)) true := Looks.of_peek X Y.isT
  have i2 : Looks (model prg w) h (isSubtype (.ref C) (.type "Exception")) true := looks_subIn X Y.sub
  have i3 : Looks (model prg w) h (Bind.madeHere "BaseException.__new__" (.ref C)) () := Looks.of_peek X Y.here
  have i4 : Looks (model prg w) h (isSubtype (.ref C) (.type "AttributeError")) false := looks_subIn X Y.subA
  have i5 : Looks (model prg w) h (isSubtype (.ref C) (.type "NameError")) false := looks_subIn X Y.subN
  have hends := F.ends
  refine codeAny_builtinAt F.entry ?_
  unfold Builtin.«BaseException.__new__»
  refine PySem.wpAt_bind ?_
  show PySem.wpAt _ _ _ (stack >>= _) _ _ _
  refine PySem.wpAt_bind (PySem.wpAt_stack fun p below => PySem.wpAt_of_wpAny ?_)
  dsimp only
  rw [if_pos hends]
  refine wpAny_pure (PySem.wpAt_of_wpAny ?_)
  rw [F.owner]
  repeat lk
  refine nd_load (Heap.get?_push_of_some _ (Heap.get?_push_of_some _ hC)) ?_
  refine wpAny_pure (wpAny_pure (a := cd.hasDel) ?_)
  rw [e2]
  refine wpAny_pure (wpAny_pure ?_)
  show R _ _
  rw [Heap.size_push]
  exact hq
theorem exc_call (Y : XCls w C) (X : (KK w).In h) {why : Value}
    (hq : codeAny (model prg w) (A.under (.builtin "type.__call__" ⟨[.ref C, why], []⟩)) (.call (.ref 28) ⟨[.ref (h.objs.size + 1), why], []⟩) (InitBack (h.objs.size + 1) R) ⟨(h.push { cls := .type "tuple", data := .seq #[why] }).push (excO C h.objs.size none), g, d, t, os⟩) :
    codeAny (model prg w) A (.call (.ref C) ⟨[why], []⟩) R ⟨h, g, d, t, os⟩ := by
  have F := PySem.F.excBase_Exception
  obtain ⟨oc, od, cd, sl, hC, e1, e2⟩ := Y.obj
  have hc : clsIn (KK w) C = some cd := by unfold clsIn; rw [hC]
  have hC := X _ _ hC
  have made : Looks (model prg w) h (Bind.madeBy (.ref C)) (some "Exception.__new__") := Looks.of_peek X Y.made
  have call := looks_specialIn (M := model prg w) X Y.call
  have typ := looks_instIn (M := model prg w) X Y.typ
  have self := looks_subIn (M := model prg w) X Y.self
  have chk : Looks (model prg w) h (checkBuiltinCall "Exception.__new__" ⟨[.ref C, why], []⟩) () := Looks.of_peek X (Y.chk why)
  have hi := looks_findIn (M := model prg w) X Y.init
  have hb : ∀ self, Looks (model prg w) h (bindSpecial (.ref 28) self) (.ref 28, [self]) := fun self => bind_fn X self (by rfl)
  refine codeAny_of_tree ?_
  show wpAny _ _ (callAny (.ref C) _) _ _ _
  refine nd_load hC ?_
  show wpAny _ _ (callAny.viaDunder (.ref C) _) _ _ _
  unfold callAny.viaDunder
  refine wpAny_bind (call.at ?_)
  dsimp only
  rw [tc_bind]
  refine wpAny_bind (wpAny_pure (wpAny_bind (wpAny_pure ?_)))
  refine wpAny_pure (a := Fin.again (.call (.builtin "type.__call__") ⟨[.ref C, why], []⟩)) (And.intro rfl ?_)
  refine codeAny_call_builtin_at (Code.quiet_builtin _ (by decide +kernel)) entry_typeCall (check_slot tc_kind tc_split typ (tc_args _ _ _) ?_)
  unfold Builtin.«type.__call__»
  have hm : Looks (model prg w) h (mroOf (.ref C)) cd.mro := ((Looks.ld (part := none) hC).andThen .now).andThen .now
  repeat (first | simp only [e1, Bool.false_eq_true, if_false] | with_reducible refine wpAny_call ?_ | lk)
  refine codeAny_call_builtin_code (Code.quiet_builtin _ F.quiet) (chk.here ?_)
  refine exc_new Y X ?_
  have k : ∀ b o, h.get? b = some o → ((h.push { cls := .type "tuple", data := .seq #[why] }).push (excO C h.objs.size none)).get? b = some o := fun b o e => Heap.get?_push_of_some _ (Heap.get?_push_of_some _ e)
  have hx : ((h.push { cls := .type "tuple", data := .seq #[why] }).push (excO C h.objs.size none)).get? (h.objs.size + 1) = some (excO C h.objs.size none) := by heap_get
  have t1 : Looks (model prg w) ((h.push { cls := .type "tuple", data := .seq #[why] }).push (excO C h.objs.size none)) (typeOf (.ref (h.objs.size + 1))) (.ref C) := (Looks.ld hx).andThen .now
  have s1 := self.keeps k
  have i1 := hi.keeps k
  have b1 := (hb (.ref (h.objs.size + 1))).keeps k
  unfold isInstance callSpecial? specialOf
  repeat (first | with_reducible refine wpAny_call ?_ | lk)
  refine codeAny_mono hq fun r s' z => ?_
  rcases r with e | (v | _ | _ | _) <;> first | exact z | exact z.elim | skip
  obtain ⟨rfl, z⟩ := z
  exact wpAny_pure (wpAny_pure z)
end
end Mine
set_option Elab.async false
set_option maxRecDepth 100000
set_option linter.unusedVariables false
namespace Mine
open PySem PySem.W PySem.Calls PyProof.Rows PySem.Spec PyProof.Rows.LCg

structure XSet (w : World) (C : Addr) : Prop where
  cls : ∃ cd, clsIn (KK w) C = some cd ∧ cd.hasDict = true ∧ cd.mro.contains (.type "object") = true ∧ cd.mro.isEmpty = false ∧ ∀ e : Addr, refuseLoop (.ref e) "__setattr__" cd.mro = pure ()
  set : findIn (KK w) (.ref C) "__setattr__" = some (some (.builtin "object.__setattr__"))
  no : findIn (KK w) (.ref C) "why" = some none
theorem xset56 (w : World) : XSet w 56 := by
  refine ⟨⟨_, rfl, rfl, by decide +kernel, rfl, fun e => ?_⟩, ?_, ?_⟩
  · kernel_rfl
  · kernel_rfl
  · kernel_rfl
theorem xset44 (w : World) : XSet w 44 := by
  refine ⟨⟨_, rfl, rfl, by decide +kernel, rfl, fun e => ?_⟩, ?_, ?_⟩
  · kernel_rfl
  · kernel_rfl
  · kernel_rfl

section
variable {c : Cx} {env : Env} {ρ ρ₁ ρ₂ ρ' : Vs} {ω ω₁ ω₂ ω₃ ω' : Os} {Ψ Ψ' : Fl → Vs → Os → Prop} {Φ Φ' : Os → Oc → Prop}

/-- an owned thing has turned -/
theorem go_turn {I : Heap} {mu : Led} {s : Shared} {a : Addr} {o o' : Obj} {h' : Heap} {tk : Tok} {ao aw : AO} (X : S c I mu s) (W : Wd c env I ρ ω mu) (m : (a, o) ∈ mu) (hm : (a, aw) ∈ ω) (r : Ro c.w I o' ao)
    (k : ∀ b ob, b ≠ a → s.heap.get? b = some ob → h'.get? b = some ob) (e : h'.get? a = some o') : Go c env ρ ω (updO a ao ω) I mu I (updL a o' mu) { s with heap := h', toks := tk } := by
  have X' := X.turn (tk := tk) (dr := s.drawn) m (W.sep _ hm).2 k e
  obtain ⟨W', fp, nw⟩ := wd_put W X.kL ⟨o, m⟩ hm r
  exact ⟨X', .refl _, fp, nw, W'⟩

theorem CB.excInit {lv : Nat} {e C t : Addr} {a : AV} (hc : c.Ok lv) (Y : XCls c.w C) (h : (e, AO.raw (excO C t none)) ∈ ω) (hp : ∀ t', Φ (updO e (.raw (excO C t' none)) ω) (.val dN)) : CB c env ρ ω (.builtin "Exception.__init__") [vR e, a] Φ := fun I mu s vals Q E X W r q => by
  obtain ⟨v1, v2, rfl, r1, r2⟩ := r.two
  have r1 : v1 = .ref e := r1
  subst r1
  obtain ⟨o, h1, h2⟩ := W.own _ h
  have h2 : o = excO C t none := h2
  subst h2
  obtain ⟨oc, od, cd, sl, hC, -⟩ := Y.obj
  have KX := X.kin hc
  refine exc_init (X.ow _ h1) KX Y.sub (KX _ _ hC) fun h' t' k e => ?_
  exact q.on _ _ _ _ _ _ (go_turn (tk := s.toks) (ao := .raw (excO C t' none)) X W h1 h rfl k e) (rN _) (hp t')

theorem gm_exc {lv : Nat} {I : Heap} {mu : Led} {s : Shared} {pl : Sem Bool} {Q : Value × List Value → Shared → Prop} {E : Value → Shared → Prop} (hc : c.Ok lv) (X : S c I mu s) (h : Q (.builtin "Exception.__init__", []) { s with toks := s.toks + 1 }) :
    wpAny (model prg c.w) c.A (getMethod (.type "Exception") "__init__" pl) Q E s := by
  have KX := X.kin hc
  have L0 : Looks (model prg c.w) s.heap (typeOf (.type "Exception")) (.type "type") := Looks.of_pure (by kernel_rfl)
  have hg : findIn (KK c.w) (.type "type") "__getattribute__" = some (some (.builtin "type.__getattribute__")) := by kernel_rfl
  unfold getMethod specialOf
  refine wpAny_bind (wpAny_bind (L0.here ((looks_findIn KX hg).here ?_)))
  dsimp only
  rw [if_pos canon_tga]
  refine wpAny_bind (wpAny_mono (Q := fun v => Q (v, [])) (E := E) ?_ (fun _ _ z => wpAny_pure z) fun _ _ z => z)
  have LO : Looks (model prg c.w) s.heap (opaqueClassAbove (.type "Exception")) none := Looks.of_pure (by kernel_rfl)
  refine cls_open (r := .val (.builtin "Exception.__init__")) KX LO L0 hg (looks_hook KX (r := none) (by rfl)) (by kernel_rfl) (by kernel_rfl) (wpAny_pure ?_)
  exact wpAny_pure h
theorem TV.excInit {lv : Nat} {o : Expr} {ap p : Pos} {es : List Expr} {avs : List AV} {pl : Sem Bool} (hc : c.Ok lv) (ho : TE c env ρ ω o ω₁ (.v (.type "Exception"))) (ha : TEs c env ρ ω₁ es ω₂ avs) (hs : CB c env ρ ω₂ (.builtin "Exception.__init__") avs Φ)
    (hne : ∃ e r, es = e :: r ∧ starEach es env = (false, eval e env) :: starEach r env ∧ ∀ q, (backTo q (starEach r env)).any (·.1) = false := by exact ⟨_, _, rfl, rfl, fun _ => rfl⟩)
    (he : eval (.Call (.Attribute o "__init__" ap) es [] p) env = (do
      let ov ← eval o env
      standAt ap.atName
      let (f, first) ← holding [ov] (getMethod ov "__init__" pl)
      callWith p f first (backTo p (starEach es env)) []) := by rfl) :
    TV c env ρ ω (.Call (.Attribute o "__init__" ap) es [] p) Φ := fun I mu s Q E X W q => by
  obtain ⟨e, r, rfl, h1, h2⟩ := hne
  refine MethodCall_ (ho I mu s _ _ X W fun v s₁ I₁ mu₁ g₁ r₁ => ?_) he
  have r₁ : v = .type "Exception" := r₁
  subst r₁
  refine gm_exc hc g₁.st ?_
  have g₂ := g₁.trans (Go.toks g₁.st g₁.wd (tk := s₁.toks + 1) (dr := s₁.drawn))
  exact callWith_method1 (first := []) (ha p _ _ _ _ _ g₂.st g₂.wd fun vs s₃ I₃ mu₃ g₃ r₃ => hs _ _ _ _ _ _ g₃.st g₃.wd r₃ (q.after (g₂.trans g₃))) h1 (h2 p)

theorem TX.excSet {lv : Nat} {o value : Expr} {p' p : Pos} {e C t : Addr} {av : AV} (hc : c.Ok lv) (Y : XSet c.w C) (hv : TE c env ρ ω value ω₁ av) (ho : TE c env ρ ω₁ o ω₂ (vR e)) (he : (e, AO.raw (excO C t none)) ∈ ω₂)
    (hp : ∀ d, Ψ .next ρ (updO e (.raw (excO C t (some d))) ω₂)) (hs : swapsWith value (some (.Attribute o "why" p')) p.line env = pure false := by rfl) :
    TX c env ρ ω (.Assign [.Attribute o "why" p'] value p) Ψ := fun I mu s Q E X W k => by
  refine plainObj_wpAny_Assign_Attribute (hv I mu s _ _ X W fun v s₁ I₁ mu₁ g₁ r₁ => ho _ _ _ _ _ g₁.st g₁.wd fun ov s₂ I₂ mu₂ g₂ r₂ => ?_) hs
  have r₂ : ov = .ref e := r₂
  subst r₂
  obtain ⟨ob, h1, h2⟩ := g₂.wd.own _ he
  have h2 : ob = excO C t none := h2
  subst h2
  obtain ⟨cd, c1, c2, c3, c4, c5⟩ := Y.cls
  refine exc_set (g₂.st.ow _ h1) (g₂.st.kin hc) c1 c2 rfl c3 c4 (c5 e) Y.set Y.no fun h' d k1 k2 => ?_
  have G := go_turn (tk := s₂.toks + 2) (ao := .raw (excO C t (some d))) g₂.st g₂.wd h1 he rfl k1 k2
  exact k.on .next .next _ _ _ _ _ ((g₁.trans g₂).trans G).toS trivial (hp d)
end

theorem updO_one {a : Addr} {x y : AO} : updO a y [(a, x)] = [(a, y)] := by simp [updO]
theorem cv_init28 {lv : Nat} (hlv : lv ≤ 15) (C e t : Addr) (why : Str) (hY : ∀ w, XCls w C) (hZ : ∀ w, XSet w C) : CV lv 28 [vR e, dS why] [(e, .raw (excO C t none))] (fun o a => a = .val dN ∧ ∃ t d, o = [(e, .raw (excO C t (some d)))]) := by
  refine CV.def (xs := ["self", "why"]) (fun w => rfl) (fun w => by kernel_rfl) (fun vals h => ?_) ?_ ?_ ?_ hlv rfl rfl rfl fun c L hc hL => ?_
  · match vals, h with
    | [a, b], _ => rfl
  · decide +kernel
  · decide +kernel
  · decide +kernel
  refine TS.cons (Ψ₁ := fun f r o => f = .next ∧ r = ([("self", vR e), ("why", dS why)] : Vs) ∧ ∃ t', o = [(e, .raw (excO C t' none))]) ?_ ?_ (fun a r o h => nomatch h.1) (fun a r o h => nomatch h.1)
  · refine TX.exprV (Φ := fun o a => ∃ t', a = .val dN ∧ o = [(e, .raw (excO C t' none))]) (TV.excInit hc (TE.builtin hc (by kernel_rfl) (by kernel_rfl) (by decide) rfl) (TEs.cons (TE.name rfl) (TEs.cons (TE.name rfl) TEs.nil)) (CB.excInit hc (hY c.w) (.head _) fun t' => ?_)) ?_ ?_
    · exact ⟨t', rfl, updO_one⟩
    · intro o a h
      obtain ⟨t', _, h⟩ := h
      exact ⟨rfl, rfl, t', h⟩
    · intro o a h
      obtain ⟨t', h, _⟩ := h
      cases h
  · rintro ρ' ω' ⟨_, rfl, t', rfl⟩
    refine TS.last (TX.excSet hc (hZ c.w) (TE.name rfl) (TE.name rfl) (.head _) fun d => ?_)
    rw [updO_one]
    exact Fin.none ⟨rfl, t', d, rfl⟩
end Mine
set_option Elab.async false
set_option maxRecDepth 100000
set_option linter.unusedVariables false
namespace Mine
open PySem PySem.W PySem.Calls PyProof.Rows PySem.Spec PyProof.Rows.LCg

theorem raise_tail {w : World} {A : Around} {env : Env} {x : Sem Value} {s : Shared} {C : Addr} {Q : Flow → Shared → Prop} {E : Value → Shared → Prop} (hh : A.handled = none) (Y : XCls w C)
    (h : wpAny (model prg w) A x (fun v s₁ => ∃ e t d, v = .ref e ∧ (KK w).In s₁.heap ∧ s₁.heap.get? e = some (excO C t d) ∧ E (.ref e) s₁) E s) : wpAny (model prg w) A (raiseStmt env (some x) none) Q E s := by
  unfold raiseStmt
  refine wpAny_bind (wpAny_mono h (fun v s₁ h₁ => ?_) fun _ _ x => x)
  obtain ⟨e, t, d, rfl, X, he, hE⟩ := h₁
  have i1 : Looks (model prg w) s₁.heap (isSubtype (.ref C) (.type "BaseException")) true := looks_subIn X Y.subB
  have i2 : Looks (model prg w) s₁.heap (typeOf (.ref C)) (.type "type") := looks_typeIn X Y.kind
  refine wpAny_bind (wpAny_pure (wpAny_bind (wpAny_holding ?_)))
  unfold excFromValue
  repeat lk
  refine wpAny_handled ?_
  rw [hh]
  exact wpAny_throw hE

section
variable {c : Cx} {env : Env} {ρ ρ₁ ρ₂ ρ' : Vs} {ω ω₁ ω₂ ω₃ ω' : Os} {Ψ Ψ' : Fl → Vs → Os → Prop} {Φ Φ' : Os → Oc → Prop}

/-- the same activation, seen from within a built-in -/
noncomputable abbrev within (c : Cx) (A : Around) : Cx := { w := c.w, A := A, env := c.env, outer := c.outer, fobj := c.fobj, G := c.G, os := c.os, L := c.L }
theorem S.within {I : Heap} {mu : Led} {s : Shared} {A : Around} (X : S c I mu s) : S (Mine.within c A) I mu s := ⟨X.gi, X.im, X.ow, X.off, X.nd, X.fr, X.fo, X.gens, X.os, X.hi⟩
theorem S.without {I : Heap} {mu : Led} {s : Shared} {A : Around} (X : S (Mine.within c A) I mu s) : S c I mu s := ⟨X.gi, X.im, X.ow, X.off, X.nd, X.fr, X.fo, X.gens, X.os, X.hi⟩
theorem Fp.without {P : Addr → Prop} {mu mu' : Led} {A : Around} (x : Fp (Mine.within c A) P mu mu') : Fp c P mu mu' := ⟨x.other, x.fr, x.ks⟩
theorem within_ok {lv : Nat} {A : Around} (hc : c.Ok lv) (h1 : A.frames = c.A.frames) (h2 : A.handled = c.A.handled) (h3 : A.depth ≤ c.A.depth + 20) (h4 : A.units ≤ c.A.units + 200) : (Mine.within c A).Ok (lv + 1) := by
  refine ⟨hc.st, h1.trans hc.frames, h2.trans hc.handled, ?_, ?_, hc.kind, hc.frame, hc.glob, hc.bins, hc.outs⟩
  · have := hc.depth; show A.depth ≤ _; omega
  · have := hc.units; show A.units ≤ _; omega
/-- all frames stand -/
theorem frames_fun {lv : Nat} {I : Heap} {mu : Led} {s : Shared} {B : Heap} (hc : c.Ok lv) (X : S c I mu s) (hB : ∀ a, a = c.L ∨ a ∈ c.fobj.map (·.1) → B.get? a = none) : s.heap.FunFrames B (c.env :: c.outer) := by
  have nf : ∀ o : Obj, isDict o → ∀ vs, o.data ≠ .fields vs := fun o ⟨es, n, d⟩ vs q => by rw [d] at q; cases q
  have tl : ∀ (l : List Env) (fo : Led), All2 (fun (e : Env) (p : Addr × Obj) => e.frame = some p.1 ∧ e.scope.kind ≠ .module ∧ isDict p.2) l fo → (∀ p ∈ fo, (∃ sl, s.heap.get? p.1 = some { p.2 with slots := sl }) ∧ B.get? p.1 = none) → s.heap.FunFrames B l := by
    intro l
    induction l with
    | nil => intro fo _ _; trivial
    | cons e l ih =>
      intro fo h k
      cases h with
      | cons a b =>
        rename_i p fo
        obtain ⟨⟨sl, h1⟩, h2⟩ := k p (.head _)
        exact ⟨a.2.1, ⟨p.1, _, a.1, h2, h1, nf _ a.2.2⟩, ih fo b fun q hq => k q (.tail _ hq)⟩
  obtain ⟨oL, h1, h2⟩ := X.fr
  exact ⟨by rw [hc.kind]; decide, ⟨c.L, oL, hc.frame, hB _ (.inl rfl), X.ow _ h1, nf _ h2⟩, tl _ _ hc.outs fun p hp => ⟨(X.fo p hp).1, hB _ (.inr (List.mem_map_of_mem hp))⟩⟩
theorem exc_of {lv : Nat} {I : Heap} {mu : Led} {s : Shared} {e C t : Addr} {d : Option Addr} (hc : c.Ok lv) (X : S c I ((e, excO C t d) :: mu) s) (hL : e ≠ c.L) : S c I mu s ∧ Exc c I mu e C s := by
  have hnd := List.nodup_cons.mp (show (e :: mu.map (·.1)).Nodup from X.nd)
  have X₁ : S c I mu s := by
    refine ⟨X.gi, X.im, fun p hp => X.ow p (.tail _ hp), fun p hp => X.off p (.tail _ hp), hnd.2, ?_, fun p hp => ?_, X.gens, X.os, fun p hp => X.hi p (.tail _ hp)⟩
    · obtain ⟨oL, h1, h2⟩ := X.fr
      rcases List.mem_cons.mp h1 with q | h1
      · exact absurd (congrArg Prod.fst q).symm hL
      · exact ⟨oL, h1, h2⟩
    · obtain ⟨h1, h2, h3⟩ := X.fo p hp
      exact ⟨h1, h2, fun m => h3 (.tail _ m)⟩
  refine ⟨X₁, hideAll s.heap (e :: c.L :: c.fobj.map (·.1)), .ref t, fun b o q => ?_, fun p hp n => ?_, fun b o q => of_hideAll _ q, hideAll_none _ (.head _), ?_, .inl ⟨excO C t d, _, X.ow _ (.head _), rfl, rfl, rfl, rfl⟩⟩
  · refine hideAll_get _ (X.im _ _ q) fun m => ?_
    rcases List.mem_cons.mp m with rfl | m
    · have := X.off _ (.head _)
      rw [q] at this; cases this
    · rcases List.mem_cons.mp m with rfl | m
      · obtain ⟨oL, h1, _⟩ := X₁.fr
        have := X₁.off _ h1
        rw [q] at this; cases this
      · exact X.notFo q m
  · refine hideAll_get _ (X₁.ow p hp) fun m => ?_
    rcases List.mem_cons.mp m with q | m
    · exact hnd.1 (q ▸ List.mem_map_of_mem hp)
    · rcases List.mem_cons.mp m with q | m
      · exact n q
      · exact X₁.foMu m (List.mem_map_of_mem hp)
  · refine frames_fun hc X₁ fun a ha => hideAll_none _ ?_
    rcases ha with rfl | ha
    · exact .tail _ (.head _)
    · exact .tail _ (.tail _ ha)

theorem TX.raise {lv : Nat} {fe a : Expr} {cpos pos : Pos} {C : Addr} {msg : Str} (hc : c.Ok lv) (hlv : lv ≤ 13) (hY : ∀ w, XCls w C) (hZ : ∀ w, XSet w C) (hk : keepIn (KK c.w) (.ref C) = true) (hf : TE c env ρ ω fe ω₁ (vR C)) (ha : TE c env ρ ω₁ a ω₂ (dS msg)) (hΨ : Ψ (.exc C) ρ ω₂)
    (h1 : starEach [a] env = [(false, eval a env)] := by rfl)
    (he : eval (.Call fe [a] [] cpos) env = (do callWith cpos (← eval fe env) [] (backTo cpos (starEach [a] env)) (backToKw cpos (keywordEach [] env))) := by rfl) :
    TX c env ρ ω (.Raise (some (.Call fe [a] [] cpos)) none pos) Ψ := fun I mu s Q E X W k => by
  rw [arm_exec_Raise]
  refine wpAny_bind (wpAny_standAt ?_)
  show wpAny _ _ (raiseStmt env (some (do let v ← eval (.Call fe [a] [] cpos) env; standAt pos; pure v)) none) _ _ _
  refine raise_tail (C := C) hc.handled (hY c.w) (wpAny_bind ?_)
  refine wpAny_mono (Q := fun v s₁ => ∃ e t d, v = .ref e ∧ (KK c.w).In s₁.heap ∧ s₁.heap.get? e = some (excO C t d) ∧ E (.ref e) s₁) (E := E) ?_ (fun v s₁ h => wpAny_bind (wpAny_standAt (wpAny_pure h))) fun _ _ z => z
  refine Call_ (hf I mu s _ _ X W fun v s₁ I₁ mu₁ g₁ r₁ => ?_) he
  have r₁ : v = .ref C := r₁
  subst r₁
  refine callWith_K (K := KK c.w) (g₁.st.kin hc) hk ?_ h1 rfl
  rw [h1]
  refine spliced_cons (ha _ _ _ _ _ g₁.st g₁.wd fun v s₂ I₂ mu₂ g₂ r₂ => spliced_nil ⟨g₂.st.kin hc, ?_⟩)
  obtain ⟨hp, gs, dr, tk, os⟩ := s₂
  refine wpAny_call (exc_call (hY c.w) (g₂.st.kin hc) ?_)
  have G := Go.grow g₂.st g₂.wd (tk := tk) (dr := dr) (HLe.push hp { cls := .type "tuple", data := .seq #[v] })
  obtain ⟨I₃, G₃, nk⟩ := go_new (o := excO C hp.objs.size none) (ao := .raw (excO C hp.objs.size none)) (tk := tk) (dr := dr) hc G.st G.wd rfl rfl
  have ez : (hp.push { cls := .type "tuple", data := .seq #[v] }).objs.size = hp.objs.size + 1 := by rw [Heap.size_push]
  have eL : hp.objs.size + 1 ≠ c.L := fun e => by
    obtain ⟨oL, hL⟩ := g₂.st.kL
    have := Heap.lt_size (g₂.st.ow _ hL)
    have e' : c.L = hp.objs.size + 1 := e.symm
    rw [e'] at this
    exact absurd this (by show ¬ hp.objs.size + 1 < hp.objs.size; omega)
  refine cv_init28 (lv := lv + 1) (by omega) C (hp.objs.size + 1) hp.objs.size msg hY hZ (Mine.within c (c.A.under (.builtin "type.__call__" ⟨[.ref C, v], []⟩))) I₃ _ _ _ _ (within_ok hc rfl rfl (by show c.A.depth + 1 ≤ _; omega) ?_) (S.within (by simpa [ez] using G₃.st)) ?_ ?_ ?_ (.cons rfl (.cons ((r₂.mono G.le).mono G₃.le) .nil)) (fun v' av ω' s' I' mu' A r p => ?_) fun e C' ω' s' I' mu' A x p => nomatch p.1
  · have h5 : (Code.builtin "type.__call__" ⟨[.ref C, v], []⟩).cUnits ≤ 200 := by
      rw [show (Code.builtin "type.__call__" ⟨[.ref C, v], []⟩).cUnits = (Code.builtin "type.__call__" ⟨[], []⟩).cUnits from rfl]
      decide +kernel
    show c.A.units + (Code.builtin "type.__call__" ⟨[.ref C, v], []⟩).cUnits ≤ _
    omega
  · intro q hq
    rw [List.mem_singleton.mp hq]
    exact ⟨_, .head _, rfl⟩
  · exact List.nodup_cons.mpr ⟨by simp, .nil⟩
  · intro h
    exact eL (List.mem_singleton.mp h).symm
  · obtain ⟨pe, t, d, rfl⟩ := p
    cases pe
    cases r.none
    refine ⟨rfl, ?_⟩
    obtain ⟨o, m1, m2⟩ := A.own _ (.head _)
    have m2 : o = excO C t (some d) := m2
    subst m2
    have X' := A.st.without
    have X'' := X'.perm (perm_head m1 X'.nd)
    obtain ⟨X₁, xx⟩ := exc_of hc X'' eL
    have ne2 : ∀ p ∈ mu₂, p.1 ≠ hp.objs.size + 1 := fun p hp' e => by
      have := Heap.lt_size (g₂.st.ow _ hp')
      rw [e] at this
      exact absurd this (by show ¬ hp.objs.size + 1 < hp.objs.size; omega)
    have fp' := A.fp.without
    have oth : ∀ p ∈ mu₂, p.1 ≠ c.L → p ∈ dropL (hp.objs.size + 1) mu' := fun p hp' n => dropL_mem.mpr ⟨fp'.other p (.tail _ hp') (fun h => ne2 p hp' (List.mem_singleton.mp h)) n, ne2 p hp'⟩
    have fpd : Fp c (In ω₂) mu₂ (dropL (hp.objs.size + 1) mu') := by
      refine ⟨fun p hp' _ n => oth p hp' n, fun o ho _ => ?_, fun p hp' => ?_⟩
      · obtain ⟨sl, h1⟩ := fp'.fr o (.tail _ ho) fun h => eL (List.mem_singleton.mp h).symm
        exact ⟨sl, dropL_mem.mpr ⟨h1, Ne.symm eL⟩⟩
      · obtain ⟨q, hq, e⟩ := List.mem_map.mp (fp'.ks p (.tail _ hp'))
        rw [← e]
        exact List.mem_map_of_mem (dropL_mem.mpr ⟨hq, fun e2 => ne2 p hp' (e ▸ e2)⟩)
    have le' : HLe I₂ I' := (G.le.trans G₃.le).trans A.le
    have Gd : Go c env ρ ω₂ ω₂ I₂ mu₂ I' (dropL (hp.objs.size + 1) mu') s' := ⟨X₁, le', fpd, Nw.refl _ _, g₂.wd.step le' fpd g₂.wd.notIn (fun q hq => by
      obtain ⟨o, h1, h2⟩ := g₂.wd.own q hq
      exact ⟨o, oth _ h1 (g₂.wd.sep q hq).2, h2.mono le'⟩) (Nw.refl _ _) g₂.wd.nd g₂.st.kL⟩
    exact ⟨hp.objs.size + 1, t, some d, rfl, X₁.kin hc, X'.ow _ m1, k.up _ _ _ _ _ _ _ ((g₁.trans g₂).trans Gd).toS xx hΨ⟩
end
end Mine
set_option Elab.async false
set_option maxRecDepth 100000
set_option linter.unusedVariables false
namespace Mine
open PySem PySem.W PySem.Calls PyProof.Rows PySem.Spec PyProof.Rows.LCg

/-! # lambdas: the code table of the function around them, and what they are -/
noncomputable abbrev tabO (ps : Array Value) : Obj := { cls := .none, data := .fields ps }
noncomputable abbrev lamFd (qual : Str) (params : Arguments) (body : Expr) (scope : Scope) (cl : List (Str × Addr)) (pm cdv ct : Value) : FuncData :=
  { name := "<lambda>", qualname := qual, params, body := .expr body, scope, globals := mainGlobals, closure := cl, defaults := .none, kwdefaults := .none, doc := .none, pyModule := pm, annotations := none, code := cdv, closureTuple := ct, builtins := builtinsNs }
noncomputable abbrev lamO (qual : Str) (params : Arguments) (body : Expr) (scope : Scope) (cl : List (Str × Addr)) (pm cdv ct : Value) : Obj := { cls := .type "function", data := .func (lamFd qual params body scope cl pm cdv ct) }
theorem codeRec_mono {I J : Heap} {cv : Value} {q : Str} (h : HLe I J) (x : I.CodeRec cv q) : J.CodeRec cv q := x.keeps h
/-- the table: what is found in it is a code of that name -/
noncomputable def tabA (q : Str) : AO := .gen (fun I o => ∃ ps, o = tabO ps ∧ TriplesOk ps.toList ∧ ∀ pos cv, codeAmong pos ps.toList = some cv → I.CodeRec cv q)
  (fun I J o h ⟨ps, a, b, c⟩ => ⟨ps, a, b, fun pos cv e => codeRec_mono h (c pos cv e)⟩)
noncomputable def lamA (qual : Str) (params : Arguments) (body : Expr) (scope : Scope) (cl : List (Str × Addr)) : AO := .gen (fun I o => ∃ pm cv ct, o = lamO qual params body scope cl pm cv ct ∧ I.CodeRec cv qual)
  (fun I J o h ⟨pm, cv, ct, a, b⟩ => ⟨pm, cv, ct, a, codeRec_mono h b⟩)

theorem among_snoc {pos p : Pos} {c cv : Value} (l : List Value) (h : TriplesOk l) (e : codeAmong p (l ++ [rawInt pos.line, rawInt pos.col, c]) = some cv) : codeAmong p l = some cv ∨ cv = c := by
  fun_induction TriplesOk l with
  | case1 =>
    simp only [List.nil_append, codeAmong, rawInt] at e
    split at e
    · cases e; exact .inr rfl
    · cases e
  | case2 a t b u x rest ih =>
    simp only [List.cons_append, codeAmong] at e ⊢
    split at e
    · rename_i hc; cases e; rw [if_pos hc]; exact .inl rfl
    · rename_i hc; rw [if_neg hc]; exact ih h e
  | case3 l h1 h2 => exact h.elim

theorem lam_tail {M : Model} {A : Around} {E : Value → Shared → Prop} {s : Shared} {qual : Str} {params : Arguments} {body : Expr} {scope : Scope} {env : Env} {c P : Addr} {ps : Array Value} {pos : Pos} {firstLine : Nat} {mg : Str → Option Value} {cl : List (Str × Addr)} {Q : Value → Shared → Prop}
    (hcl : closureFor scope env = pure cl) (hne : cl.isEmpty = false) (hge : env.globals = mainGlobals) (hg : s.heap.Ns mainGlobals mg) (hcode : env.code = .ref c) (hI : s.heap.IsCode c P ps) (hT : s.heap.TableAt c P ps) (hgP : mainGlobals ≠ P) (hb : s.heap.BuiltinsAt mg P)
    (h : ∀ cv ct h' tk, Heap.ExtBut P s.heap h' → ((codeAmong pos ps.toList = some cv ∧ h'.get? P = some (tabO ps)) ∨
        (∃ c', cv = .ref c' ∧ s.heap.get? c' = none ∧ h'.CodeRec cv qual ∧ h'.get? P = some (tabO (ps ++ #[rawInt pos.line, rawInt pos.col, cv])))) →
      Q (.ref h'.objs.size) { s with heap := h'.push (lamO qual params body scope cl ((mg "__name__").getD .none) cv ct), toks := tk }) :
    wpAny M A (makeFunction "<lambda>" qual params (.expr body) scope env [] [] [] pos firstLine) Q E s := by
  obtain ⟨bm, ob, b1, b2, -, b4, b5, b6, b7, b8⟩ := hb
  rw [makeFunction_eq]
  simp only [List.zip_nil_right, List.filterMap_nil, List.isEmpty_nil, if_true, pure_bind]
  unfold makeTail
  rw [hcl, hge]
  refine wpAny_bind (wpAny_pure ?_)
  simp only [hne, Bool.false_eq_true, if_false]
  refine wpAny_bind (wpAny_newTextTuple ?_)
  have k0 : ∀ (o : Obj) b ob, s.heap.get? b = some ob → (s.heap.push o).get? b = some ob := fun o b ob e => Heap.get?_push_of_some _ e
  cases hf : codeAmong pos ps.toList with
  | some cv =>
    refine wpAny_bind (wpAny_functionCode_hit hcode (hI.push _) hf ?_)
    refine wpAny_bind (wpAny_builtinsFor (hg.push _) b1 b2 (k0 _ _ _ b5) b6 b7 b8 ?_)
    refine wpAny_bind (wpAny_nsGet (hg.push _) ?_)
    refine wpAny_bind (wpAny_pure (wpAny_newObj_type (h cv _ _ _ (fun b o _ e => k0 _ b o e) (.inl ⟨hf, k0 _ _ _ hT.2⟩)) (by size_fits)))
  | none =>
    refine wpAny_bind (wpAny_functionCodeX hcode (hI.push _) (hT.push _) hf fun c' h' tk hx hge' hlt _ hrec htb _ => ?_)
    have hg' := (hg.push _).extBut hx hgP
    have hx' : Heap.ExtBut P s.heap h' := fun b o n e => hx b o n (k0 _ b o e)
    refine wpAny_bind (wpAny_builtinsFor hg' b1 b2 (hx' _ _ b4 b5) b6 b7 b8 ?_)
    refine wpAny_bind (wpAny_nsGet hg' ?_)
    refine wpAny_bind (wpAny_pure (wpAny_newObj_type (h (.ref c') _ h' tk hx' (.inr ⟨c', rfl, ?_, hrec, htb.2⟩)) (by size_fits)))
    refine Heap.get?_none_of_le (Nat.le_trans ?_ hge')
    rw [Heap.size_push]
    exact Nat.le_succ _

/-- the code of the function around -/
noncomputable def CodeK (K : Frag) (cd P : Addr) : Prop := ∃ o vs file tf flags tg inF text tt, K.lookup cd = some o ∧ o.cls = .type "code" ∧ o.data = .fields vs ∧ vs[11]? = some (.ref P) ∧ vs.getD 11 .none = .ref P ∧ vs.getD 18 .none = .str file tf ∧
    vs.getD 7 .none = .int flags tg ∧ vs.getD 9 .none = .bool inF ∧ vs.getD 10 .none = .int text tt ∧ cd ≠ P
theorem codeK263 (w : World) : CodeK (KK w) 263 259 := ⟨_, _, _, _, _, _, _, _, _, rfl, rfl, rfl, rfl, rfl, rfl, rfl, rfl, rfl, by decide⟩

section
variable {c : Cx} {env : Env} {ρ ρ₁ ρ₂ ρ' : Vs} {ω ω₁ ω₂ ω₃ ω' : Os} {Ψ Ψ' : Fl → Vs → Os → Prop} {Φ Φ' : Os → Oc → Prop}
theorem S.newFo {I : Heap} {mu : Led} {s : Shared} (X : S c I mu s) {a : Addr} (n : s.heap.get? a = none) : a ∉ c.fobj.map (·.1) := fun m => by
  obtain ⟨p, hp, rfl⟩ := List.mem_map.mp m
  obtain ⟨⟨sl, h1⟩, _, _⟩ := X.fo p hp
  rw [h1] at n; cases n
theorem TV.lam {lv : Nat} {params : Arguments} {body : Expr} {scope : Scope} {pos : Pos} {cd P : Addr} {q : Str} {cl : List (Str × Addr)} (hc : c.Ok lv) (hcd : env.code = .ref cd) (hK : CodeK (KK c.w) cd P) (hm : (P, tabA q) ∈ ω) (hq : env.qual ++ "<lambda>" = q)
    (hcl : closureFor scope env = pure cl) (hne : cl.isEmpty = false) (hdef : defaultsOf params env = ([], [])) (hp : ∀ f, f ∉ keys ω → Φ ((f, lamA q params body scope cl) :: ω) (.val (vR f))) :
    TV c env ρ ω (.Lambda params body scope pos) Φ := fun I mu s Q E X W k => by
  rw [arm_eval_Lambda, hdef]
  refine wpAny_bind (wpAny_pure (wpAny_bind (wpAny_holding (wpAny_pure ?_))))
  rw [hq]
  obtain ⟨pp, loose, mean, mg, mb, T⟩ := hc.st.T
  obtain ⟨o, m1, ps, rfl, ht, hcs⟩ := W.own _ hm
  have up : HLe c.G s.heap := fun b o e => X.im _ _ (X.gi _ _ e)
  have notP : ∀ b o, c.G.get? b = some o → b ≠ P := fun b o e n => by
    have := X.gi _ _ e
    rw [n, X.off _ m1] at this; cases this
  have gP : mainGlobals ≠ P := by obtain ⟨o, es, ep, e, _⟩ := T.g; exact notP _ _ e
  obtain ⟨bm, ob, b1, b2, b3, b4, b5, b6⟩ := T.bmain
  have bG : bm ≠ mainGlobals := fun e => by
    obtain ⟨o, es, ep, e', hd, _⟩ := T.g
    rw [e, e'] at b3; cases b3; rw [hd] at b6; cases b6
  obtain ⟨oc, vs, file, tf, flags, tg, inF, text, tt, k1, k2, k3, k4, k5, k6, k7, k8, k9, k10⟩ := hK
  have KX := X.kin hc
  have hP := X.ow _ m1
  refine lam_tail hcl hne W.ok.glob (T.g.keeps up) hcd ⟨oc, vs, file, tf, flags, tg, inF, text, tt, _, KX _ _ k1, k3, k5, k6, k7, k8, k9, hP, rfl, ht, k10⟩ ⟨⟨oc, vs, KX _ _ k1, k2, k3, k4⟩, hP⟩ gP ⟨bm, ob, b1, b2, bG, notP _ _ b3, up _ _ b3, b4, b5, b6⟩ fun cv ct h' tk hx hcase => ?_
  obtain ⟨ps', e', ht', hcs', hcv⟩ : ∃ ps', h'.get? P = some (tabO ps') ∧ TriplesOk ps'.toList ∧ (∀ p cv, codeAmong p ps'.toList = some cv → (imm c (updL P (tabO ps') mu) h').CodeRec cv q) ∧ (imm c (updL P (tabO ps') mu) h').CodeRec cv q := by
    have le : ∀ ps', h'.get? P = some (tabO ps') → HLe I (imm c (updL P (tabO ps') mu) h') := fun ps' e b o e' => by
      have X' := X.turn (tk := tk) (dr := s.drawn) m1 (W.sep _ hm).2 hx e
      exact (X'.grow (HLe.refl _) (tk := tk) (dr := s.drawn)).2 b o e'
    rcases hcase with ⟨h1, h2⟩ | ⟨c', rfl, h2, h3, h4⟩
    · exact ⟨ps, h2, ht, fun p cv e => codeRec_mono (le ps h2) (hcs p cv e), codeRec_mono (le ps h2) (hcs _ _ h1)⟩
    · have z : (imm c (updL P (tabO (ps ++ #[rawInt pos.line, rawInt pos.col, .ref c'])) mu) h').CodeRec (.ref c') q := by
        obtain ⟨c2, o2, vs2, t2, e2, g2, r2⟩ := h3
        cases e2
        exact ⟨c', o2, vs2, t2, rfl, imm_get g2 (by rw [updL_keys]; exact X.newMu h2) (X.newFo h2), r2⟩
      refine ⟨_, h4, ?_, fun p cv e => ?_, z⟩
      · rw [Array.toList_append]; exact TriplesOk_snoc _ _ _ _ ht
      · rw [Array.toList_append] at e
        rcases among_snoc _ ht e with e | rfl
        · exact codeRec_mono (le _ h4) (hcs p cv e)
        · exact z
  have X' := X.turn (tk := tk) (dr := s.drawn) m1 (W.sep _ hm).2 hx e'
  obtain ⟨X₂, le₂⟩ := X'.grow (HLe.refl _) (tk := tk) (dr := s.drawn)
  have kP : P ∈ keys ω := List.mem_map_of_mem (f := Prod.fst) hm
  have fp : Fp c (In ω) mu (updL P (tabO ps') mu) := ⟨fun p hp n1 n2 => updL_mem hp fun q => n1 (by rw [q]; exact kP), fun o ho n1 => ⟨o.slots, updL_mem ho fun q => n1 (by rw [q]; exact kP)⟩, fun p hp => by rw [updL_keys]; exact List.mem_map_of_mem hp⟩
  have W₂ : Wd c env (imm c (updL P (tabO ps') mu) h') ρ ω (updL P (tabO ps') mu) := W.step le₂ fp W.notIn (fun r hr => by
    by_cases e : r.1 = P
    · have hr' : (P, r.2) ∈ ω := by rw [← e]; exact hr
      rw [nd_uniq W.nd hr' hm, e]
      exact ⟨_, updL_self m1, ps', rfl, ht', hcs'⟩
    · obtain ⟨o, h1, h2⟩ := W.own r hr
      exact ⟨o, updL_mem h1 e, h2.mono le₂⟩) (Nw.refl _ _) W.nd X.kL
  have G : Go c env ρ ω ω I mu _ _ { s with heap := h', toks := tk } := ⟨X₂, le₂, fp, Nw.refl _ _, W₂⟩
  obtain ⟨I₃, G₃, nk⟩ := go_new (o := lamO q params body scope cl ((mg "__name__").getD .none) cv ct) (ao := lamA q params body scope cl) (tk := tk) (dr := s.drawn) hc G.st G.wd rfl ⟨_, cv, ct, rfl, hcv⟩
  exact k.on (.ref h'.objs.size) (vR h'.objs.size) _ _ _ _ (G.trans G₃) (show Rv I₃ (.ref h'.objs.size) (vR h'.objs.size) from rfl) (hp _ nk)
end
end Mine
set_option Elab.async false
set_option maxRecDepth 100000
set_option linter.unusedVariables false
namespace Mine
open PySem PySem.W PySem.Calls PyProof.Rows PySem.Spec PyProof.Rows.LCg

theorem lam_call {w : World} {A : Around} {R : Result → Shared → Prop} {s : Shared} {f : Addr} {q : Str} {params : Arguments} {body : Expr} {scope : Scope} {cl : List (Str × Addr)} {pm cdv ct : Value} (hroom : A.depth < recursionLimit) (ho : s.heap.get? f = some (lamO q params body scope cl pm cdv ct))
    (hcd : s.heap.CodeRec cdv q) (hbind : bindArgs (lamFd q params body scope cl pm cdv ct) ⟨[], []⟩ = pure []) (hcell : ∀ x ∈ scope.names, x.2 ≠ .cell) (hnl : s.heap.NoLimit) (hk : scope.kind = .function) (hco : scope.isCoroutine = false) (hgen : scope.isGenerator = false)
    (h : ∀ h₁, h₁.Ns s.heap.objs.size (fun y => ([] : List (Str × Value)).reverse.lookup y) → (∀ b o, s.heap.get? b = some o → h₁.get? b = some o) →
      wpAny (model prg w) (A.deeper (envX q scope s.heap.objs.size f cdv cl)) (eval body (envX q scope s.heap.objs.size f cdv cl)) (fun v s' => R (.ok (.ret v)) s')
        (fun e s' => wpAny (model prg w) (A.deeper (envX q scope s.heap.objs.size f cdv cl)) (leaving (envX q scope s.heap.objs.size f cdv cl) e) (fun _ s'' => R (.error e) s'') (fun e' s'' => R (.error e') s'') s') { s with heap := h₁ }) :
    codeAny (model prg w) A (.call (.ref f) ⟨[], []⟩) R s := by
  refine codeAny_of_tree ?_
  show wpAny _ A.in1 (callAny (.ref f) ⟨[], []⟩) _ _ s
  simp only [callAny]
  refine wpAny_bind (wpAny_load ho ?_)
  obtain ⟨cc, oc, vs, tq, rfl, hoc, hdc, hq⟩ := hcd
  simp only [callFunction, hco, hgen]
  refine wpAny_bind (m := field (.ref cc) 1) (wpAny_field hoc hdc hq (wpAny_bind (wpAny_pure ?_)))
  rw [hbind]
  refine wpAny_bind (wpAny_pure (wpAny_bind (wpAny_newFunctionEnv (binds := []) hcell (fun y hy => by cases hy) (fun h₁ hns hsb => ?_) hk)))
  refine wpAny_bind (wpAny_enterFrame (hnl.fresh _ hsb) hroom (wpAny_pure (And.intro rfl ?_)))
  refine codeAny_of_tree ?_
  have hk₁ : ∀ b o, s.heap.get? b = some o → h₁.get? b = some o := fun b o e => hsb.extBut b o (Nat.ne_of_lt (Heap.lt_size e)) (Heap.get?_push_of_some _ e)
  show wpAny _ (A.deeper (envX q scope s.heap.objs.size f (.ref cc) cl)) (do point; ret (← (eval body (envX q scope s.heap.objs.size f (.ref cc) cl)).onRaise (leaving (envX q scope s.heap.objs.size f (.ref cc) cl)))) _ _ _
  refine wpAny_bind (wpAny_point (wpAny_bind (wpAny_onRaise (wpAny_mono (h h₁ hns hk₁) (fun v s' h' => wpAny_pure h') fun _ _ h' => h'))))

/-- what a lambda's body must end in -/
noncomputable def FinE (Φ : Os → Oc → Prop) : Os → Oc → Prop := fun o a => match a with
  | .val a => Fin Φ (.ret a) [] o
  | .exc C => Fin Φ (.exc C) [] o
theorem FinE.of {Φ : Os → Oc → Prop} {o : Os} {a : Oc} (h : Φ o a) : FinE Φ o a := by
  cases a with
  | val a => exact Fin.same (ρ := []) h
  | exc C => exact Fin.exc (ρ := []) h

theorem CV.lam {lv : Nat} {f : Addr} {ω : Os} {Φ : Os → Oc → Prop} {q : Str} {params : Arguments} {body : Expr} {scope : Scope} {cl : List (Str × Addr)} (hm : (f, lamA q params body scope cl) ∈ ω) (hlv : lv ≤ 15)
    (hbind : ∀ pm cdv ct, bindArgs (lamFd q params body scope cl pm cdv ct) ⟨[], []⟩ = pure []) (hcell : ∀ x ∈ scope.names, x.2 ≠ .cell) (hco : scope.isCoroutine = false) (hgen : scope.isGenerator = false) (hk : scope.kind = .function)
    (h : ∀ (c' : Cx) (L' : Addr) (cdv : Value), c'.Ok (lv + 1) → c'.L = L' → TV c' (envX q scope L' f cdv cl) [] ω body (FinE Φ)) : CV lv f [] ω Φ := by
  intro c I mu s vals R hc X own nd nL ra k1 k2
  cases ra
  obtain ⟨pp, loose, mean, mg, mb, T⟩ := hc.st.T
  obtain ⟨o, m1, pm, cdv, ct, rfl, hcr⟩ := own _ hm
  have hX := X.kin hc
  refine lam_call (by have := hc.depth; unfold recursionLimit; omega) (X.ow _ m1) (codeRec_mono X.im hcr) (hbind _ _ _) hcell (T.nolimit.keeps fun b o e => X.im _ _ (X.gi _ _ e)) hk hco hgen fun h₁ hns hk₁ => ?_
  have hfr : s.heap.get? s.heap.objs.size = none := Heap.get?_none_of_le (Nat.le_refl _)
  obtain ⟨oN, hN, nN⟩ := ns_obj hns
  have dN' : isDict oN := let ⟨es, ep, h, _⟩ := nN; ⟨es, ep, h⟩
  obtain ⟨oL, hL, dL, I₁, le₁, X₁⟩ := X.enter (env' := envX q scope s.heap.objs.size f cdv cl) (tk := s.toks) (news := [(s.heap.objs.size, oN)]) hk₁ (by simp [hN, hfr]) (by simp) (.head _) dN' (fun p hp => by rcases List.mem_singleton.mp hp with rfl; exact X.big hc)
  have ok₁ := actv_ok hc (env' := envX q scope s.heap.objs.size f cdv cl) (oL := oL) (L' := s.heap.objs.size) dL hk rfl rfl rfl
  have nk : ∀ a ∈ keys ω, a ≠ s.heap.objs.size := fun a ha e => by
    obtain ⟨p, hp, rfl⟩ := List.mem_map.mp ha
    obtain ⟨o, h1, _⟩ := own p hp
    have := X.ow _ h1
    rw [e, hfr] at this; cases this
  have nkL : ∀ a ∈ keys ω, a ≠ c.L := fun a ha e => nL (e ▸ ha)
  have W₁ : Wd (actv c (envX q scope s.heap.objs.size f cdv cl) oL s.heap.objs.size) (envX q scope s.heap.objs.size f cdv cl) I₁ [] ([] ++ ω) ([(s.heap.objs.size, oN)] ++ dropL c.L mu) := by
    refine ⟨⟨hk, rfl, rfl, rfl⟩, (fun x av' e => by cases e), ⟨oN, _, .head _, nN⟩, fun p hp => ?_, fun p hp => ?_, nd⟩
    · obtain ⟨o, h1, h2⟩ := own p hp
      exact ⟨o, .tail _ (dropL_mem.mpr ⟨h1, nkL _ (List.mem_map_of_mem hp)⟩), h2.mono le₁⟩
    · exact ⟨nk _ (List.mem_map_of_mem hp), nk _ (List.mem_map_of_mem hp)⟩
  refine body_core (P := fun Q E => wpAny (model prg c.w) (c.A.deeper (envX q scope s.heap.objs.size f cdv cl)) (eval body (envX q scope s.heap.objs.size f cdv cl)) (fun v s' => Q (.ret v) s') E { s with heap := h₁ })
    (ωc := []) hc X hL dL rfl (.head _) (.head _) (fun p hp => by rcases List.mem_singleton.mp hp with rfl; exact hfr) (fun a ha => by cases ha) le₁ X₁ W₁ (fun Q E kk => ?_) k1 k2
  exact h _ _ cdv ok₁ rfl I₁ _ _ _ E X₁ W₁ ⟨fun v av ω' s' I' mu' g r p => kk.on (.ret v) (.ret av) [] ω' s' I' mu' g.toS r p, fun e C ω' s' I' mu' g x p => kk.up e C [] ω' s' I' mu' g.toS x p⟩

section
variable {c : Cx} {env : Env} {ρ ρ₁ ρ₂ ρ' : Vs} {ω ω₁ ω₂ ω₃ ω' ωf rest : Os} {Ψ Ψ' : Fl → Vs → Os → Prop} {Φ Φ' : Os → Oc → Prop}
/-- a call of a value that is a lambda -/
theorem TV.callL {fe : Expr} {p : Pos} {lv f : Nat} {q : Str} {params : Arguments} {body : Expr} {scope : Scope} {cl : List (Str × Addr)} (hc : c.Ok lv) (hf : TE c env ρ ω fe ω₂ (vR f)) (hm : (f, lamA q params body scope cl) ∈ ω₂)
    (hs : CV lv f [] ωf Φ) (hp : ω₂.Perm (ωf ++ rest)) (hp' : ∀ ωf' a, Φ ωf' a → ∃ ω₃, (ωf' ++ rest).Perm ω₃ ∧ Φ' ω₃ a)
    (he : eval (.Call fe [] [] p) env = (do callWith p (← eval fe env) [] (backTo p (starEach [] env)) (backToKw p (keywordEach [] env))) := by rfl) :
    TV c env ρ ω (.Call fe [] [] p) Φ' := fun I mu s Q E X W k => by
  refine Call_ (hf I mu s _ _ X W fun v s₁ I₁ mu₁ g₁ r₁ => ?_) he
  have r₁ : v = .ref f := r₁
  subst r₁
  obtain ⟨o, m1, pm, cdv, ct, rfl, -⟩ := g₁.wd.own _ hm
  have ho := g₁.st.ow _ m1
  refine callWith_of (P := fun h => h.get? f = some (lamO q params body scope cl pm cdv ct)) rfl (fun h e => ⟨.frame, .inl rfl, (Looks.ld (part := none) e).andThen .now⟩) (evalArgs_nil3 ⟨ho, ?_⟩)
  exact wp_cs hc g₁.st g₁.wd hs hp hp' .nil (k.after g₁)
end
end Mine
set_option Elab.async false
set_option maxRecDepth 100000
set_option linter.unusedVariables false
namespace Mine
open PySem PySem.W PySem.Calls PyProof.Rows PySem.Spec PyProof.Rows.LCg

/-! # try and except -/
section
variable {c : Cx} {env : Env} {ρ ρ₁ ρ₂ ρ' : Vs} {ω ω₁ ω₂ ω₃ ω' ωf rest : Os} {Ψ Ψ' Ψ₁ : Fl → Vs → Os → Prop} {Φ Φ' : Os → Oc → Prop}

theorem note_exc {w : World} {A : Around} {E : Value → Shared → Prop} {s : Shared} {B : Heap} {e0 : Env} {outer : List Env} {L e C : Addr} {a0 : Value} {Q : Unit → Shared → Prop} (hfr : A.frames = some (e0 :: outer)) (hf : e0.frame = some L) (x3 : B.StaysIn s.heap) (x4 : B.get? e = none) (x5 : s.heap.FunFrames B (e0 :: outer))
    (x6 : (∃ oe vs, s.heap.get? e = some oe ∧ oe.cls = .ref C ∧ oe.data = .fields vs ∧ vs[1]? = some .none ∧ vs[0]? = some a0) ∨ s.heap.TracedW B e (.ref C) a0)
    (h : ∀ h', Heap.HeldW B (e0 :: outer) e (.ref C) a0 L h' → s.heap.UpToSlots h' → Q () { s with heap := h' }) : wpAny (model prg w) A (noteFrame (.ref e) e0) Q E s := by
  rcases x6 with ⟨oe, vs, h1, h2, h3, h4, h5⟩ | x6
  · unfold noteFrame
    simp only [hf]
    refine wpAny_bind (wpAny_field h1 h3 h4 ?_)
    rw [if_neg (by decide)]
    refine wpAny_entryW hfr x5 hf h1 x3 x4 h3 (Array.getElem?_eq_some_iff.mp h4).1 h5 fun h' ⟨k1, k2, k3, k4⟩ => ?_
    rw [h2] at k3
    exact h h' ⟨k1, x4, k2, k3⟩ k4
  · exact wpAny_looks_onW hfr hf ⟨x3, x4, x5, x6⟩ h

/-- a frame's slots have turned -/
theorem S.slots {I B : Heap} {mu : Led} {s : Shared} {lv : Nat} {h' : Heap} (hc : c.Ok lv) (X : S c I mu s) (x1 : HLe I B) (x2 : ∀ p ∈ mu, p.1 ≠ c.L → B.get? p.1 = some p.2) (k1 : B.StaysIn h') (k2 : s.heap.UpToSlots h') :
    ∃ oL sl, (c.L, oL) ∈ mu ∧ S c I (updL c.L { oL with slots := sl } mu) { s with heap := h' } := by
  have nf : ∀ o : Obj, isDict o → ∀ vs, o.data ≠ .fields vs := fun o ⟨es, n, d⟩ vs q => by rw [d] at q; cases q
  obtain ⟨oL, hL, dL⟩ := X.fr
  obtain ⟨sl, hsl⟩ := k2 _ _ (X.ow _ hL) (nf _ dL)
  refine ⟨oL, sl, hL, X.gi, fun b o q => k1 _ _ (x1 _ _ q), fun p hp => ?_, fun p hp => ?_, by rw [updL_keys]; exact X.nd, ⟨_, updL_self hL, dL⟩, fun p hp => ?_, X.gens, X.os, fun p hp => ?_⟩
  · rcases updL_cases hp with rfl | ⟨hp, n⟩
    · exact hsl
    · exact k1 _ _ (x2 p hp n)
  · rcases updL_cases hp with rfl | ⟨hp, n⟩
    · exact X.off (c.L, oL) hL
    · exact X.off p hp
  · obtain ⟨⟨sl₁, g1⟩, g2, g3⟩ := X.fo p hp
    obtain ⟨e', _, _, _, de⟩ := All2.rest' hc.outs p hp
    obtain ⟨sl₂, g1'⟩ := k2 _ _ g1 (nf _ de)
    exact ⟨⟨sl₂, g1'⟩, g2, by rw [updL_keys]; exact g3⟩
  · rcases updL_cases hp with rfl | ⟨hp, n⟩
    · exact X.hi (c.L, oL) hL
    · exact X.hi p hp
theorem Wd.slots {I : Heap} {mu : Led} {oL : Obj} {sl : Array (Option Value)} (W : Wd c env I ρ ω mu) (hL : (c.L, oL) ∈ mu) (nd : (mu.map (·.1)).Nodup) : Wd c env I ρ ω (updL c.L { oL with slots := sl } mu) ∧ Fp c (In ω) mu (updL c.L { oL with slots := sl } mu) := by
  have fp : Fp c (fun _ => False) mu (updL c.L { oL with slots := sl } mu) := ⟨fun p hp _ n => updL_mem hp n, fun o ho _ => ⟨sl, by
      have e : o = oL := by
        have : ∀ {m : Led}, (m.map (·.1)).Nodup → (c.L, o) ∈ m → (c.L, oL) ∈ m → o = oL := by
          intro m
          induction m with
          | nil => intro _ h; cases h
          | cons p r ih =>
            intro n h1 h2
            obtain ⟨n1, n2⟩ := List.nodup_cons.mp (show (p.1 :: r.map (·.1)).Nodup from n)
            rcases List.mem_cons.mp h1 with e1 | m1 <;> rcases List.mem_cons.mp h2 with e2 | m2
            · rw [← e1] at e2; exact (congrArg Prod.snd e2).symm
            · exact absurd (List.mem_map.mpr ⟨(c.L, oL), m2, by rw [← e1]⟩) n1
            · exact absurd (List.mem_map.mpr ⟨(c.L, o), m1, by rw [← e2]⟩) n1
            · exact ih n2 m1 m2
        exact this nd ho hL
      rw [e]; exact updL_self hL⟩, fun p hp => by rw [updL_keys]; exact List.mem_map_of_mem hp⟩
  exact ⟨W.step (HLe.refl I) fp (fun h => h) (fun q hq => by
    obtain ⟨o, h1, h2⟩ := W.own q hq
    exact ⟨o, updL_mem h1 (W.sep q hq).2, h2⟩) (Nw.refl _ _) W.nd ⟨_, hL⟩, fp.mono fun _ h => h.elim⟩
theorem Wd.within {I : Heap} {mu : Led} {A : Around} (W : Wd c env I ρ ω mu) : Wd (Mine.within c A) env I ρ ω mu := ⟨⟨W.ok.kind, W.ok.glob, W.ok.bins, W.ok.frame⟩, W.vars, W.loc, W.own, W.sep, W.nd⟩
theorem Wd.without {I : Heap} {mu : Led} {A : Around} (W : Wd (Mine.within c A) env I ρ ω mu) : Wd c env I ρ ω mu := ⟨⟨W.ok.kind, W.ok.glob, W.ok.bins, W.ok.frame⟩, W.vars, W.loc, W.own, W.sep, W.nd⟩
theorem GoS.without {I I' : Heap} {mu mu' : Led} {s' : Shared} {A : Around} (g : GoS (Mine.within c A) env ω ρ' ω' I mu I' mu' s') : GoS c env ω ρ' ω' I mu I' mu' s' := ⟨g.st.without, g.le, g.fp.without, g.nw, g.wd.without⟩

theorem exc_match {w : World} {A : Around} {E : Value → Shared → Prop} {s : Shared} {e C D : Addr} {ob : Obj} {b : Bool} {Q : Bool → Shared → Prop} (X : (KK w).In s.heap) (he : s.heap.get? e = some ob) (hcl : ob.cls = .ref C) (h1 : subIn (KK w) (.ref C) (.ref D) = some b)
    (h2 : instIn (KK w) (.ref D) (.type "tuple") = some false) (h3 : peek (KK w) ⟨prg, w.params⟩ (isExcClass (.ref D)) = some true) (h : Q b s) : wpAny (model prg w) A (excMatches (.ref e) (.ref D)) Q E s := by
  have i1 := looks_subIn (M := model prg w) X h1
  have i2 := looks_instIn (M := model prg w) X h2
  have i3 : Looks (model prg w) s.heap (isExcClass (.ref D)) true := Looks.of_peek X h3
  have i4 : Looks (model prg w) s.heap (typeOf (.ref e)) (.ref C) := by
    rw [← hcl]; exact (Looks.ld he).andThen .now
  unfold excMatches
  refine wpAny_bind (i2.here ?_)
  simp only [Bool.false_eq_true, if_false]
  refine wpAny_bind (wpAny_pure ?_)
  simp only [List.forIn_cons, List.forIn_nil]
  refine wpAny_bind (wpAny_bind (wpAny_bind (i3.here ?_)))
  simp only [Bool.not_true, Bool.false_eq_true, if_false]
  refine wpAny_pure (wpAny_pure (wpAny_bind (i4.here (wpAny_bind (wpAny_bind (wpAny_bind (i1.here ?_)))))))
  cases b with
  | true =>
    simp only [if_true]
    exact wpAny_pure (wpAny_pure (wpAny_pure h))
  | false =>
    simp only [Bool.false_eq_true, if_false]
    exact wpAny_pure (wpAny_pure (wpAny_pure h))

theorem TX.try2 {lv : Nat} {body r1 r2 : List Stmt} {b1 b2 : Stmt} {n1 n2 : Str} {q1 q2 p1 p2 pos : Pos} {C1 C2 : Addr} (hc : c.Ok lv) (hbody : TS c env ρ ω body Ψ₁) (hn : ∀ r o, ¬ Ψ₁ .next r o) (hr : ∀ a r o, Ψ₁ (.ret a) r o → Ψ (.ret a) r o)
    (hx : ∀ C r o, Ψ₁ (.exc C) r o → (C = C1 ∧ ∀ A, TS (Mine.within c A) env r o (b1 :: r1) (fun f r o => (∀ C, f ≠ .exc C) ∧ Ψ f r o)) ∨ (C = C2 ∧ ∀ A, TS (Mine.within c A) env r o (b2 :: r2) (fun f r o => (∀ C, f ≠ .exc C) ∧ Ψ f r o)))
    (hself : env = c.env) (e1 : nsIn (KK c.w) mainGlobals n1 = some (some (.ref C1))) (e2 : nsIn (KK c.w) mainGlobals n2 = some (some (.ref C2))) (k1 : env.kindOf n1 = some .globalImplicit) (k2 : env.kindOf n2 = some .globalImplicit)
    (s11 : subIn (KK c.w) (.ref C1) (.ref C1) = some true) (s21 : subIn (KK c.w) (.ref C2) (.ref C1) = some false) (s22 : subIn (KK c.w) (.ref C2) (.ref C2) = some true)
    (t1 : instIn (KK c.w) (.ref C1) (.type "tuple") = some false) (t2 : instIn (KK c.w) (.ref C2) (.type "tuple") = some false)
    (x1 : peek (KK c.w) ⟨prg, c.w.params⟩ (isExcClass (.ref C1)) = some true) (x2 : peek (KK c.w) ⟨prg, c.w.params⟩ (isExcClass (.ref C2)) = some true)
    (d1 : (n1 == ("__debug__" : Str)) = false := by decide) (d2 : (n2 == ("__debug__" : Str)) = false := by decide) :
    TX c env ρ ω (.Try body [.ExceptHandler (some (.Name n1 q1)) none (b1 :: r1) p1, .ExceptHandler (some (.Name n2 q2)) none (b2 :: r2) p2] [] [] pos) Ψ := fun I mu s Q E X W k => by
  refine wpAny_Try_except (hbody I mu s _ _ X W ⟨fun f fl ρ' ω' s₁ I₁ mu₁ g r p => ?_, fun e C ρ' ω' s₁ I₁ mu₁ g x p => ?_⟩)
  · cases f <;> cases fl <;> first | exact r.elim | skip
    · exact (hn _ _ p).elim
    · exact k.on _ _ _ _ _ _ _ g r (hr _ _ _ p)
  have hfr : c.A.frames = some (env :: c.outer) := by rw [hself]; exact hc.frames
  have hf : env.frame = some c.L := g.wd.ok.frame
  obtain ⟨B, a0, y1, y2, y3, y4, y5, y6⟩ := x
  rw [← hself] at y5
  refine note_exc hfr hf y3 y4 y5 y6 fun h₂ hh₂ u₂ => wpAny_landsW hh₂ fun h₃ hf₃ u₃ => ?_
  have u3 : s₁.heap.UpToSlots h₃ := u₂.trans u₃
  obtain ⟨ob, ho, hcl⟩ := hf₃.there
  obtain ⟨oL, sl, hL, X₃⟩ := g.st.slots hc y1 y2 hf₃.1 u3
  obtain ⟨W₃, fp₃⟩ := g.wd.slots (sl := sl) hL g.st.nd
  have G₃ : GoS c env ω' ρ' ω' I₁ mu₁ I₁ _ { s₁ with heap := h₃ } := ⟨X₃, HLe.refl _, fp₃.mono fun _ h => .inl h, Nw.refl _ _, W₃⟩
  have KX := X₃.kin hc
  obtain ⟨pp, loose, mean, mg, mb, T⟩ := hc.st.T
  have name : ∀ {n : Str} {D : Addr} {q : Pos} {A : Around} {Q : Value → Shared → Prop} {E : Value → Shared → Prop}, nsIn (KK c.w) mainGlobals n = some (some (.ref D)) → env.kindOf n = some .globalImplicit → (n == ("__debug__" : Str)) = false → Q (.ref D) { s₁ with heap := h₃ } →
      wpAny (model prg c.w) A (eval (.Name n q) env) Q E { s₁ with heap := h₃ } := fun e k d h => by
    refine Name_function_global g.wd.ok.kind k ?_ d
    refine loadGlobal_global (mg := mg) ?_ (mg_of hc.st.X T.g e) h
    rw [g.wd.ok.glob]
    exact T.g.keeps fun b o q => X₃.im _ _ (X₃.gi _ _ q)
  have suite : ∀ (b : Stmt) (r : List Stmt) (p : Pos) (R : Result → Shared → Prop), (∀ A, TS (Mine.within c A) env ρ' ω' (b :: r) (fun f r o => (∀ C, f ≠ .exc C) ∧ Ψ f r o)) → (∀ f s', Q f s' → R (.ok f) s') →
      codeAny (model prg c.w) (c.A.mark (some (.ref e))) (.handlers (.ref e) [.ExceptHandler none none (b :: r) p] env) R { s₁ with heap := h₃ } := fun b r p R hb hR => by
    refine codeAny_handlers_suite (lands_againW hf₃ fun h₄ hf₄ u₄ => ?_)
    obtain ⟨oL', sl', hL', X₄⟩ := g.st.slots hc y1 y2 hf₄.1 (u3.trans u₄)
    obtain ⟨W₄, fp₄⟩ := g.wd.slots (sl := sl') hL' g.st.nd
    have G₄ : GoS c env ω' ρ' ω' I₁ mu₁ I₁ _ { s₁ with heap := h₄ } := ⟨X₄, HLe.refl _, fp₄.mono fun _ h => .inl h, Nw.refl _ _, W₄⟩
    refine hb (c.A.mark (some (.ref e))) _ _ _ _ _ X₄.within W₄.within ⟨fun f fl ρ₅ ω₅ s₅ I₅ mu₅ g₅ r₅ p₅ => ?_, fun e C ρ₅ ω₅ s₅ I₅ mu₅ g₅ x₅ p₅ => (p₅.1 C rfl).elim⟩
    exact hR _ _ (k.on _ _ _ _ _ _ _ ((g.trans G₄).trans g₅.without) r₅ p₅.2)
  rcases hx C ρ' ω' p with ⟨rfl, hb⟩ | ⟨rfl, hb⟩
  · refine wpAny_handleBy_cons (codeAny_handlers_test (name e1 k1 d1 ?_)) (by intro q; cases q)
    refine exc_match KX ho hcl s11 t1 x1 ?_
    exact suite b1 r1 _ _ hb fun f s' h => h
  · refine wpAny_handleBy_cons (codeAny_handlers_test (name e1 k1 d1 ?_)) (by intro q; cases q)
    refine exc_match KX ho hcl s21 t1 x1 ?_
    refine wpAny_handleBy_cons (codeAny_handlers_test (name e2 k2 d2 ?_)) (by intro q; cases q)
    refine exc_match KX ho hcl s22 t2 x2 ?_
    exact suite b2 r2 _ _ hb fun f s' h => h
end
end Mine
set_option Elab.async false
set_option maxRecDepth 100000
set_option linter.unusedVariables false
namespace Mine
open PySem PySem.W PySem.Calls PyProof.Rows PySem.Spec PyProof.Rows.LCg

/-- a def with defaults -/
theorem CV.defD {lv : Nat} {f : Addr} {args dav : List AV} {dv : List Value} {ω : Os} {Φ : Os → Oc → Prop} {name qual : Str} {params : Arguments} {body : List Stmt} {scope : Scope} {dV kV doc pm cdv ct oc : Value} {an od : Option Addr} {osl : Array (Option Value)} {xs : List Str}
    (ho : ∀ w, (KK w).lookup f = some ⟨oc, od, .func (fnX name qual params body scope [] dV kV doc pm an cdv ct), osl⟩) (hcd : ∀ w, codeIn (KK w) cdv qual = true)
    (hbind : ∀ (w : World) (S : Setting) (vals : List Value), vals.length = args.length → peek (KK w) S (bindArgs (fnX name qual params body scope [] dV kV doc pm an cdv ct) ⟨vals, []⟩) = some (xs.zip (vals ++ dv)))
    (hd : ∀ I, All2 (Rv I) dv dav)
    (hloc : ∀ x ∈ xs, scope.names.lookup x = some .local) (hnd : xs.Nodup) (hcell : ∀ x ∈ scope.names, x.2 ≠ .cell) (hlv : lv ≤ 15)
    (hco : scope.isCoroutine = false) (hgen : scope.isGenerator = false) (hk : scope.kind = .function)
    (h : ∀ (c' : Cx) (L' : Addr), c'.Ok (lv + 1) → c'.L = L' → TS c' (envX qual scope L' f cdv []) (xs.zip (args ++ dav)) ω body (Fin Φ)) :
    CV lv f args ω Φ := by
  intro c I mu s vals R hc X own nd nL ra k1 k2
  have hX := X.kin hc
  refine call_plain (vals := vals ++ dv) (args := args ++ dav) hc X own nd nL (ra.append (hd I)) ⟨⟨_, hX _ _ (ho c.w), rfl⟩, codeRec_of hX (hcd c.w)⟩ (fun M A E Q hq => ?_) hloc hnd hcell hlv hco hgen hk (fun c' L' a b _ => h c' L' a b) k1 k2
  exact (Looks.of_peek (M := M) hX (hbind c.w ⟨M.prog, M.w.params⟩ vals ra.length)).here hq

section
variable {c : Cx} {env : Env} {ρ ρ₁ ρ₂ ρ' : Vs} {ω ω₁ ω₂ ω₃ ω' ωf rest : Os} {Ψ Ψ' Ψ₁ : Fl → Vs → Os → Prop} {Φ Φ' : Os → Oc → Prop}

theorem call_class {lv : Nat} {C fI : Addr} {avs : List AV} {I : Heap} {mu : Led} {s : Shared} {vs : List Value} {Φ₀ : Addr → Addr → Os → Oc → Prop} {Q : Value → Shared → Prop} {E : Value → Shared → Prop} (hc : c.Ok lv) (X : S c I mu s) (W : Wd c env I ρ ω₂ mu) (ra : All2 (Rv I) vs avs)
    (hm : makesIn (KK c.w) C = true) (hi : findIn (KK c.w) (.ref C) "__init__" = some (some (.ref fI))) (hft : typeIn (KK c.w) (.ref fI) = some (.type "function"))
    (hs : ∀ x dx, x ≠ dx → CV (lv + 1) fI (vR x :: avs) [(x, .raw (instObj C dx)), (dx, .ns 0 [])] (Φ₀ x dx)) (hp : ∀ x dx o a, Φ₀ x dx o a → a = .val dN ∧ Φ (o ++ ω₂) (.val (vR x)))
    (k : KE c env ρ ω₂ I mu Φ Q E) : wpAny (model prg c.w) c.A (call (.ref C) vs) Q E s := by
  obtain ⟨hp', gs, dr, tk, os⟩ := s
  have KX := X.kin hc
  refine wpAny_call (make_core (makes_of KX hm) (looks_findIn KX hi) (fun self => bind_fn KX self hft) (.inl rfl) ?_)
  obtain ⟨I₁, g₁, n₁⟩ := go_new (o := emptyDict) (ao := .ns 0 []) (tk := tk) (dr := dr) hc X W rfl ⟨#[], 0, rfl, Nat.le_refl _, fun e he => by simp at he, fun x => rfl⟩
  obtain ⟨I₂, g₂, n₂⟩ := go_new (o := instObj C hp'.objs.size) (ao := .raw (instObj C hp'.objs.size)) (tk := tk) (dr := dr) hc g₁.st g₁.wd rfl rfl
  have ez : (hp'.push emptyDict).objs.size = hp'.objs.size + 1 := by rw [Heap.size_push]
  have G := g₁.trans g₂
  have W₂ := G.wd
  have pp : (((hp'.push emptyDict).objs.size, AO.raw (instObj C hp'.objs.size)) :: (hp'.objs.size, AO.ns 0 []) :: ω₂).Perm ([(hp'.objs.size + 1, .raw (instObj C hp'.objs.size)), (hp'.objs.size, .ns 0 [])] ++ ω₂) := by
    rw [ez]; exact .refl _
  obtain ⟨o1, o2, o3⟩ := own_part W₂ pp
  have cu : (Code.builtin "type.__call__" ⟨.ref C :: vs, []⟩).cUnits ≤ 200 := by
    rw [show (Code.builtin "type.__call__" ⟨.ref C :: vs, []⟩).cUnits = (Code.builtin "type.__call__" ⟨[], []⟩).cUnits from rfl]
    decide +kernel
  refine hs (hp'.objs.size + 1) hp'.objs.size (Nat.succ_ne_self _) (Mine.within c (c.A.under (.builtin "type.__call__" ⟨.ref C :: vs, []⟩))) I₂ _ _ _ _ (within_ok hc rfl rfl (by show c.A.depth + 1 ≤ _; omega) (by show c.A.units + (Code.builtin "type.__call__" ⟨.ref C :: vs, []⟩).cUnits ≤ _; omega))
    G.st.within o1 o2 o3 (.cons rfl (ra.imp fun _ _ h => (h.mono g₁.le).mono g₂.le)) (fun v' av ω' s' I' mu' A r p => ?_) fun e C' ω' s' I' mu' A x p => nomatch (hp _ _ _ _ p).1
  obtain ⟨pe, pf⟩ := hp _ _ _ _ p
  cases pe
  cases r.none
  refine ⟨rfl, ?_⟩
  have G' := go_call W₂ G.st.kL pp (.refl _) A.st.without A.le A.fp.without A.nw A.own A.nd
  exact k.on (.ref (hp'.objs.size + 1)) (vR (hp'.objs.size + 1)) _ _ _ _ (G.trans G') (show Rv I' (.ref (hp'.objs.size + 1)) (vR (hp'.objs.size + 1)) from rfl) pf

theorem TV.cls {fe : Expr} {es : List Expr} {p : Pos} {lv : Nat} {C fI : Addr} {avs : List AV} {Φ₀ : Addr → Addr → Os → Oc → Prop} (hc : c.Ok lv) (hf : TE c env ρ ω fe ω₁ (vR C)) (ha : TEs c env ρ ω₁ es ω₂ avs) (hk : keepIn (KK c.w) (.ref C) = true)
    (hm : makesIn (KK c.w) C = true) (hi : findIn (KK c.w) (.ref C) "__init__" = some (some (.ref fI))) (hft : typeIn (KK c.w) (.ref fI) = some (.type "function"))
    (hs : ∀ x dx, x ≠ dx → CV (lv + 1) fI (vR x :: avs) [(x, .raw (instObj C dx)), (dx, .ns 0 [])] (Φ₀ x dx)) (hp : ∀ x dx o a, Φ₀ x dx o a → a = .val dN ∧ Φ (o ++ ω₂) (.val (vR x)))
    (hne : ∃ e r, es = e :: r ∧ starEach es env = (false, eval e env) :: starEach r env ∧ ∀ q, (backTo q (starEach r env)).any (·.1) = false := by exact ⟨_, _, rfl, rfl, fun _ => rfl⟩)
    (he : eval (.Call fe es [] p) env = (do callWith p (← eval fe env) [] (backTo p (starEach es env)) (backToKw p (keywordEach [] env))) := by rfl) :
    TV c env ρ ω (.Call fe es [] p) Φ := fun I mu s Q E X W q => by
  obtain ⟨e, r, rfl, h1, h2⟩ := hne
  refine Call_ (hf I mu s _ _ X W fun v s₁ I₁ mu₁ g₁ r₁ => ?_) he
  have r₁ : v = .ref C := r₁
  subst r₁
  refine callWith_K (K := KK c.w) (g₁.st.kin hc) hk (ha p _ _ _ _ _ g₁.st g₁.wd fun vs s₂ I₂ mu₂ g₂ r₂ => ⟨g₂.st.kin hc, ?_⟩) h1 (h2 p)
  exact call_class hc g₂.st g₂.wd r₂ hm hi hft hs hp (q.after (g₁.trans g₂))
theorem TV.cls0 {fe : Expr} {p : Pos} {lv : Nat} {C fI : Addr} {Φ₀ : Addr → Addr → Os → Oc → Prop} (hc : c.Ok lv) (hf : TE c env ρ ω fe ω₂ (vR C)) (hk : keepIn (KK c.w) (.ref C) = true)
    (hm : makesIn (KK c.w) C = true) (hi : findIn (KK c.w) (.ref C) "__init__" = some (some (.ref fI))) (hft : typeIn (KK c.w) (.ref fI) = some (.type "function"))
    (hs : ∀ x dx, x ≠ dx → CV (lv + 1) fI [vR x] [(x, .raw (instObj C dx)), (dx, .ns 0 [])] (Φ₀ x dx)) (hp : ∀ x dx o a, Φ₀ x dx o a → a = .val dN ∧ Φ (o ++ ω₂) (.val (vR x)))
    (he : eval (.Call fe [] [] p) env = (do callWith p (← eval fe env) [] (backTo p (starEach [] env)) (backToKw p (keywordEach [] env))) := by rfl) :
    TV c env ρ ω (.Call fe [] [] p) Φ := fun I mu s Q E X W q => by
  refine Call_ (hf I mu s _ _ X W fun v s₁ I₁ mu₁ g₁ r₁ => ?_) he
  have r₁ : v = .ref C := r₁
  subst r₁
  exact callWith_K0 (K := KK c.w) (g₁.st.kin hc) hk (call_class hc g₁.st g₁.wd .nil hm hi hft hs hp (q.after g₁))
end
end Mine
set_option Elab.async false
set_option maxRecDepth 100000
set_option linter.unusedVariables false
namespace Mine
open PySem PySem.W PySem.Calls PyProof.Rows PySem.Spec PyProof.Rows.LCg

/-! # Groups: what one is, as it lies -/
section
variable {K β : Type} [DecidableEq K]
noncomputable def getP (h : List (K × β)) (k : K) : Option β := (h.find? fun kv => decide (kv.1 = k)).map (·.2)
noncomputable def storedP (h : List (K × β)) (k : K) (v : β) : List (K × β) := if h.any (fun kv => decide (kv.1 = k)) then h.map (fun kv => if kv.1 = k then (kv.1, v) else kv) else h ++ [(k, v)]
noncomputable def withoutP (h : List (K × β)) (k : K) : List (K × β) := h.filter fun kv => decide (kv.1 ≠ k)
noncomputable def mapV (f : β → AV) (h : List (K × β)) : List (K × AV) := h.map fun p => (p.1, f p.2)
theorem getA_mapV (f : β → AV) (h : List (K × β)) (k : K) : getA (mapV f h) k = (getP h k).map f := by
  unfold getA getP mapV
  rw [List.find?_map, Option.map_map, Option.map_map]
  rfl
theorem storedA_mapV (f : β → AV) (h : List (K × β)) (k : K) (v : β) : storedA (mapV f h) k (f v) = mapV f (storedP h k v) := by
  unfold storedA storedP mapV
  rw [List.any_map]
  by_cases e : (h.any fun kv => decide (kv.1 = k)) = true
  · rw [if_pos e, if_pos (by exact e), List.map_map, List.map_map]
    refine List.map_congr_left fun p _ => ?_
    show (if p.1 = k then (p.1, f v) else (p.1, f p.2)) = ((if p.1 = k then (p.1, v) else p).1, f (if p.1 = k then (p.1, v) else p).2)
    split <;> rfl
  · rw [if_neg e, if_neg (by exact e), List.map_append]
    rfl
theorem withoutA_mapV (f : β → AV) (h : List (K × β)) (k : K) : withoutA (mapV f h) k = mapV f (withoutP h k) := by
  unfold withoutA withoutP mapV
  rw [List.filter_map]
  rfl
theorem mapV_len (f : β → AV) (h : List (K × β)) : (mapV f h).length = h.length := by simp [mapV]
theorem mapV_keys (f : β → AV) (h : List (K × β)) : (mapV f h).map (·.1) = h.map (·.1) := by simp [mapV]
end

structure GG where
  g : Addr
  dx : Addr
  dh : Addr
  dn : Addr
  ds : Addr
  lt : Addr
  op : Int
  cl : Option Int
  sy : Option Int
  la : Int
  lim : Option Int
  holds : List (Int × Int)
  nm : List (Int × Addr × List Str)
  spent : List (Int × Int)
  tick : List (Int × Int)
  nt : Int
noncomputable def pI (p : Int × Int) : PyData := .tuple [.int p.1, .int p.2]
noncomputable def GG.fs (G : GG) : List (Str × AV) := [("open", dI G.op), ("closing", .d (oI G.cl)), ("syncing", .d (oI G.sy)), ("last", dI G.la), ("limit", .d (oI G.lim)), ("holds", vR G.dh), ("names", vR G.dn), ("spent", vR G.ds), ("tickets", vR G.lt), ("next_ticket", dI G.nt)]
noncomputable def trueD (xs : List Str) : List (Str × AV) := xs.map fun x => (x, dB true)
noncomputable def inn (nm : List (Int × Addr × List Str)) : Os := nm.map fun p => (p.2.1, AO.sdict (trueD p.2.2))
/-- six things and the rest -/
noncomputable def os6 (g dx dh dn ds lt : Addr) (a0 a1 a2 a3 a4 a5 : AO) (r : Os) : Os := (g, a0) :: (dx, a1) :: (dh, a2) :: (dn, a3) :: (ds, a4) :: (lt, a5) :: r
noncomputable def GG.os (G : GG) : Os := os6 G.g G.dx G.dh G.dn G.ds G.lt (.raw (instObj 206 G.dx)) (.ns 10 G.fs) (.idict (mapV dI G.holds)) (.idict (mapV (fun p => vR p.1) G.nm)) (.idict (mapV dI G.spent)) (.list (G.tick.map fun t => .d (pI t))) (inn G.nm)
theorem updO_cons_eq (a : Addr) (x y : AO) (r : Os) : updO a x ((a, y) :: r) = (a, x) :: updO a x r := by simp [updO]
theorem updO_cons_ne {a b : Addr} (h : b ≠ a) (x y : AO) (r : Os) : updO a x ((b, y) :: r) = (b, y) :: updO a x r := by simp [updO, h]
theorem updO_no {a : Addr} (x : AO) : ∀ {r : Os}, a ∉ keys r → updO a x r = r
  | [], _ => rfl
  | (b, y) :: r, h => by
    have h' : a ≠ b ∧ a ∉ keys r := by simpa [keys] using h
    rw [updO_cons_ne (Ne.symm h'.1), updO_no x h'.2]
section
variable {g dx dh dn ds lt : Addr} {a0 a1 a2 a3 a4 a5 : AO} {r : Os}
structure Nd6 (g dx dh dn ds lt : Addr) (r : Os) : Prop where
  h0 : g ≠ dx ∧ g ≠ dh ∧ g ≠ dn ∧ g ≠ ds ∧ g ≠ lt ∧ g ∉ keys r
  h1 : dx ≠ dh ∧ dx ≠ dn ∧ dx ≠ ds ∧ dx ≠ lt ∧ dx ∉ keys r
  h2 : dh ≠ dn ∧ dh ≠ ds ∧ dh ≠ lt ∧ dh ∉ keys r
  h3 : dn ≠ ds ∧ dn ≠ lt ∧ dn ∉ keys r
  h4 : ds ≠ lt ∧ ds ∉ keys r
  h5 : lt ∉ keys r
  h6 : (keys r).Nodup
theorem nd6 (n : (keys (os6 g dx dh dn ds lt a0 a1 a2 a3 a4 a5 r)).Nodup) : Nd6 g dx dh dn ds lt r := by
  have n : ([g, dx, dh, dn, ds, lt] ++ keys r).Nodup := n
  simp only [List.cons_append, List.nil_append, List.nodup_cons, List.mem_cons, not_or] at n
  obtain ⟨x0, x1, x2, x3, x4, x5, x6⟩ := n
  exact ⟨x0, x1, x2, x3, x4, x5, x6⟩
theorem up1 (n : Nd6 g dx dh dn ds lt r) (x : AO) : updO dx x (os6 g dx dh dn ds lt a0 a1 a2 a3 a4 a5 r) = os6 g dx dh dn ds lt a0 x a2 a3 a4 a5 r := by
  unfold os6
  rw [updO_cons_ne n.h0.1, updO_cons_eq, updO_cons_ne n.h1.1.symm, updO_cons_ne n.h1.2.1.symm, updO_cons_ne n.h1.2.2.1.symm, updO_cons_ne n.h1.2.2.2.1.symm, updO_no _ n.h1.2.2.2.2]
theorem up2 (n : Nd6 g dx dh dn ds lt r) (x : AO) : updO dh x (os6 g dx dh dn ds lt a0 a1 a2 a3 a4 a5 r) = os6 g dx dh dn ds lt a0 a1 x a3 a4 a5 r := by
  unfold os6
  rw [updO_cons_ne n.h0.2.1, updO_cons_ne n.h1.1, updO_cons_eq, updO_cons_ne n.h2.1.symm, updO_cons_ne n.h2.2.1.symm, updO_cons_ne n.h2.2.2.1.symm, updO_no _ n.h2.2.2.2]
theorem up3 (n : Nd6 g dx dh dn ds lt r) (x : AO) : updO dn x (os6 g dx dh dn ds lt a0 a1 a2 a3 a4 a5 r) = os6 g dx dh dn ds lt a0 a1 a2 x a4 a5 r := by
  unfold os6
  rw [updO_cons_ne n.h0.2.2.1, updO_cons_ne n.h1.2.1, updO_cons_ne n.h2.1, updO_cons_eq, updO_cons_ne n.h3.1.symm, updO_cons_ne n.h3.2.1.symm, updO_no _ n.h3.2.2]
theorem up4 (n : Nd6 g dx dh dn ds lt r) (x : AO) : updO ds x (os6 g dx dh dn ds lt a0 a1 a2 a3 a4 a5 r) = os6 g dx dh dn ds lt a0 a1 a2 a3 x a5 r := by
  unfold os6
  rw [updO_cons_ne n.h0.2.2.2.1, updO_cons_ne n.h1.2.2.1, updO_cons_ne n.h2.2.1, updO_cons_ne n.h3.1, updO_cons_eq, updO_cons_ne n.h4.1.symm, updO_no _ n.h4.2]
theorem up5 (n : Nd6 g dx dh dn ds lt r) (x : AO) : updO lt x (os6 g dx dh dn ds lt a0 a1 a2 a3 a4 a5 r) = os6 g dx dh dn ds lt a0 a1 a2 a3 a4 x r := by
  unfold os6
  rw [updO_cons_ne n.h0.2.2.2.2.1, updO_cons_ne n.h1.2.2.2.1, updO_cons_ne n.h2.2.2.1, updO_cons_ne n.h3.2.1, updO_cons_ne n.h4.1, updO_cons_eq, updO_no _ n.h5]
theorem up6 (n : Nd6 g dx dh dn ds lt r) {a : Addr} (ha : a ∈ keys r) (x : AO) : updO a x (os6 g dx dh dn ds lt a0 a1 a2 a3 a4 a5 r) = os6 g dx dh dn ds lt a0 a1 a2 a3 a4 a5 (updO a x r) := by
  have ne : ∀ {b : Addr}, b ∉ keys r → b ≠ a := fun h e => h (e ▸ ha)
  unfold os6
  rw [updO_cons_ne (ne n.h0.2.2.2.2.2), updO_cons_ne (ne n.h1.2.2.2.2), updO_cons_ne (ne n.h2.2.2.2), updO_cons_ne (ne n.h3.2.2), updO_cons_ne (ne n.h4.2), updO_cons_ne (ne n.h5)]
end
noncomputable def GG.In (G : GG) (ω : Os) : Prop := (G.g, AO.raw (instObj 206 G.dx)) ∈ ω ∧ (G.dx, AO.ns 10 G.fs) ∈ ω
theorem GG.in_os (G : GG) : G.In G.os := ⟨.head _, .tail _ (.head _)⟩
theorem GG.m_dh (G : GG) : (G.dh, AO.idict (mapV dI G.holds)) ∈ G.os := .tail _ (.tail _ (.head _))
theorem GG.m_dn (G : GG) : (G.dn, AO.idict (mapV (fun p => vR p.1) G.nm)) ∈ G.os := .tail _ (.tail _ (.tail _ (.head _)))
theorem GG.m_ds (G : GG) : (G.ds, AO.idict (mapV dI G.spent)) ∈ G.os := .tail _ (.tail _ (.tail _ (.tail _ (.head _))))
theorem GG.m_lt (G : GG) : (G.lt, AO.list (G.tick.map fun t => .d (pI t))) ∈ G.os := .tail _ (.tail _ (.tail _ (.tail _ (.tail _ (.head _)))))
theorem GG.m_in (G : GG) {k : Int} {a : Addr} {xs : List Str} (h : (k, a, xs) ∈ G.nm) : (a, AO.sdict (trueD xs)) ∈ G.os :=
  .tail _ (.tail _ (.tail _ (.tail _ (.tail _ (.tail _ (List.mem_map.mpr ⟨(k, a, xs), h, rfl⟩))))))
section
variable {c : Cx} {env : Env} {ρ : Vs} {ω ω₁ : Os} {e : Expr} {p : Pos} {lv : Nat}
theorem fl_open (w : World) : fldIn (KK w) 206 "open" = true := by kernel_rfl
theorem GG.f_open (G : GG) (hc : c.Ok lv) (ho : TE c env ρ ω e ω₁ (vR G.g)) (h : G.In ω₁) (hb : ∀ whole, attributeBase e "open" env whole = whole := by intro _; rfl) : TE c env ρ ω (.Attribute e "open" p) ω₁ (dI G.op) := TE.attr hc ho h.1 h.2 rfl (fl_open _) nofun hb
theorem st_open (w : World) : setIn (KK w) 206 "open" = true := by kernel_rfl
theorem fl_closing (w : World) : fldIn (KK w) 206 "closing" = true := by kernel_rfl
theorem GG.f_closing (G : GG) (hc : c.Ok lv) (ho : TE c env ρ ω e ω₁ (vR G.g)) (h : G.In ω₁) (hb : ∀ whole, attributeBase e "closing" env whole = whole := by intro _; rfl) : TE c env ρ ω (.Attribute e "closing" p) ω₁ (.d (oI G.cl)) := TE.attr hc ho h.1 h.2 rfl (fl_closing _) nofun hb
theorem st_closing (w : World) : setIn (KK w) 206 "closing" = true := by kernel_rfl
theorem fl_syncing (w : World) : fldIn (KK w) 206 "syncing" = true := by kernel_rfl
theorem GG.f_syncing (G : GG) (hc : c.Ok lv) (ho : TE c env ρ ω e ω₁ (vR G.g)) (h : G.In ω₁) (hb : ∀ whole, attributeBase e "syncing" env whole = whole := by intro _; rfl) : TE c env ρ ω (.Attribute e "syncing" p) ω₁ (.d (oI G.sy)) := TE.attr hc ho h.1 h.2 rfl (fl_syncing _) nofun hb
theorem st_syncing (w : World) : setIn (KK w) 206 "syncing" = true := by kernel_rfl
theorem fl_last (w : World) : fldIn (KK w) 206 "last" = true := by kernel_rfl
theorem GG.f_last (G : GG) (hc : c.Ok lv) (ho : TE c env ρ ω e ω₁ (vR G.g)) (h : G.In ω₁) (hb : ∀ whole, attributeBase e "last" env whole = whole := by intro _; rfl) : TE c env ρ ω (.Attribute e "last" p) ω₁ (dI G.la) := TE.attr hc ho h.1 h.2 rfl (fl_last _) nofun hb
theorem st_last (w : World) : setIn (KK w) 206 "last" = true := by kernel_rfl
theorem fl_limit (w : World) : fldIn (KK w) 206 "limit" = true := by kernel_rfl
theorem GG.f_limit (G : GG) (hc : c.Ok lv) (ho : TE c env ρ ω e ω₁ (vR G.g)) (h : G.In ω₁) (hb : ∀ whole, attributeBase e "limit" env whole = whole := by intro _; rfl) : TE c env ρ ω (.Attribute e "limit" p) ω₁ (.d (oI G.lim)) := TE.attr hc ho h.1 h.2 rfl (fl_limit _) nofun hb
theorem st_limit (w : World) : setIn (KK w) 206 "limit" = true := by kernel_rfl
theorem fl_holds (w : World) : fldIn (KK w) 206 "holds" = true := by kernel_rfl
theorem GG.f_holds (G : GG) (hc : c.Ok lv) (ho : TE c env ρ ω e ω₁ (vR G.g)) (h : G.In ω₁) (hb : ∀ whole, attributeBase e "holds" env whole = whole := by intro _; rfl) : TE c env ρ ω (.Attribute e "holds" p) ω₁ (vR G.dh) := TE.attr hc ho h.1 h.2 rfl (fl_holds _) (by intro y h; cases h; rfl) hb
theorem st_holds (w : World) : setIn (KK w) 206 "holds" = true := by kernel_rfl
theorem fl_names (w : World) : fldIn (KK w) 206 "names" = true := by kernel_rfl
theorem GG.f_names (G : GG) (hc : c.Ok lv) (ho : TE c env ρ ω e ω₁ (vR G.g)) (h : G.In ω₁) (hb : ∀ whole, attributeBase e "names" env whole = whole := by intro _; rfl) : TE c env ρ ω (.Attribute e "names" p) ω₁ (vR G.dn) := TE.attr hc ho h.1 h.2 rfl (fl_names _) (by intro y h; cases h; rfl) hb
theorem st_names (w : World) : setIn (KK w) 206 "names" = true := by kernel_rfl
theorem fl_spent (w : World) : fldIn (KK w) 206 "spent" = true := by kernel_rfl
theorem GG.f_spent (G : GG) (hc : c.Ok lv) (ho : TE c env ρ ω e ω₁ (vR G.g)) (h : G.In ω₁) (hb : ∀ whole, attributeBase e "spent" env whole = whole := by intro _; rfl) : TE c env ρ ω (.Attribute e "spent" p) ω₁ (vR G.ds) := TE.attr hc ho h.1 h.2 rfl (fl_spent _) (by intro y h; cases h; rfl) hb
theorem st_spent (w : World) : setIn (KK w) 206 "spent" = true := by kernel_rfl
theorem fl_tickets (w : World) : fldIn (KK w) 206 "tickets" = true := by kernel_rfl
theorem GG.f_tickets (G : GG) (hc : c.Ok lv) (ho : TE c env ρ ω e ω₁ (vR G.g)) (h : G.In ω₁) (hb : ∀ whole, attributeBase e "tickets" env whole = whole := by intro _; rfl) : TE c env ρ ω (.Attribute e "tickets" p) ω₁ (vR G.lt) := TE.attr hc ho h.1 h.2 rfl (fl_tickets _) (by intro y h; cases h; rfl) hb
theorem st_tickets (w : World) : setIn (KK w) 206 "tickets" = true := by kernel_rfl
theorem fl_next_ticket (w : World) : fldIn (KK w) 206 "next_ticket" = true := by kernel_rfl
theorem GG.f_next_ticket (G : GG) (hc : c.Ok lv) (ho : TE c env ρ ω e ω₁ (vR G.g)) (h : G.In ω₁) (hb : ∀ whole, attributeBase e "next_ticket" env whole = whole := by intro _; rfl) : TE c env ρ ω (.Attribute e "next_ticket" p) ω₁ (dI G.nt) := TE.attr hc ho h.1 h.2 rfl (fl_next_ticket _) nofun hb
theorem st_next_ticket (w : World) : setIn (KK w) 206 "next_ticket" = true := by kernel_rfl
theorem GG.u_open (G : GG) (v : Int) : upF "open" (dI v) G.fs = GG.fs { G with op := v } := rfl
theorem GG.u_closing (G : GG) (v : Option Int) : upF "closing" (.d (oI v)) G.fs = GG.fs { G with cl := v } := rfl
theorem GG.u_syncing (G : GG) (v : Option Int) : upF "syncing" (.d (oI v)) G.fs = GG.fs { G with sy := v } := rfl
theorem GG.u_last (G : GG) (v : Int) : upF "last" (dI v) G.fs = GG.fs { G with la := v } := rfl
theorem GG.u_tickets (G : GG) (v : Addr) : upF "tickets" (vR v) G.fs = GG.fs { G with lt := v } := rfl
theorem GG.u_next_ticket (G : GG) (v : Int) : upF "next_ticket" (dI v) G.fs = GG.fs { G with nt := v } := rfl
end
end Mine
set_option Elab.async false
set_option maxRecDepth 100000
set_option linter.unusedVariables false
namespace Mine
open PySem PySem.W PySem.Calls PyProof.Rows PySem.Spec PyProof.Rows.LCg

theorem getD_mapV {K β : Type} [DecidableEq K] (f : β → AV) (h : List (K × β)) (k : K) (d : β) : (getA (mapV f h) k).getD (f d) = f ((getP h k).getD d) := by
  rw [getA_mapV]; cases getP h k <;> rfl
section
variable {c : Cx} {env : Env} {ρ ρ₁ : Vs} {ω ω₁ ω₂ : Os} {e : Expr} {p : Pos} {lv : Nat} {Φ : Os → Oc → Prop}
theorem TX.to {st : Stmt} (h : TX c env ρ ω st (Nx ρ₁ ω₁)) (e : ω₁ = ω₂) : TX c env ρ ω st (Nx ρ₁ ω₂) := e ▸ h
theorem TE.to {e : Expr} {a b : AV} (h : TE c env ρ ω e ω₁ a) (q : a = b) : TE c env ρ ω e ω₁ b := q ▸ h
theorem ty_get : typeOf (.builtin "dict.get") = pure (.type "method_descriptor") := by kernel_rfl
theorem ty_pop : typeOf (.builtin "dict.pop") = pure (.type "method_descriptor") := by kernel_rfl
theorem ty_app : typeOf (.builtin "list.append") = pure (.type "method_descriptor") := by kernel_rfl
theorem ty_count : typeOf (.builtin "list.count") = pure (.type "method_descriptor") := by kernel_rfl
theorem ty_rem : typeOf (.builtin "list.remove") = pure (.type "method_descriptor") := by kernel_rfl
end

noncomputable def GG.hat (G : GG) (k : Int) : Int := (getP G.holds k).getD 0

theorem begin_cv {lv : Nat} (hlv : lv ≤ 15) (G : GG) (n : Int) (hn : getP G.holds G.op = some n) (hz : G.holds.length ≤ 900) : CS lv 80 [vR G.g] G.os (GG.os { G with holds := storedP G.holds G.op (n + 1) }) (dI G.op) := by
  refine CV.nd fun nd => ?_
  refine CV.def (xs := ["self"]) (fun w => rfl) (fun w => by kernel_rfl) (fun vals h => ?_) ?_ ?_ ?_ hlv rfl rfl rfl fun c L hc hL => ?_
  · match vals, h with
    | [a], _ => rfl
  · decide +kernel
  · decide +kernel
  · decide +kernel
  refine TS.seq (TX.to (TX.setsub kI (k := G.op) (TE.add (TE.item kI (k := G.op) (GG.f_holds G hc (TE.name rfl) G.in_os) (GG.f_open G hc (TE.name rfl) G.in_os) (.inl G.m_dh) (by rw [getA_mapV, hn]; rfl)) (TE.const_int 1 _ _)) (GG.f_holds G hc (TE.name rfl) G.in_os) (GG.f_open G hc (TE.name rfl) G.in_os) G.m_dh (by rw [mapV_len]; omega)) (ω₂ := GG.os { G with holds := storedP G.holds G.op (n + 1) }) ?_) ?_
  · rw [storedA_mapV]; exact up2 (nd6 nd) _
  · exact TS.last (TX.ret (GG.f_open { G with holds := storedP G.holds G.op (n + 1) } hc (TE.name rfl) (GG.in_os _)) (Fin.same ⟨rfl, rfl⟩))

theorem get_holds {lv : Nat} {c : Cx} {env : Env} {ρ : Vs} {es e1 : Expr} {ap1 ap p p3 : Pos} {k : Int} (G : GG) (hc : c.Ok lv) (hself : TE c env ρ G.os es G.os (vR G.g)) (h1 : TE c env ρ G.os e1 G.os (dI k)) (kk : Nat)
    (hb : ∀ whole, attributeBase es "holds" env whole = whole := by intro _; rfl)
    (hne : ∃ e r, [e1, Expr.Constant (.int 0) kk p3] = e :: r ∧ starEach [e1, Expr.Constant (.int 0) kk p3] env = (false, eval e env) :: starEach r env ∧ ∀ q, (backTo q (starEach r env)).any (·.1) = false := by exact ⟨_, _, rfl, rfl, fun _ => rfl⟩)
    (hs : starEach [e1, Expr.Constant (.int 0) kk p3] env = (false, eval e1 env) :: starEach [Expr.Constant (.int 0) kk p3] env := by rfl)
    (pl : Sem Bool) (he : eval (.Call (.Attribute (.Attribute es "holds" ap1) "get" ap) [e1, .Constant (.int 0) kk p3] [] p) env = (do
      let ov ← eval (.Attribute es "holds" ap1) env
      standAt ap.atName
      let (f, first) ← holding [ov] (getMethod ov "get" pl)
      callWith p f first (backTo p (starEach [e1, .Constant (.int 0) kk p3] env)) []) := by rfl) :
    TE c env ρ G.os (.Call (.Attribute (.Attribute es "holds" ap1) "get" ap) [e1, .Constant (.int 0) kk p3] [] p) G.os (dI (G.hat k)) :=
  TE.bm (pl := pl) (GG.f_holds G hc hself G.in_os hb) (GM.dict kI (.inl G.m_dh) PySem.F.slot_dict_get ty_get) (TEs.cons h1 (TEs.cons (TE.const_int 0 _ _) TEs.nil) hs)
    (CB.get2 kI (k := k) (.inl G.m_dh) ⟨rfl, congrArg Oc.val (getD_mapV dI G.holds k 0)⟩) hne he

theorem held_cv {lv : Nat} (hlv : lv ≤ 15) (G : GG) (k : Int) : CS lv 101 [vR G.g, dI k] G.os G.os (dI (G.hat k)) := by
  refine CV.def (xs := ["self", "txg"]) (fun w => rfl) (fun w => by kernel_rfl) (fun vals h => ?_) ?_ ?_ ?_ hlv rfl rfl rfl fun c L hc hL => ?_
  · match vals, h with
    | [a, b], _ => rfl
  · decide +kernel
  · decide +kernel
  · decide +kernel
  exact TS.last (TX.ret (get_holds G hc (TE.name rfl) (TE.name rfl) _ (pl := _)) (Fin.same ⟨rfl, rfl⟩))

theorem want_cv {lv : Nat} (hlv : lv ≤ 12) (G : GG) (k : Int) : CV lv 94 [vR G.g, dI k] G.os (fun o a => o = G.os ∧ a = if G.hat k = 0 then .exc 56 else .val dN) := by
  refine CV.def (xs := ["self", "txg"]) (fun w => rfl) (fun w => by kernel_rfl) (fun vals h => ?_) ?_ ?_ ?_ (by omega) rfl rfl rfl fun c L hc hL => ?_
  · match vals, h with
    | [a, b], _ => rfl
  · decide +kernel
  · decide +kernel
  · decide +kernel
  refine TS.last (TX.cond (x := G.hat k == 0) (TT.cmp (get_holds G hc (TE.name rfl) (TE.name rfl) _ (pl := _)) (TE.const_int 0 _ _) (OpR.eqI _ _)) (fun h => ?_) fun h => ?_)
  · refine TS.last (TX.raise hc (by omega) xcls56 xset56 (by kernel_rfl) (TE.global hc (by kernel_rfl) rfl) (TE.const_str _ _ _) (Fin.exc ⟨rfl, ?_⟩))
    rw [if_pos (beq_iff_eq.mp h)]
  · refine TS.nil (Fin.none ⟨rfl, ?_⟩)
    rw [if_neg (beq_eq_false_iff_ne.mp h)]

/-- what befalls when a group is asked for that is not held -/
noncomputable def Phs (G : GG) (k : Int) (G' : GG) (r : AV) : Os → Oc → Prop := fun o a => if G.hat k = 0 then o = G.os ∧ a = .exc 56 else o = G'.os ∧ a = .val r
/-- the first line: self.want_held(txg) -/
theorem want_line {lv : Nat} {c : Cx} {env : Env} {ρ : Vs} {es e1 : Expr} {ap p p3 : Pos} {k : Int} {Ψ : Fl → Vs → Os → Prop} {rest : List Stmt} (G : GG) (hc : c.Ok lv) (hlv : lv ≤ 12) (hself : TE c env ρ G.os es G.os (vR G.g)) (h1 : TE c env ρ G.os e1 G.os (dI k))
    (hx : G.hat k = 0 → Ψ (.exc 56) ρ G.os) (h : G.hat k ≠ 0 → TS c env ρ G.os rest Ψ)
    (hne : ∃ e r, [e1] = e :: r ∧ starEach [e1] env = (false, eval e env) :: starEach r env ∧ ∀ q, (backTo q (starEach r env)).any (·.1) = false := by exact ⟨_, _, rfl, rfl, fun _ => rfl⟩)
    (hs : starEach [e1] env = (false, eval e1 env) :: starEach [] env := by rfl)
    (pl : Sem Bool) (he : eval (.Call (.Attribute es "want_held" ap) [e1] [] p) env = (do
      let ov ← eval es env
      standAt ap.atName
      let (f, first) ← holding [ov] (getMethod ov "want_held" pl)
      callWith p f first (backTo p (starEach [e1] env)) []) := by rfl)
    (hsw : swapsWith (.Call (.Attribute es "want_held" ap) [e1] [] p) none p3.line env = pure false := by rfl) (hi : interactive env = false := by rfl) :
    TS c env ρ G.os (.Expr (.Call (.Attribute es "want_held" ap) [e1] [] p) p3 :: rest) Ψ := by
  refine TS.cons (Ψ₁ := fun f r o => r = ρ ∧ o = G.os ∧ f = if G.hat k = 0 then .exc 56 else .next) (TX.exprV (Φ := fun o a => o = G.os ∧ a = if G.hat k = 0 then .exc 56 else .val dN)
    (TV.callM (pl := pl) (rest := []) hc hself (GG.in_os G).1 (GG.in_os G).2 rfl (by kernel_rfl) (by kernel_rfl) (TEs.cons h1 TEs.nil hs) (want_cv hlv G k) (by rw [List.append_nil]) (fun o a h => ⟨o, by rw [List.append_nil], h⟩) hne he) (fun o a h => ?_) (fun o C h => ?_) hsw hi) (fun r o h => ?_) (fun a r o h => ?_) (fun C r o h => ?_)
  · obtain ⟨rfl, h⟩ := h
    refine ⟨rfl, rfl, ?_⟩
    split at h
    · cases h
    · rename_i q; rw [if_neg q]
  · obtain ⟨rfl, h⟩ := h
    refine ⟨rfl, rfl, ?_⟩
    split at h
    · rename_i q; cases h; rw [if_pos q]
    · cases h
  · obtain ⟨rfl, rfl, q⟩ := h
    split at q
    · cases q
    · rename_i n; exact _root_.id (‹G.hat k ≠ 0 → _› n)
  · obtain ⟨rfl, rfl, q⟩ := h
    split at q <;> cases q
  · obtain ⟨rfl, rfl, q⟩ := h
    split at q
    · rename_i n; cases q; exact hx n
    · cases q
theorem Fin.of {Φ : Os → Oc → Prop} {a : AV} {ρ : Vs} {ω ω' : Os} (h : Φ ω' (.val a)) (e : ω = ω') : Fin Φ (.ret a) ρ ω := e ▸ Fin.same h

theorem hat_some {G : GG} {k : Int} (h : G.hat k ≠ 0) : ∃ n, getP G.holds k = some n ∧ G.hat k = n := by
  unfold GG.hat at h ⊢
  cases e : getP G.holds k with
  | none => rw [e] at h; exact absurd rfl h
  | some n => exact ⟨n, rfl, rfl⟩

theorem end_cv {lv : Nat} (hlv : lv ≤ 11) (G : GG) (k : Int) (hz : G.holds.length ≤ 900) : CV lv 87 [vR G.g, dI k] G.os (Phs G k { G with holds := storedP G.holds k (G.hat k - 1) } dN) := by
  refine CV.nd fun nd => ?_
  refine CV.def (xs := ["self", "txg"]) (fun w => rfl) (fun w => by kernel_rfl) (fun vals h => ?_) ?_ ?_ ?_ (by omega) rfl rfl rfl fun c L hc hL => ?_
  · match vals, h with
    | [a, b], _ => rfl
  · decide +kernel
  · decide +kernel
  · decide +kernel
  refine want_line (k := k) (pl := _) G hc (by omega) (TE.name rfl) (TE.name rfl) (fun h => Fin.exc (by unfold Phs; rw [if_pos h]; exact ⟨rfl, rfl⟩)) fun h => ?_
  obtain ⟨n, hn, e⟩ := hat_some h
  refine TS.seq (TX.to (TX.setsub kI (k := k) (TE.sub (TE.item kI (k := k) (GG.f_holds G hc (TE.name rfl) G.in_os) (TE.name rfl) (.inl G.m_dh) (by rw [getA_mapV, hn]; rfl)) (TE.const_int 1 _ _)) (GG.f_holds G hc (TE.name rfl) G.in_os) (TE.name rfl) G.m_dh (by rw [mapV_len]; omega)) (ω₂ := GG.os { G with holds := storedP G.holds k (G.hat k - 1) }) ?_) (TS.nil (Fin.none ?_))
  · rw [storedA_mapV, e]; exact up2 (nd6 nd) _
  · unfold Phs; rw [if_neg h]; exact ⟨rfl, rfl⟩

theorem spend_cv {lv : Nat} (hlv : lv ≤ 11) (G : GG) (k many v : Int) (hv : G.hat k ≠ 0 → getP G.spent k = some v) (hz : G.spent.length ≤ 900) : CV lv 127 [vR G.g, dI k, dI many] G.os (Phs G k { G with spent := storedP G.spent k (v + many) } dN) := by
  refine CV.nd fun nd => ?_
  refine CV.def (xs := ["self", "txg", "many"]) (fun w => rfl) (fun w => by kernel_rfl) (fun vals h => ?_) ?_ ?_ ?_ (by omega) rfl rfl rfl fun c L hc hL => ?_
  · match vals, h with
    | [a, b, d], _ => rfl
  · decide +kernel
  · decide +kernel
  · decide +kernel
  refine want_line (k := k) (pl := _) G hc (by omega) (TE.name rfl) (TE.name rfl) (fun h => Fin.exc (by unfold Phs; rw [if_pos h]; exact ⟨rfl, rfl⟩)) fun h => ?_
  refine TS.seq (TX.to (TX.setsub kI (k := k) (TE.add (TE.item kI (k := k) (GG.f_spent G hc (TE.name rfl) G.in_os) (TE.name rfl) (.inl G.m_ds) (by rw [getA_mapV, hv h]; rfl)) (TE.name rfl)) (GG.f_spent G hc (TE.name rfl) G.in_os) (TE.name rfl) G.m_ds (by rw [mapV_len]; omega)) (ω₂ := GG.os { G with spent := storedP G.spent k (v + many) }) ?_) (TS.nil (Fin.none ?_))
  · rw [storedA_mapV]; exact up4 (nd6 nd) _
  · unfold Phs; rw [if_neg h]; exact ⟨rfl, rfl⟩

noncomputable def GG.full (G : GG) (v : Int) : Bool := match G.lim with | none => false | some l => decide (l ≤ v)
theorem full_cv {lv : Nat} (hlv : lv ≤ 15) (G : GG) (v : Int) (hv : getP G.spent G.op = some v) : CS lv 134 [vR G.g] G.os G.os (dB (G.full v)) := by
  refine CV.def (xs := ["self"]) (fun w => rfl) (fun w => by kernel_rfl) (fun vals h => ?_) ?_ ?_ ?_ hlv rfl rfl rfl fun c L hc hL => ?_
  · match vals, h with
    | [a], _ => rfl
  · decide +kernel
  · decide +kernel
  · decide +kernel
  refine TS.last (TX.ret (TE.to (TE.and2 (b₂ := G.full v) (TE.cmp (GG.f_limit G hc (TE.name rfl) G.in_os) (TE.const_none _ _) (OpR.isNotN G.lim)) fun h => ?_) ?_) (Fin.same ⟨rfl, rfl⟩))
  · obtain ⟨l, hl⟩ := Option.isSome_iff_exists.mp h
    refine TE.to (TE.cmp (b := dI l) (TE.item kI (k := G.op) (GG.f_spent G hc (TE.name rfl) G.in_os) (GG.f_open G hc (TE.name rfl) G.in_os) (.inl G.m_ds) (by rw [getA_mapV, hv]; rfl)) (TE.to (GG.f_limit G hc (TE.name rfl) G.in_os) (by rw [hl]; rfl)) (OpR.ge v l)) ?_
    unfold GG.full; rw [hl]
  · unfold GG.full; cases G.lim <;> simp

noncomputable def GG.quiet (G : GG) : Bool := match G.cl with | none => false | some k => G.hat k == 0
theorem quiet_cv {lv : Nat} (hlv : lv ≤ 15) (G : GG) (hk : ∀ k, G.cl = some k → (getP G.holds k).isSome = true) : CS lv 153 [vR G.g] G.os G.os (dB G.quiet) := by
  refine CV.def (xs := ["self"]) (fun w => rfl) (fun w => by kernel_rfl) (fun vals h => ?_) ?_ ?_ ?_ hlv rfl rfl rfl fun c L hc hL => ?_
  · match vals, h with
    | [a], _ => rfl
  · decide +kernel
  · decide +kernel
  · decide +kernel
  refine TS.last (TX.ret (TE.to (TE.and2 (b₂ := G.quiet) (TE.cmp (GG.f_closing G hc (TE.name rfl) G.in_os) (TE.const_none _ _) (OpR.isNotN G.cl)) fun h => ?_) ?_) (Fin.same ⟨rfl, rfl⟩))
  · obtain ⟨l, hl⟩ := Option.isSome_iff_exists.mp h
    obtain ⟨n, hn⟩ := Option.isSome_iff_exists.mp (hk l hl)
    refine TE.to (TE.cmp (a := dI n) (TE.item kI (k := l) (GG.f_holds G hc (TE.name rfl) G.in_os) (TE.to (GG.f_closing G hc (TE.name rfl) G.in_os) (by rw [hl]; rfl)) (.inl G.m_dh) (by rw [getA_mapV, hn]; rfl)) (TE.const_int 0 _ _) (OpR.eqI n 0)) ?_
    unfold GG.quiet GG.hat; rw [hl]; simp [hn]
  · unfold GG.quiet; cases G.cl <;> simp

theorem synced_cv {lv : Nat} (hlv : lv ≤ 15) (G : GG) (k : Int) : CS lv 174 [vR G.g, dI k] G.os G.os (dB (decide (k ≤ G.la))) := by
  refine CV.def (xs := ["self", "txg"]) (fun w => rfl) (fun w => by kernel_rfl) (fun vals h => ?_) ?_ ?_ ?_ hlv rfl rfl rfl fun c L hc hL => ?_
  · match vals, h with
    | [a, b], _ => rfl
  · decide +kernel
  · decide +kernel
  · decide +kernel
  exact TS.last (TX.ret (TE.cmp (TE.name rfl) (GG.f_last G hc (TE.name rfl) G.in_os) (OpR.le _ _)) (Fin.same ⟨rfl, rfl⟩))
end Mine
set_option Elab.async false
set_option maxRecDepth 100000
set_option linter.unusedVariables false
namespace Mine
open PySem PySem.W PySem.Calls PyProof.Rows PySem.Spec PyProof.Rows.LCg

theorem eqv_int (a b : Int) : PyData.eqv (.int a) (.int b) = (a == b) := rfl
theorem eqv_oI (a : Int) (o : Option Int) : PyData.eqv (.int a) (oI o) = (o == some a) := by
  cases o with
  | none => rfl
  | some b =>
    show (a == b) = (some b == some a)
    rw [Bool.eq_iff_iff, beq_iff_eq, beq_iff_eq, Option.some.injEq]
    exact eq_comm
noncomputable def GG.word (G : GG) (k : Int) : Str := if k ≤ G.la then "synced" else if G.sy = some k then "syncing" else if G.cl = some k then "closing" else if k = G.op then "open" else "later"

section
variable {c : Cx} {env : Env} {ρ : Vs} {ω ω₁ : Os} {Ψ : Fl → Vs → Os → Prop}
/-- a test that ends the def, or is passed by -/
theorem TS.guard {t : Expr} {b rest : List Stmt} {p : Pos} {x : Bool} (ht : TT c env ρ ω t ω₁ x) (h1 : x = true → TS c env ρ ω₁ b (fun f r o => f ≠ .next ∧ Ψ f r o)) (h2 : x = false → TS c env ρ ω₁ rest Ψ) : TS c env ρ ω (.If t b [] p :: rest) Ψ := by
  refine TS.cons (Ψ₁ := fun f r o => (f ≠ .next ∧ Ψ f r o) ∨ (f = .next ∧ x = false ∧ r = ρ ∧ o = ω₁)) (TX.cond ht (fun h => (h1 h).mono fun f r o q => .inl q) (fun h => TS.nil (.inr ⟨rfl, h, rfl, rfl⟩))) (fun r o h => ?_) (fun a r o h => ?_) (fun C r o h => ?_)
  · rcases h with h | ⟨_, h, rfl, rfl⟩
    · exact absurd rfl h.1
    · exact h2 h
  · rcases h with h | h
    · exact h.2
    · cases h.1
  · rcases h with h | h
    · exact h.2
    · cases h.1
theorem TS.retS {e : Expr} {p : Pos} {a : AV} (h : TE c env ρ ω e ω₁ a) (hp : Ψ (.ret a) ρ ω₁) : TS c env ρ ω [.Return (some e) p] (fun f r o => f ≠ .next ∧ Ψ f r o) := TS.last (TX.ret h ⟨nofun, hp⟩)
end
theorem state_cv {lv : Nat} (hlv : lv ≤ 15) (G : GG) (k : Int) : CS lv 181 [vR G.g, dI k] G.os G.os (dS (G.word k)) := by
  refine CV.def (xs := ["self", "txg"]) (fun w => rfl) (fun w => by kernel_rfl) (fun vals h => ?_) ?_ ?_ ?_ hlv rfl rfl rfl fun c L hc hL => ?_
  · match vals, h with
    | [a, b], _ => rfl
  · decide +kernel
  · decide +kernel
  · decide +kernel
  have eq : ∀ o : Option Int, PyData.eqv (.int k) (oI o) = true ↔ o = some k := fun o => by rw [eqv_oI, beq_iff_eq]
  refine TS.guard (TT.cmp (TE.name rfl) (GG.f_last G hc (TE.name rfl) G.in_os) (OpR.le _ _)) (fun h => TS.retS (TE.const_str _ _ _) (Fin.same ⟨rfl, ?_⟩)) fun h1 => ?_
  · unfold GG.word; rw [if_pos (of_decide_eq_true h)]
  have h1 := of_decide_eq_false h1
  refine TS.guard (TT.cmp (TE.name rfl) (GG.f_syncing G hc (TE.name rfl) G.in_os) (OpR.eqD (n := 0) (m := 0) hc (Nice.int _ _) (Nice.oI _ _) (by omega) (by omega) (by omega))) (fun h => TS.retS (TE.const_str _ _ _) (Fin.same ⟨rfl, ?_⟩)) fun h2 => ?_
  · unfold GG.word; rw [if_neg h1, if_pos ((eq _).mp h)]
  have h2 : ¬ G.sy = some k := fun e => by rw [(eq _).mpr e] at h2; cases h2
  refine TS.guard (TT.cmp (TE.name rfl) (GG.f_closing G hc (TE.name rfl) G.in_os) (OpR.eqD (n := 0) (m := 0) hc (Nice.int _ _) (Nice.oI _ _) (by omega) (by omega) (by omega))) (fun h => TS.retS (TE.const_str _ _ _) (Fin.same ⟨rfl, ?_⟩)) fun h3 => ?_
  · unfold GG.word; rw [if_neg h1, if_neg h2, if_pos ((eq _).mp h)]
  have h3 : ¬ G.cl = some k := fun e => by rw [(eq _).mpr e] at h3; cases h3
  refine TS.last (TX.ret (TE.ifexp (x := k == G.op) (TT.cmp (TE.name rfl) (GG.f_open G hc (TE.name rfl) G.in_os) (OpR.eqI _ _)) (fun h => TE.to (TE.const_str _ _ _) ?_) (fun h => TE.to (TE.const_str _ _ _) ?_)) (Fin.same ⟨rfl, rfl⟩))
  · unfold GG.word; rw [if_neg h1, if_neg h2, if_neg h3, if_pos (beq_iff_eq.mp h)]
  · unfold GG.word; rw [if_neg h1, if_neg h2, if_neg h3, if_neg (beq_eq_false_iff_ne.mp h)]

/-! ## names -/
theorem any_true (xs : List Str) (x : Str) : ((trueD xs).any fun kv => decide (kv.1 = x)) = decide (x ∈ xs) := by
  rw [Bool.eq_iff_iff, List.any_eq_true, decide_eq_true_iff]
  constructor
  · rintro ⟨p, hp, e⟩
    obtain ⟨y, hy, rfl⟩ := List.mem_map.mp hp
    exact of_decide_eq_true e ▸ hy
  · exact fun h => ⟨(x, dB true), List.mem_map.mpr ⟨x, h, rfl⟩, by simp⟩
theorem stored_true (xs : List Str) (x : Str) : storedA (trueD xs) x (dB true) = trueD (addk xs x) := by
  unfold storedA addk
  rw [any_true]
  by_cases h : x ∈ xs
  · rw [if_pos (by simpa using h), if_pos h]
    unfold trueD
    rw [List.map_map]
    refine List.map_congr_left fun y _ => ?_
    show (if y = x then (y, dB true) else (y, dB true)) = (y, dB true)
    split <;> rfl
  · rw [if_neg (by simpa using h), if_neg h]
    unfold trueD
    rw [List.map_append]; rfl
noncomputable def setN (nm : List (Int × Addr × List Str)) (a : Addr) (ys : List Str) : List (Int × Addr × List Str) := nm.map fun p => if p.2.1 = a then (p.1, p.2.1, ys) else p
theorem updO_inn (nm : List (Int × Addr × List Str)) (a : Addr) (ys : List Str) : updO a (.sdict (trueD ys)) (inn nm) = inn (setN nm a ys) := by
  unfold updO inn setN
  rw [List.map_map, List.map_map]
  refine List.map_congr_left fun p _ => ?_
  show (if p.2.1 = a then (a, AO.sdict (trueD ys)) else (p.2.1, AO.sdict (trueD p.2.2))) = ((if p.2.1 = a then (p.1, p.2.1, ys) else p).2.1, AO.sdict (trueD (if p.2.1 = a then (p.1, p.2.1, ys) else p).2.2))
  by_cases e : p.2.1 = a
  · rw [if_pos e, if_pos e, e]
  · rw [if_neg e, if_neg e]
theorem mapV_setN (nm : List (Int × Addr × List Str)) (a : Addr) (ys : List Str) : mapV (fun p : Addr × List Str => vR p.1) (setN nm a ys) = mapV (fun p => vR p.1) nm := by
  unfold mapV setN
  rw [List.map_map]
  refine List.map_congr_left fun p _ => ?_
  show ((if p.2.1 = a then (p.1, p.2.1, ys) else p).1, vR (if p.2.1 = a then (p.1, p.2.1, ys) else p).2.1) = (p.1, vR p.2.1)
  split <;> rfl
theorem getP_mem {K β : Type} [DecidableEq K] {h : List (K × β)} {k : K} {v : β} (e : getP h k = some v) : (k, v) ∈ h := by
  unfold getP at e
  obtain ⟨p, hp, rfl⟩ := Option.map_eq_some_iff.mp e
  have h1 := List.mem_of_find?_eq_some hp
  have h2 := List.find?_some hp
  have h3 : p.1 = k := of_decide_eq_true h2
  rw [← h3]; exact h1

theorem mark_cv {lv : Nat} (hlv : lv ≤ 11) (G : GG) (k : Int) (x : Str) (a : Addr) (xs : List Str) (hv : G.hat k ≠ 0 → getP G.nm k = some (a, xs)) (hz : xs.length ≤ 900) : CV lv 108 [vR G.g, dI k, dS x] G.os (Phs G k { G with nm := setN G.nm a (addk xs x) } dN) := by
  refine CV.nd fun nd => ?_
  refine CV.def (xs := ["self", "txg", "name"]) (fun w => rfl) (fun w => by kernel_rfl) (fun vals h => ?_) ?_ ?_ ?_ (by omega) rfl rfl rfl fun c L hc hL => ?_
  · match vals, h with
    | [a, b, d], _ => rfl
  · decide +kernel
  · decide +kernel
  · decide +kernel
  refine want_line (k := k) (pl := _) G hc (by omega) (TE.name rfl) (TE.name rfl) (fun h => Fin.exc (by unfold Phs; rw [if_pos h]; exact ⟨rfl, rfl⟩)) fun h => ?_
  have hm := getP_mem (hv h)
  refine TS.seq (TX.to (TX.setsub kS (k := x) (TE.const_bool true _ _) (TE.item kI (k := k) (GG.f_names G hc (TE.name rfl) G.in_os) (TE.name rfl) (.inl G.m_dn) (av := vR a) (by rw [getA_mapV, hv h]; rfl)) (TE.name rfl) (G.m_in hm) (by simp [trueD]; omega)) (ω₂ := GG.os { G with nm := setN G.nm a (addk xs x) }) ?_) (TS.nil (Fin.none ?_))
  · rw [stored_true]
    unfold GG.os
    rw [show kS.ao (trueD (addk xs x)) = AO.sdict (trueD (addk xs x)) from rfl, up6 (nd6 nd) (List.mem_map.mpr ⟨_, List.mem_map.mpr ⟨_, hm, rfl⟩, rfl⟩), updO_inn, mapV_setN]
    rfl
  · unfold Phs; rw [if_neg h]; exact ⟨rfl, rfl⟩

noncomputable def GG.dirt (G : GG) (k : Int) : List Str := (getP G.nm k).elim [] (·.2)
theorem dirty_cv {lv : Nat} (hlv : lv ≤ 15) (G : GG) (k : Int) (hz : (G.dirt k).length < 64) : CS lv 115 [vR G.g, dI k] G.os G.os (.d (.list ((srtS (G.dirt k)).map .str))) := by
  refine CV.def (xs := ["self", "txg"]) (fun w => rfl) (fun w => by kernel_rfl) (fun vals h => ?_) ?_ ?_ ?_ hlv rfl rfl rfl fun c L hc hL => ?_
  · match vals, h with
    | [a, b], _ => rfl
  · decide +kernel
  · decide +kernel
  · decide +kernel
  refine TS.last (TX.ret (TE.bf1 (ω₃ := G.os) (r := .d (.list ((srtS (G.dirt k)).map .str))) (a := (getA (mapV (fun p => vR p.1) G.nm) k).getD (.fz fun o => ∃ kvs, o.IsDictOf (kS.knd c.w) kvs ∧ kvs.map (·.1) = [])) (TE.builtin hc (by kernel_rfl) (by kernel_rfl) (by decide) rfl)
    (TE.bm (GG.f_names G hc (TE.name rfl) G.in_os) (GM.dict kI (.inl G.m_dn) PySem.F.slot_dict_get ty_get) (TEs.cons (TE.name rfl) (TEs.cons (TE.dict0 kS hc) TEs.nil)) (CB.get2 kI (k := k) (.inl G.m_dn) ⟨rfl, rfl⟩)) (CB.sorted sS (ks := G.dirt k) hc ?_ hz ⟨rfl, rfl⟩)) (Fin.same ⟨rfl, rfl⟩))
  rw [getA_mapV]
  unfold GG.dirt
  cases e : getP G.nm k with
  | some p =>
    obtain ⟨a, xs⟩ := p
    exact .inl ⟨a, trueD xs, rfl, .inl (G.m_in (getP_mem e)), by simp [trueD, Function.comp_def]⟩
  | none => exact .inr (.inl ⟨_, rfl, fun o ⟨kvs, h1, h2⟩ => ⟨kvs, h1, h2.symm⟩⟩)

theorem ticket_cv {lv : Nat} (hlv : lv ≤ 12) (G : GG) (k : Int) (hz : G.tick.length ≤ 900) : CV lv 188 [vR G.g, dI k] G.os
    (fun o a => if k > G.op then o = G.os ∧ a = .exc 56 else o = GG.os { G with tick := G.tick ++ [(G.nt, k)], nt := G.nt + 1 } ∧ a = .val (dI G.nt)) := by
  refine CV.nd fun nd => ?_
  refine CV.def (xs := ["self", "txg"]) (fun w => rfl) (fun w => by kernel_rfl) (fun vals h => ?_) ?_ ?_ ?_ (by omega) rfl rfl rfl fun c L hc hL => ?_
  · match vals, h with
    | [a, b], _ => rfl
  · decide +kernel
  · decide +kernel
  · decide +kernel
  refine TS.guard (TT.cmp (TE.name rfl) (GG.f_open G hc (TE.name rfl) G.in_os) (OpR.gt _ _)) (fun h => ?_) fun h => ?_
  · exact TS.last (TX.raise hc (by omega) xcls56 xset56 (by kernel_rfl) (TE.global hc (by kernel_rfl) rfl) (TE.const_str _ _ _) ⟨nofun, Fin.exc (by rw [if_pos (show k > G.op from of_decide_eq_true h)]; exact ⟨rfl, rfl⟩)⟩)
  have hk : ¬ k > G.op := of_decide_eq_false h
  refine TS.seq (TX.assign (GG.f_next_ticket G hc (TE.name rfl) G.in_os) rfl) ?_
  refine TS.seq (TX.to (TX.setattr hc (TE.add (TE.name rfl) (TE.const_int 1 _ _)) (TE.name rfl) G.in_os.1 G.in_os.2 (st_next_ticket _) (by omega) rfl) (ω₂ := GG.os { G with nt := G.nt + 1 }) ?_) ?_
  · rw [GG.u_next_ticket]; exact up1 (nd6 nd) _
  refine TS.seq (TX.to (ω₂ := GG.os { G with tick := G.tick ++ [(G.nt, k)], nt := G.nt + 1 }) (TX.expr (TE.bm (GG.f_tickets { G with nt := G.nt + 1 } hc (TE.name rfl) (GG.in_os _)) (GM.list (.inl (GG.m_lt _)) PySem.F.slot_list_append ty_app)
    (TEs.cons (TE.tuple (ds := [.int G.nt, .int k]) (TEs.cons (TE.name rfl) (TEs.cons (TE.name rfl) TEs.nil)) (by simp)) TEs.nil) (CB.append (GG.m_lt { G with nt := G.nt + 1 }) (by simp; omega) ⟨rfl, rfl⟩))) ?_) ?_
  · refine (up5 (nd6 nd) _).trans ?_
    unfold GG.os
    simp only [List.map_append]
    rfl
  · refine TS.last (TX.ret (TE.name rfl) (Fin.same ?_))
    rw [if_neg hk]; exact ⟨rfl, rfl⟩
end Mine
set_option Elab.async false
set_option maxRecDepth 100000
set_option linter.unusedVariables false
namespace Mine
open PySem PySem.W PySem.Calls PyProof.Rows PySem.Spec PyProof.Rows.LCg

theorem getP_nodup {K β : Type} [DecidableEq K] : ∀ {h : List (K × β)} {k : K} {v : β}, (h.map (·.1)).Nodup → (k, v) ∈ h → getP h k = some v
  | (a, b) :: h, k, v, n, m => by
    obtain ⟨n1, n2⟩ := List.nodup_cons.mp (show (a :: h.map (·.1)).Nodup from n)
    unfold getP
    rw [List.find?_cons]
    rcases List.mem_cons.mp m with e | m
    · cases e; simp
    · have ne : a ≠ k := fun e => n1 (e ▸ List.mem_map_of_mem (f := Prod.fst) m)
      simp only [ne, decide_false]
      exact getP_nodup n2 m
theorem kI_rd {w : World} {I : Heap} {v : Value} {k : Int} (h : (kI.knd w).is k v = true) : Rv I v (kI.key k) := sI.rd (I := I) h
theorem kS_rd {w : World} {I : Heap} {v : Value} {k : Str} (h : (kS.knd w).is k v = true) : Rv I v (kS.key k) := sS.rd (I := I) h
theorem nd_cons {a : Addr} {x : AO} {r : Os} (n : (keys ((a, x) :: r)).Nodup) : (∀ b ∈ keys r, b ≠ a) ∧ (keys r).Nodup := by
  obtain ⟨n1, n2⟩ := List.nodup_cons.mp (show (a :: keys r).Nodup from n)
  exact ⟨fun b h e => n1 (e ▸ h), n2⟩
theorem GG.k_ds (G : GG) : G.ds ∈ keys G.os := List.mem_map_of_mem (f := Prod.fst) G.m_ds
theorem GG.k_dn (G : GG) : G.dn ∈ keys G.os := List.mem_map_of_mem (f := Prod.fst) G.m_dn
theorem GG.k_lt (G : GG) : G.lt ∈ keys G.os := List.mem_map_of_mem (f := Prod.fst) G.m_lt

theorem Fin.drop {Φ : Os → Oc → Prop} {a : AV} {ρ : Vs} {ωr ω' : Os} (h : Φ ω' (.val a)) : Fin Φ (.ret a) ρ (ωr ++ ω') := ⟨ω', ωr, .refl _, h⟩
theorem allspent_cv {lv : Nat} (hlv : lv ≤ 15) (G : GG) (hn : (G.spent.map (·.1)).Nodup) (hz : G.spent.length ≤ 900) : CS lv 139 [vR G.g] G.os G.os (dI (G.spent.map (·.2)).sum) := by
  refine CV.defC (xs := ["self"]) [] (fun n => [(n + 1, .cell (some (vR G.g)))]) (fun w => rfl) (fun w => by kernel_rfl) (fun vals h => ?_) (fun x av h => by cases h) (fun n => rfl) ?_ ?_ ?_ ?_ hlv rfl rfl rfl fun c L hc hL => ?_
  · match vals, h with
    | [a], _ => rfl
  · intro n x hx
    rcases List.mem_singleton.mp hx with rfl
    exact .inr ⟨rfl, rfl⟩
  · decide +kernel
  · decide +kernel
  · decide +kernel
  refine TS.nd fun nd => ?_
  obtain ⟨n1, n2⟩ := nd_cons nd
  have N := nd6 n2
  have hds : (G.ds, AO.idict (mapV dI G.spent)) ∈ [(L + 1, AO.cell (some (vR G.g)))] ++ G.os := List.mem_append_right _ G.m_ds
  have nL : ∀ b ∈ keys G.os, L + 1 ≠ b := fun b h e => n1 b h e.symm
  refine TS.last (TX.ret (TE.bf1 (a := .d (.list ((G.spent.map (·.2)).map .int))) (TE.builtin hc (by kernel_rfl) (by kernel_rfl) (by decide) rfl) (TE.exact hds fun o => ?_) (CB.sum (ns := G.spent.map (·.2)) hc ?_ ⟨rfl, rfl⟩)) (Fin.drop ⟨rfl, rfl⟩))
  · have hIn : G.In (updO G.ds (.exact o (.idict (mapV dI G.spent))) ([(L + 1, AO.cell (some (vR G.g)))] ++ G.os)) := ⟨updO_in (.tail _ G.in_os.1) N.h0.2.2.2.1, updO_in (.tail _ G.in_os.2) N.h1.2.2.1⟩
    have hcell : (L + 1, AO.cell (some (vR G.g))) ∈ updO G.ds (.exact o (.idict (mapV dI G.spent))) ([(L + 1, AO.cell (some (vR G.g)))] ++ G.os) := updO_in (.head _) (nL _ G.k_ds)
    have hex := updO_self (ao := .exact o (.idict (mapV dI G.spent))) hds
    refine TE.to (TE.comp [("self", L + 1)] (G.spent.map fun p => some (PyData.int p.2)) (fun a => [("txg", a)]) hc ⟨rfl, by decide +kernel, rfl, by decide +kernel, fun _ => rfl⟩ (GG.f_spent G hc (TE.cell (.inl rfl) rfl hcell) hIn) (SRC.dict kI hc hex fun w I v k h => kI_rd h) (by simp [mapV]) (by simp [mapV]; omega)
      (fun C ρ' a _ => TA.name rfl) (fun C ρ' i a o' h1 h2 => ?_)) ?_
    · rw [List.getElem?_map] at h2
      obtain ⟨p, hp, rfl⟩ := Option.map_eq_some_iff.mp h2
      have ha : a = dI p.1 := by
        rw [List.getElem?_map, mapV, List.getElem?_map, hp] at h1
        exact (Option.some.inj h1).symm
      subst ha
      refine ⟨_, rfl, TE.item kI (k := p.1) (GG.f_spent G hc (TE.cell (.inl rfl) rfl hcell) hIn) (TE.name rfl) (.inr ⟨o, hex⟩) ?_⟩
      rw [getA_mapV, getP_nodup (v := p.2) hn (List.mem_of_getElem? hp)]; rfl
    · simp [List.filterMap_map, Function.comp_def]
  · refine .inl ⟨(G.spent.map (·.2)).map .int, rfl, by simp [Function.comp_def]⟩
end Mine
set_option Elab.async false
set_option maxRecDepth 100000
set_option linter.unusedVariables false
namespace Mine
open PySem PySem.W PySem.Calls PyProof.Rows PySem.Spec PyProof.Rows.LCg

section
variable {c : Cx} {env : Env} {ρ ρ' : Vs} {ω ω₁ ω' : Os} {Ψ : Fl → Vs → Os → Prop} {Φ : Os → Oc → Prop}
theorem Go.exact' {I I' : Heap} {mu mu' : Led} {s' : Shared} {l : Addr} {ao : AO} {o : Obj} (hl : (l, ao) ∈ ω') (g : Go c env ρ (updO l (.exact o ao) ω) (updO l (.exact o ao) ω') I mu I' mu' s') : Go c env ρ ω ω' I mu I' mu' s' := by
  have nd' : (keys ω').Nodup := by have := g.wd.nd; rwa [updO_keys] at this
  exact ⟨g.st, g.le, g.fp.mono fun a h => by rw [In, updO_keys] at h; exact h, fun a ha => by have := g.nw a (by rw [updO_keys]; exact ha); rwa [updO_keys] at this, g.wd.unexact hl nd'⟩
theorem GoS.exact' {I I' : Heap} {mu mu' : Led} {s' : Shared} {l : Addr} {ao : AO} {o : Obj} (hl : (l, ao) ∈ ω') (g : GoS c env (updO l (.exact o ao) ω) ρ' (updO l (.exact o ao) ω') I mu I' mu' s') : GoS c env ω ρ' ω' I mu I' mu' s' := by
  have nd' : (keys ω').Nodup := by have := g.wd.nd; rwa [updO_keys] at this
  exact ⟨g.st, g.le, g.fp.mono fun a h => h.imp (fun h => by rw [In, updO_keys] at h; exact h) _root_.id, fun a ha => by have := g.nw a (by rw [updO_keys]; exact ha); rwa [updO_keys] at this, g.wd.unexact hl nd'⟩
theorem TV.exact {e : Expr} {l : Addr} {ao : AO} (hl : (l, ao) ∈ ω) (h : ∀ o, TV c env ρ (updO l (.exact o ao) ω) e (fun o' a => ∃ ω', o' = updO l (.exact o ao) ω' ∧ (l, ao) ∈ ω' ∧ Φ ω' a)) : TV c env ρ ω e Φ := fun I mu s Q E X W q => by
  obtain ⟨o, W'⟩ := W.exact hl
  exact h o I mu s Q E X W' ⟨fun v av o' s' I' mu' g r ⟨ω', e, m, p⟩ => by subst e; exact q.on _ _ _ _ _ _ (g.exact' m) r p, fun ex C o' s' I' mu' g x ⟨ω', e, m, p⟩ => by subst e; exact q.up _ _ _ _ _ _ (g.exact' m) x p⟩
theorem TX.exact {st : Stmt} {l : Addr} {ao : AO} (hl : (l, ao) ∈ ω) (h : ∀ o, TX c env ρ (updO l (.exact o ao) ω) st (fun f r o' => ∃ ω', o' = updO l (.exact o ao) ω' ∧ (l, ao) ∈ ω' ∧ Ψ f r ω')) : TX c env ρ ω st Ψ := fun I mu s Q E X W q => by
  obtain ⟨o, W'⟩ := W.exact hl
  exact h o I mu s Q E X W' ⟨fun f fl ρ' o' s' I' mu' g r ⟨ω', e, m, p⟩ => by subst e; exact q.on _ _ _ _ _ _ _ (g.exact' m) r p, fun ex C ρ' o' s' I' mu' g x ⟨ω', e, m, p⟩ => by subst e; exact q.up _ _ _ _ _ _ _ (g.exact' m) x p⟩
end

theorem getA_true (xs : List Str) (x : Str) : (getA (trueD xs) x).isSome = decide (x ∈ xs) := by
  unfold getA
  rw [Option.isSome_map, ← any_true, Bool.eq_iff_iff, List.find?_isSome, List.any_eq_true]
theorem isdirty_cv {lv : Nat} (hlv : lv ≤ 15) (G : GG) (x : Str) (hn : (G.nm.map (·.1)).Nodup) (hz : G.nm.length ≤ 900) : CS lv 120 [vR G.g, dS x] G.os G.os (dB (G.nm.any fun p => decide (x ∈ p.2.2))) := by
  refine CV.defC (xs := ["self", "name"]) [] (fun n => [(n + 2, .cell (some (dS x))), (n + 1, .cell (some (vR G.g)))]) (fun w => rfl) (fun w => by kernel_rfl) (fun vals h => ?_) (fun x av h => by cases h) (fun n => rfl) ?_ ?_ ?_ ?_ hlv rfl rfl rfl fun c L hc hL => ?_
  · match vals, h with
    | [a, b], _ => rfl
  · intro n x hx
    rcases List.mem_cons.mp hx with rfl | hx
    · exact .inr ⟨rfl, rfl⟩
    · rcases List.mem_singleton.mp hx with rfl
      exact .inr ⟨rfl, rfl⟩
  · decide +kernel
  · decide +kernel
  · decide +kernel
  refine TS.nd fun nd => ?_
  obtain ⟨n2, nd⟩ := nd_cons nd
  obtain ⟨n1, nd⟩ := nd_cons nd
  have N := nd6 nd
  have nL : ∀ b ∈ keys G.os, L + 1 ≠ b := fun b h e => n1 b h e.symm
  have nL2 : ∀ b ∈ keys G.os, L + 2 ≠ b := fun b h e => n2 b (.tail _ h) e.symm
  have hdn : (G.dn, AO.idict (mapV (fun p => vR p.1) G.nm)) ∈ [(L + 2, AO.cell (some (dS x))), (L + 1, AO.cell (some (vR G.g)))] ++ G.os := List.mem_append_right _ G.m_dn
  refine TS.last (TX.ret (TE.bf1 (a := .d (.list ((G.nm.map fun p => decide (x ∈ p.2.2)).map .bool))) (TE.builtin hc (by kernel_rfl) (by kernel_rfl) (by decide) rfl) (TE.exact hdn fun o => ?_) (CB.any (bs := G.nm.map fun p => decide (x ∈ p.2.2)) hc ?_ ⟨rfl, ?_⟩)) (Fin.drop ⟨rfl, rfl⟩))
  · have hIn : G.In (updO G.dn (.exact o (.idict (mapV (fun p => vR p.1) G.nm))) ([(L + 2, AO.cell (some (dS x))), (L + 1, AO.cell (some (vR G.g)))] ++ G.os)) := ⟨updO_in (.tail _ (.tail _ G.in_os.1)) N.h0.2.2.1, updO_in (.tail _ (.tail _ G.in_os.2)) N.h1.2.1⟩
    have hcell := updO_in (ao := .exact o (.idict (mapV (fun p => vR p.1) G.nm))) (show (L + 1, AO.cell (some (vR G.g))) ∈ [(L + 2, AO.cell (some (dS x))), (L + 1, AO.cell (some (vR G.g)))] ++ G.os from .tail _ (.head _)) (nL _ G.k_dn)
    have hcell2 := updO_in (ao := .exact o (.idict (mapV (fun p => vR p.1) G.nm))) (show (L + 2, AO.cell (some (dS x))) ∈ [(L + 2, AO.cell (some (dS x))), (L + 1, AO.cell (some (vR G.g)))] ++ G.os from .head _) (nL2 _ G.k_dn)
    have hex := updO_self (ao := .exact o (.idict (mapV (fun p => vR p.1) G.nm))) hdn
    refine TE.to (TE.comp _ (G.nm.map fun p => some (PyData.bool (decide (x ∈ p.2.2)))) (fun a => [("txg", a)]) hc ⟨rfl, by decide +kernel, rfl, by decide +kernel, fun _ => rfl⟩ (GG.f_names G hc (TE.cell (.inl rfl) rfl hcell) hIn) (SRC.dict kI hc hex fun w I v k h => kI_rd h) (by simp [mapV]) (by simp [mapV]; omega)
      (fun C ρ' a _ => TA.name rfl) (fun C ρ' i a o' h1 h2 => ?_)) ?_
    · rw [List.getElem?_map] at h2
      obtain ⟨p, hp, rfl⟩ := Option.map_eq_some_iff.mp h2
      have hm := List.mem_of_getElem? hp
      have ha : a = dI p.1 := by
        rw [List.getElem?_map, mapV, List.getElem?_map, hp] at h1
        exact (Option.some.inj h1).symm
      subst ha
      have hin : (p.2.1, AO.sdict (trueD p.2.2)) ∈ updO G.dn (.exact o (.idict (mapV (fun p => vR p.1) G.nm))) ([(L + 2, AO.cell (some (dS x))), (L + 1, AO.cell (some (vR G.g)))] ++ G.os) :=
        updO_in (.tail _ (.tail _ (G.m_in (k := p.1) hm))) fun e => N.h3.2.2 (e ▸ List.mem_map.mpr ⟨_, List.mem_map.mpr ⟨p, hm, rfl⟩, rfl⟩)
      refine ⟨_, rfl, TE.to (TE.cmp (TE.cell (.inl rfl) rfl hcell2) (TE.item kI (k := p.1) (av := vR p.2.1) (GG.f_names G hc (TE.cell (.inl rfl) rfl hcell) hIn) (TE.name rfl) (.inr ⟨o, hex⟩) ?_) (OpR.inD kS (.inl hin) x)) ?_⟩
      · rw [getA_mapV, getP_nodup (v := p.2) hn hm]; rfl
      · rw [getA_true]
    · simp [List.filterMap_map, Function.comp_def]
  · refine .inl ⟨(G.nm.map fun p => decide (x ∈ p.2.2)).map .bool, rfl, by simp [Function.comp_def]⟩
  · rw [List.any_map]; rfl

noncomputable def pairs (l : List (Int × Int)) : List PyData := l.map pI
/-- the numbers of the tickets that are due -/
noncomputable def GG.due (G : GG) : List Int := (G.tick.filter fun t => decide (t.2 ≤ G.la)).map (·.1)
noncomputable def ρ2 (x y : Str) : AV → Vs
  | .d (.tuple [p, q]) => [(y, .d q), (x, .d p)]
  | _ => []
theorem tick_at {l : List (Int × Int)} {i : Nat} {a : AV} (h : (l.map fun t => AV.d (pI t))[i]? = some a) : ∃ t, l[i]? = some t ∧ a = .d (pI t) := by
  rw [List.getElem?_map] at h
  obtain ⟨t, h1, h2⟩ := Option.map_eq_some_iff.mp h
  exact ⟨t, h1, h2.symm⟩
theorem tick_any {l : List (Int × Int)} {a : AV} (h : a ∈ l.map fun t => AV.d (pI t)) : ∃ t : Int × Int, a = .d (pI t) := by
  obtain ⟨t, _, rfl⟩ := List.mem_map.mp h
  exact ⟨t, rfl⟩
theorem fm_filter2 {α β : Type} (l : List α) (p : α → Prop) [DecidablePred p] (f : α → β) : (List.filterMap _root_.id (l.map fun t => if p t then some (f t) else none)) = (l.filter fun t => decide (p t)).map f := by
  rw [List.filterMap_map]
  induction l with
  | nil => rfl
  | cons a l ih =>
    by_cases h : p a
    · simp only [List.filterMap_cons, Function.comp, h, if_true, _root_.id, List.filter_cons, decide_true, List.map_cons, ← ih]
    · simp only [List.filterMap_cons, Function.comp, h, if_false, _root_.id, List.filter_cons, decide_false, Bool.false_eq_true, ← ih]
theorem perm8 {α : Type} (d k a0 a1 a2 a3 a4 a5 : α) (r : List α) : (d :: k :: a0 :: a1 :: a2 :: a3 :: a4 :: a5 :: r).Perm ([k, a5] ++ (a0 :: a1 :: a2 :: a3 :: a4 :: d :: r)) := by
  have h1 : (d :: k :: a0 :: a1 :: a2 :: a3 :: a4 :: a5 :: r).Perm (d :: k :: a5 :: a0 :: a1 :: a2 :: a3 :: a4 :: r) := .cons _ (.cons _ (List.perm_middle (l₁ := [a0, a1, a2, a3, a4])))
  have h2 : ([k, a5] ++ (a0 :: a1 :: a2 :: a3 :: a4 :: d :: r)).Perm (k :: a5 :: d :: a0 :: a1 :: a2 :: a3 :: a4 :: r) := .cons _ (.cons _ (List.perm_middle (l₁ := [a0, a1, a2, a3, a4])))
  exact h1.trans ((List.perm_middle (l₁ := [k, a5]) (a := d)).symm.trans h2.symm)
theorem served_cv {lv : Nat} (hlv : lv ≤ 15) (G : GG) (hz : G.tick.length ≤ 900) : CV lv 193 [vR G.g] G.os (fun o a => a = .val (.d (.list (G.due.map .int))) ∧ ∃ D, o = GG.os { G with lt := D, tick := G.tick.filter fun t => decide (t.2 > G.la) }) := by
  refine CV.defC (xs := ["self"]) [] (fun n => [(n + 1, .cell (some (vR G.g)))]) (fun w => rfl) (fun w => by kernel_rfl) (fun vals h => ?_) (fun x av h => by cases h) (fun n => rfl) ?_ ?_ ?_ ?_ hlv rfl rfl rfl fun c L hc hL => ?_
  · match vals, h with
    | [a], _ => rfl
  · intro n x hx
    rcases List.mem_singleton.mp hx with rfl
    exact .inr ⟨rfl, rfl⟩
  · decide +kernel
  · decide +kernel
  · decide +kernel
  refine TS.nd fun nd => ?_
  obtain ⟨n1, nd'⟩ := nd_cons nd
  have N := nd6 nd'
  have nL : ∀ b ∈ keys G.os, L + 1 ≠ b := fun b h e => n1 b h e.symm
  have hlt : (G.lt, AO.list (G.tick.map fun t => .d (pI t))) ∈ [(L + 1, AO.cell (some (vR G.g)))] ++ G.os := List.mem_append_right _ G.m_lt
  have hIn : ∀ o, G.In (updO G.lt (.exact o (.list (G.tick.map fun t => .d (pI t)))) ([(L + 1, AO.cell (some (vR G.g)))] ++ G.os)) := fun o => ⟨updO_in (.tail _ G.in_os.1) N.h0.2.2.2.2.1, updO_in (.tail _ G.in_os.2) N.h1.2.2.2.1⟩
  have hcell := fun o => updO_in (ao := .exact o (.list (G.tick.map fun t => .d (pI t)))) (show (L + 1, AO.cell (some (vR G.g))) ∈ [(L + 1, AO.cell (some (vR G.g)))] ++ G.os from .head _) (nL _ G.k_lt)
  have hex := fun o => updO_self (ao := .exact o (.list (G.tick.map fun t => .d (pI t)))) hlt
  refine TS.seq (ω₁ := [(L + 1, AO.cell (some (vR G.g)))] ++ G.os) (ρ₁ := [("found", .d (.list (G.due.map .int)))]) (TX.exact hlt fun o => (TX.assignComp _ (G.tick.map fun t => if t.2 ≤ G.la then some (PyData.int t.1) else none) (ρ2 "number" "txg") hc ⟨rfl, by decide +kernel, rfl, by decide +kernel, fun _ => rfl⟩ (GG.f_tickets G hc (TE.cell (.inl rfl) rfl (hcell o)) (hIn o)) (SRC.own hc (hex o)) (by simp) (by simp; omega) rfl rfl
    (fun C ρ' a h => ?_) (fun C ρ' i a o' h1 h2 => ?_)).mono fun f r o' h => ?_) ?_
  · obtain ⟨t, rfl⟩ := tick_any h
    exact TA.pair hc rfl rfl
  · obtain ⟨t, ht, rfl⟩ := tick_at h1
    rw [List.getElem?_map, ht] at h2
    cases h2
    refine ⟨decide (t.2 ≤ G.la), TT.cmp (TE.name rfl) (GG.f_last G hc (TE.cell (.inl rfl) rfl (hcell o)) (hIn o)) (OpR.le _ _), fun h => ?_, fun h => ⟨.d (.int t.1), ?_, TE.name rfl⟩⟩
    · exact congrArg (Option.map AV.d) (if_neg (of_decide_eq_false h))
    · exact congrArg (Option.map AV.d) (if_pos (of_decide_eq_true h))
  · obtain ⟨rfl, rfl, rfl⟩ := h
    refine ⟨_, rfl, hlt, rfl, ?_, rfl⟩
    rw [show (List.filterMap _root_.id (G.tick.map fun t => if t.2 ≤ G.la then some (PyData.int t.1) else none)) = G.due.map .int from (fm_filter2 _ _ _).trans (by unfold GG.due; rw [List.map_map]; rfl)]
  refine TS.cons (Ψ₁ := fun f r o => f = .next ∧ r = ([("found", .d (.list (G.due.map .int)))] : Vs) ∧ ∃ D, o = (D, AO.list ((G.tick.filter fun t => decide (t.2 > G.la)).map fun t => .d (pI t))) :: (L + 1, AO.cell (some (vR G.g))) ::
      os6 G.g G.dx G.dh G.dn G.ds G.lt (.raw (instObj 206 G.dx)) (.ns 10 (GG.fs { G with lt := D })) (.idict (mapV dI G.holds)) (.idict (mapV (fun p => vR p.1) G.nm)) (.idict (mapV dI G.spent)) (.list (G.tick.map fun t => .d (pI t))) (inn G.nm)) ?_ (fun r o h => ?_) (fun a r o h => nomatch h.1) (fun C r o h => nomatch h.1)
  · refine TX.setattrV (g := G.g) (dx := G.dx) (C := 206) (n := 10) (Φ := fun o a => ∃ D, D ∉ keys ([(L + 1, AO.cell (some (vR G.g)))] ++ G.os) ∧ a = .val (vR D) ∧ o = (D, AO.list ((G.tick.filter fun t => decide (t.2 > G.la)).map fun t => .d (pI t))) :: ([(L + 1, AO.cell (some (vR G.g)))] ++ G.os)) hc
      (TV.exact hlt fun o => TV.comp _ (G.tick.map fun t => if t.2 > G.la then some (AV.d (pI t)) else none) (ρ2 "number" "txg") hc ⟨rfl, by decide +kernel, rfl, by decide +kernel, fun _ => rfl⟩ (GG.f_tickets G hc (TE.cell (.inl rfl) rfl (hcell o)) (hIn o)) (SRC.own hc (hex o)) (by simp) (by simp; omega)
        (fun C ρ' a h => ?_) (fun C ρ' i a o' h1 h2 => ?_) fun D hD => ?_) (fun o C h => by obtain ⟨D, _, h, _⟩ := h; cases h) (fun o₁ a h => ?_) (st_tickets _) (by omega)
    · obtain ⟨t, rfl⟩ := tick_any h
      exact TA.pair hc rfl rfl
    · obtain ⟨t, ht, rfl⟩ := tick_at h1
      rw [List.getElem?_map, ht] at h2
      cases h2
      refine ⟨decide (t.2 > G.la), TT.cmp (TE.name rfl) (GG.f_last G hc (TE.cell (.inl rfl) rfl (hcell o)) (hIn o)) (OpR.gt _ _), fun h => ?_, fun h => ⟨.d (pI t), ?_, TE.tuple (ds := [.int t.1, .int t.2]) (TEs.cons (TE.name rfl) (TEs.cons (TE.name rfl) TEs.nil)) (by simp)⟩⟩
      · exact if_neg (show ¬ t.2 > G.la from of_decide_eq_false h)
      · exact if_pos (show t.2 > G.la from of_decide_eq_true h)
    · rw [updO_keys] at hD
      have hne : D ≠ G.lt := fun e => hD (e ▸ List.mem_map_of_mem (f := Prod.fst) hlt)
      refine ⟨(D, AO.list ((G.tick.filter fun t => decide (t.2 > G.la)).map fun t => .d (pI t))) :: ([(L + 1, AO.cell (some (vR G.g)))] ++ G.os), ?_, .tail _ hlt, D, hD, rfl, rfl⟩
      rw [updO_cons_ne hne, show (List.filterMap _root_.id (G.tick.map fun t => if t.2 > G.la then some (AV.d (pI t)) else none)) = (G.tick.filter fun t => decide (t.2 > G.la)).map fun t => .d (pI t) from fm_filter2 _ _ _]
    · obtain ⟨D, hD, hv, rfl⟩ := h
      cases hv
      have nD : ∀ b ∈ keys ([(L + 1, AO.cell (some (vR G.g)))] ++ G.os), D ≠ b := fun b hb e => hD (e ▸ hb)
      refine ⟨G.fs, _, TE.cell (.inl rfl) rfl (.tail _ (.head _)), .tail _ (.tail _ G.in_os.1), .tail _ (.tail _ G.in_os.2), rfl, rfl, rfl, D, ?_⟩
      have k_dx : G.dx ∈ keys G.os := .tail _ (.head _)
      rw [GG.u_tickets, updO_cons_ne (nD _ (.tail _ k_dx)), List.singleton_append, updO_cons_ne (nL _ k_dx)]
      congr 2
      exact up1 N _
  · obtain ⟨_, rfl, D, rfl⟩ := h
    refine TS.last (TX.ret (TE.name rfl) ⟨GG.os { G with lt := D, tick := G.tick.filter fun t => decide (t.2 > G.la) }, [(L + 1, AO.cell (some (vR G.g))), (G.lt, AO.list (G.tick.map fun t => .d (pI t)))], ?_, rfl, D, rfl⟩)
    exact perm8 _ _ _ _ _ _ _ _ _
end Mine
set_option Elab.async false
set_option maxRecDepth 100000
set_option linter.unusedVariables false
namespace Mine
open PySem PySem.W PySem.Calls PyProof.Rows PySem.Spec PyProof.Rows.LCg

theorem Fin.perm {Φ : Os → Oc → Prop} {a : AV} {ρ : Vs} {ω ω' : Os} (ωr : Os) (h : Φ ω' (.val a)) (p : ω.Perm (ωr ++ ω')) : Fin Φ (.ret a) ρ ω := ⟨ω', ωr, p, h⟩
noncomputable def GG.wait (G : GG) : List Int := srtI (dedup (G.tick.map (·.2)))
theorem waiting_cv {lv : Nat} (hlv : lv ≤ 15) (G : GG) (hz : G.tick.length < 64) : CS lv 198 [vR G.g] G.os G.os (.d (.list (G.wait.map .int))) := by
  refine CV.nd fun nd => ?_
  have N := nd6 nd
  refine CV.def (xs := ["self"]) (fun w => rfl) (fun w => by kernel_rfl) (fun vals h => ?_) ?_ ?_ ?_ hlv rfl rfl rfl fun c L hc hL => ?_
  · match vals, h with
    | [a], _ => rfl
  · decide +kernel
  · decide +kernel
  · decide +kernel
  have hIn : ∀ o, G.In (updO G.lt (.exact o (.list (G.tick.map fun t => .d (pI t)))) G.os) := fun o => ⟨updO_in G.in_os.1 N.h0.2.2.2.2.1, updO_in G.in_os.2 N.h1.2.2.2.1⟩
  have hex := fun o => updO_self (ao := .exact o (.list (G.tick.map fun t => .d (pI t)))) G.m_lt
  refine TS.last (TX.retV (Φ := fun o a => a = .val (.d (.list (G.wait.map .int))) ∧ ∃ D x, o = (D, x) :: G.os) (TV.bf1 (id := "sorted") (Φ₁ := fun o a => a = .val (.fz fun o => ∃ kvs, o.IsDictOf (kI.knd c.w) kvs ∧ kvs.map (·.1) = dedup (G.tick.map (·.2))) ∧ ∃ D x, o = (D, x) :: G.os) (TE.builtin hc (by kernel_rfl) (by kernel_rfl) (by decide) rfl)
    (TV.bt1 (T := "dict") (Φ₁ := fun o a => ∃ D, a = .val (vR D) ∧ o = (D, AO.list ((G.tick.map fun t => (t.2, PyData.bool true)).map fun p => .d (.tuple [sI.enc p.1, p.2]))) :: G.os) (TE.builtin hc (by kernel_rfl) (by kernel_rfl) (by decide) rfl)
      (TV.exact G.m_lt fun o => TV.comp _ (G.tick.map fun t => some (AV.d (.tuple [.int t.2, .bool true]))) (ρ2 "number" "txg") hc ⟨rfl, by decide +kernel, rfl, by decide +kernel, fun _ => rfl⟩ (GG.f_tickets G hc (TE.name rfl) (hIn o)) (SRC.own hc (hex o)) (by simp) (by simp; omega)
        (fun C ρ' a h => ?_) (fun C ρ' i a o' h1 h2 => ?_) fun D hD => ?_) (fun o a h => ?_) (fun o C h => by obtain ⟨D, h, _⟩ := h; cases h)) (fun o a h => ?_) (fun o C h => nomatch h.1)) (fun o a h => ?_) (fun o C h => nomatch h.1))
  · obtain ⟨t, rfl⟩ := tick_any h
    exact TA.pair hc rfl rfl
  · obtain ⟨t, ht, rfl⟩ := tick_at h1
    rw [List.getElem?_map, ht] at h2
    cases h2
    exact ⟨_, rfl, TE.tuple (ds := [.int t.2, .bool true]) (TEs.cons (TE.name rfl) (TEs.cons (TE.const_bool true _ _) TEs.nil)) (by simp)⟩
  · rw [updO_keys] at hD
    have hne : D ≠ G.lt := fun e => hD (e ▸ G.k_lt)
    refine ⟨(D, AO.list ((G.tick.map fun t => (t.2, PyData.bool true)).map fun p => .d (.tuple [sI.enc p.1, p.2]))) :: G.os, ?_, .tail _ G.m_lt, D, rfl, rfl⟩
    rw [updO_cons_ne hne]
    congr 2
    rw [List.filterMap_map, List.map_map]
    simp [Function.comp_def]
    intro a b _; rfl
  · obtain ⟨D, h, rfl⟩ := h
    cases h
    refine CB.dictP sI (ps := G.tick.map fun t => (t.2, PyData.bool true)) hc (.head _) (by simp; omega) ⟨?_, D, _, rfl⟩
    rw [List.map_map]
    rfl
  · obtain ⟨h, D, x, rfl⟩ := h
    cases h
    exact CB.sorted sI (ks := dedup (G.tick.map (·.2))) hc (.inr (.inl ⟨_, rfl, fun o ⟨kvs, h1, h2⟩ => ⟨kvs, h1, h2.symm⟩⟩)) (Nat.lt_of_le_of_lt (dedup_len _) (by simpa using hz)) ⟨rfl, D, x, rfl⟩
  · obtain ⟨h, D, x, rfl⟩ := h
    cases h
    exact Fin.drop (ωr := [(D, x)]) ⟨rfl, rfl⟩

/-! ## quiesce, close, done -/
noncomputable def GG.q (G : GG) (A : Addr) : GG := { G with cl := some G.op, op := G.op + 1, holds := storedP G.holds (G.op + 1) 0, nm := G.nm ++ [(G.op + 1, A, [])], spent := storedP G.spent (G.op + 1) 0 }
theorem storedP_new {K β : Type} [DecidableEq K] {h : List (K × β)} {k : K} (n : ∀ p ∈ h, p.1 ≠ k) (v : β) : storedP h k v = h ++ [(k, v)] := by
  unfold storedP
  rw [if_neg]
  intro q
  obtain ⟨p, hp, e⟩ := List.any_eq_true.mp q
  exact n p hp (of_decide_eq_true e)
theorem inn_append (a b : List (Int × Addr × List Str)) : inn (a ++ b) = inn a ++ inn b := List.map_append
theorem quiesce_cv {lv : Nat} (hlv : lv ≤ 12) (G : GG) (hnew : ∀ p ∈ G.nm, p.1 ≠ G.op + 1) (hz : G.holds.length ≤ 900 ∧ G.nm.length ≤ 900 ∧ G.spent.length ≤ 900) : CV lv 146 [vR G.g] G.os
    (fun o a => if G.cl.isSome = true then o = G.os ∧ a = .exc 44 else ∃ A, o = (G.q A).os ∧ a = .val (dI G.op)) := by
  refine CV.nd fun nd => ?_
  have N := nd6 nd
  refine CV.def (xs := ["self"]) (fun w => rfl) (fun w => by kernel_rfl) (fun vals h => ?_) ?_ ?_ ?_ (by omega) rfl rfl rfl fun c L hc hL => ?_
  · match vals, h with
    | [a], _ => rfl
  · decide +kernel
  · decide +kernel
  · decide +kernel
  refine TS.guard (TT.cmp (GG.f_closing G hc (TE.name rfl) G.in_os) (TE.const_none _ _) (OpR.isNotN G.cl)) (fun h => ?_) fun h => ?_
  · exact TS.last (TX.raise hc (by omega) xcls44 xset44 (by kernel_rfl) (TE.global hc (by kernel_rfl) rfl) (TE.const_str _ _ _) ⟨nofun, Fin.exc (by rw [if_pos h]; exact ⟨rfl, rfl⟩)⟩)
  refine TS.seq (TX.to (TX.setattr hc (GG.f_open G hc (TE.name rfl) G.in_os) (TE.name rfl) G.in_os.1 G.in_os.2 (st_closing _) (by omega) rfl) (ω₂ := GG.os { G with cl := some G.op }) ?_) ?_
  · refine (congrArg (fun x => updO G.dx (.ns 10 x) G.os) (GG.u_closing G (some G.op))).trans (up1 N _)
  refine TS.seq (TX.to (TX.setattr hc (TE.add (GG.f_open { G with cl := some G.op } hc (TE.name rfl) (GG.in_os _)) (TE.const_int 1 _ _)) (TE.name rfl) (GG.in_os { G with cl := some G.op }).1 (GG.in_os { G with cl := some G.op }).2 (st_open _) (by omega) rfl) (ω₂ := GG.os { G with cl := some G.op, op := G.op + 1 }) ?_) ?_
  · rw [GG.u_open]; exact up1 N _
  refine TS.seq (TX.to (TX.setsub kI (k := G.op + 1) (TE.const_int 0 _ _) (GG.f_holds { G with cl := some G.op, op := G.op + 1 } hc (TE.name rfl) (GG.in_os _)) (GG.f_open { G with cl := some G.op, op := G.op + 1 } hc (TE.name rfl) (GG.in_os _)) (GG.m_dh { G with cl := some G.op, op := G.op + 1 }) (by rw [mapV_len]; show G.holds.length ≤ _; omega)) (ω₂ := GG.os { G with cl := some G.op, op := G.op + 1, holds := storedP G.holds (G.op + 1) 0 }) ?_) ?_
  · rw [storedA_mapV]; exact up2 N _
  let G3 : GG := { G with cl := some G.op, op := G.op + 1, holds := storedP G.holds (G.op + 1) 0 }
  refine TS.cons (Ψ₁ := fun f r o => f = .next ∧ r = ([("self", vR G.g)] : Vs) ∧ ∃ A, A ∉ keys G3.os ∧ o = (A, AO.sdict []) :: os6 G.g G.dx G.dh G.dn G.ds G.lt (.raw (instObj 206 G.dx)) (.ns 10 G3.fs) (.idict (mapV dI G3.holds)) (.idict (mapV (fun p => vR p.1) (G.nm ++ [(G.op + 1, A, [])]))) (.idict (mapV dI G.spent)) (.list (G.tick.map fun t => .d (pI t))) (inn G.nm)) ?_ (fun r o h => ?_) (fun a r o h => nomatch h.1) (fun C r o h => nomatch h.1)
  · refine TX.setsubV kI (Φ := fun o a => ∃ A, A ∉ keys G3.os ∧ o = (A, AO.sdict []) :: G3.os ∧ a = .val (vR A)) (TV.dict0 kS hc fun A hA => ⟨A, hA, rfl, rfl⟩) (fun o C h => by obtain ⟨A, _, _, h⟩ := h; cases h) fun o a h => ?_
    obtain ⟨A, hA, rfl, h⟩ := h
    cases h
    have hI : G3.In ((A, AO.sdict []) :: G3.os) := ⟨.tail _ (GG.in_os G3).1, .tail _ (GG.in_os G3).2⟩
    refine ⟨G.dn, mapV (fun p => vR p.1) G.nm, G.op + 1, _, _, GG.f_names G3 hc (TE.name rfl) hI, GG.f_open G3 hc (TE.name rfl) hI, .tail _ (GG.m_dn G3), by rw [mapV_len]; omega, rfl, rfl, A, hA, ?_⟩
    have hne : A ≠ G.dn := fun e => hA (e ▸ GG.k_dn G3)
    rw [updO_cons_ne hne, show storedA (mapV (fun p : Addr × List Str => vR p.1) G.nm) (G.op + 1) (vR A) = mapV (fun p => vR p.1) (storedP G.nm (G.op + 1) (A, [])) from storedA_mapV (fun p : Addr × List Str => vR p.1) G.nm (G.op + 1) (A, []), storedP_new hnew]
    congr 1
    exact up3 N _
  · obtain ⟨_, rfl, A, hA, rfl⟩ := h
    have hI : ∀ (x : AO) (y : AO), GG.In G3 ((A, AO.sdict []) :: os6 G.g G.dx G.dh G.dn G.ds G.lt (.raw (instObj 206 G.dx)) (.ns 10 G3.fs) (.idict (mapV dI G3.holds)) x y (.list (G.tick.map fun t => .d (pI t))) (inn G.nm)) := fun x y => ⟨.tail _ (.head _), .tail _ (.tail _ (.head _))⟩
    have hne : A ≠ G.ds := fun e => hA (e ▸ GG.k_ds G3)
    refine TS.seq (TX.to (TX.setsub kI (k := G.op + 1) (TE.const_int 0 _ _) (GG.f_spent G3 hc (TE.name rfl) (hI _ _)) (GG.f_open G3 hc (TE.name rfl) (hI _ _)) (fs := mapV dI G.spent) (.tail _ (.tail _ (.tail _ (.tail _ (.tail _ (.head _)))))) (by rw [mapV_len]; omega)) (ω₂ := (A, AO.sdict []) :: os6 G.g G.dx G.dh G.dn G.ds G.lt (.raw (instObj 206 G.dx)) (.ns 10 G3.fs) (.idict (mapV dI G3.holds)) (.idict (mapV (fun p => vR p.1) (G.nm ++ [(G.op + 1, A, [])]))) (.idict (mapV dI (storedP G.spent (G.op + 1) 0))) (.list (G.tick.map fun t => .d (pI t))) (inn G.nm)) ?_) ?_
    · rw [updO_cons_ne hne, storedA_mapV]
      congr 1
      exact up4 N _
    · refine TS.last (TX.ret (TE.to (GG.f_closing G3 hc (TE.name rfl) (hI _ _)) rfl) (Fin.perm [] ?_ (?_ : List.Perm _ (GG.os (G.q A)))))
      · rw [if_neg (by rw [h]; decide)]
        exact ⟨A, rfl, rfl⟩
      · unfold GG.os os6
        show List.Perm _ (_ :: _ :: _ :: _ :: _ :: _ :: inn (G.nm ++ [(G.op + 1, A, [])]))
        rw [inn_append]
        exact (List.perm_append_singleton (A, AO.sdict []) (os6 G.g G.dx G.dh G.dn G.ds G.lt (.raw (instObj 206 G.dx)) (.ns 10 G3.fs) (.idict (mapV dI G3.holds)) (.idict (mapV (fun p => vR p.1) (G.nm ++ [(G.op + 1, A, [])]))) (.idict (mapV dI (storedP G.spent (G.op + 1) 0))) (.list (G.tick.map fun t => .d (pI t))) (inn G.nm))).symm
end Mine
set_option Elab.async false
set_option maxRecDepth 100000
set_option linter.unusedVariables false
namespace Mine
open PySem PySem.W PySem.Calls PyProof.Rows PySem.Spec PyProof.Rows.LCg

section
variable {K β : Type} [DecidableEq K]
theorem getP_cons (p : K × β) (h : List (K × β)) (k : K) : getP (p :: h) k = if p.1 = k then some p.2 else getP h k := by
  unfold getP
  rw [List.find?_cons]
  by_cases e : p.1 = k
  · simp [e]
  · simp [e]
theorem getP_append (h h' : List (K × β)) (k : K) : getP (h ++ h') k = match getP h k with | some v => some v | none => getP h' k := by
  induction h with
  | nil => rfl
  | cons p h ih =>
    rw [List.cons_append, getP_cons, getP_cons, ih]
    split <;> rfl
theorem getP_none {h : List (K × β)} {k : K} : getP h k = none ↔ ∀ p ∈ h, p.1 ≠ k := by
  unfold getP
  rw [Option.map_eq_none_iff, List.find?_eq_none]
  constructor
  · exact fun H p hp e => H p hp (decide_eq_true e)
  · exact fun H p hp e => H p hp (of_decide_eq_true e)
theorem getP_map (h : List (K × β)) (k : K) (v : β) (k' : K) : getP (h.map fun kv => if kv.1 = k then (kv.1, v) else kv) k' = if k' = k then (getP h k).map (fun _ => v) else getP h k' := by
  induction h with
  | nil => simp [getP]
  | cons p h ih =>
    rw [List.map_cons, getP_cons, ih, getP_cons, getP_cons]
    by_cases e1 : p.1 = k <;> by_cases e2 : k' = k
    · subst e2; simp [e1]
    · have : ¬ k = k' := fun e => e2 e.symm
      simp [e1, e2, this]
    · subst e2; simp [e1]
    · simp [e1, e2]
theorem getP_stored (h : List (K × β)) (k : K) (v : β) (k' : K) : getP (storedP h k v) k' = if k' = k then some v else getP h k' := by
  unfold storedP
  split
  · rename_i e
    rw [getP_map]
    by_cases e2 : k' = k
    · rw [if_pos e2, if_pos e2]
      cases q : getP h k with
      | some _ => rfl
      | none =>
        obtain ⟨p, hp, e3⟩ := List.any_eq_true.mp e
        exact absurd (of_decide_eq_true e3) (getP_none.mp q p hp)
    · rw [if_neg e2, if_neg e2]
  · rename_i e
    have hn : getP h k = none := getP_none.mpr fun p hp e' => e (List.any_eq_true.mpr ⟨p, hp, decide_eq_true e'⟩)
    rw [getP_append]
    by_cases e2 : k' = k
    · subst e2; rw [hn, if_pos rfl]; simp [getP]
    · rw [if_neg e2]
      cases getP h k' with
      | some _ => rfl
      | none => simp [getP, Ne.symm e2]
theorem getP_without (h : List (K × β)) (k k' : K) : getP (withoutP h k) k' = if k' = k then none else getP h k' := by
  unfold withoutP
  induction h with
  | nil => simp [getP]
  | cons p h ih =>
    rw [List.filter_cons, getP_cons]
    by_cases e1 : p.1 = k
    · simp only [e1, ne_eq, not_true, decide_false]
      rw [if_neg (by decide), ih]
      by_cases e2 : k' = k
      · rw [if_pos e2, if_pos e2]
      · rw [if_neg e2, if_neg e2, if_neg (Ne.symm e2)]
    · simp only [e1, ne_eq, not_false_eq_true, decide_true, if_true, getP_cons, ih]
      by_cases e2 : k' = k
      · subst e2; simp [e1]
      · simp [e2]
end

section
variable {c : Cx} {env : Env} {ρ : Vs} {lv : Nat}
/-- a method that asks, of no arguments -/
theorem GG.meth0 (G : GG) {es : Expr} {x : Str} {f : Addr} {ap p : Pos} {av : AV} (hc : c.Ok lv) (hself : TE c env ρ G.os es G.os (vR G.g)) (hl : G.fs.lookup x = none) (hm : metIn (KK c.w) 206 x f = true) (hk : keepIn (KK c.w) (.ref f) = true) (hs : CS lv f [vR G.g] G.os G.os av)
    (pl : Sem Bool) (he : eval (.Call (.Attribute es x ap) [] [] p) env = (do
      let ov ← eval es env
      standAt ap.atName
      let (f, first) ← holding [ov] (getMethod ov x pl)
      callWith p f first (backTo p (starEach [] env)) []) := by rfl) : TE c env ρ G.os (.Call (.Attribute es x ap) [] [] p) G.os av :=
  TV.e (TV.callM0 (pl := pl) (rest := []) hc hself (GG.in_os G).1 (GG.in_os G).2 hl hm hk hs (by rw [List.append_nil]) (ph_to (by rw [List.append_nil])) he)
end

theorem close_cv {lv : Nat} (hlv : lv ≤ 11) (G : GG) (hnew : ∀ p ∈ G.nm, p.1 ≠ G.op + 1) (hz : G.holds.length ≤ 900 ∧ G.nm.length ≤ 900 ∧ G.spent.length ≤ 900) (h1 : ∀ k, G.cl = some k → (getP G.holds k).isSome = true) (h2 : (getP G.holds G.op).isSome = true) : CV lv 160 [vR G.g] G.os
    (fun o a => if G.sy.isSome = true then o = G.os ∧ a = .exc 44 else ∃ G1, ((G.cl.isSome = true ∧ G1 = G) ∨ (G.cl = none ∧ ∃ A, G1 = G.q A)) ∧
      if G1.quiet = true then o = GG.os { G1 with sy := G1.cl, cl := none } ∧ a = .val (.d (oI G1.cl)) else o = G1.os ∧ a = .exc 44) := by
  refine CV.def (xs := ["self"]) (fun w => rfl) (fun w => by kernel_rfl) (fun vals h => ?_) ?_ ?_ ?_ (by omega) rfl rfl rfl fun c L hc hL => ?_
  · match vals, h with
    | [a], _ => rfl
  · decide +kernel
  · decide +kernel
  · decide +kernel
  refine TS.guard (TT.cmp (GG.f_syncing G hc (TE.name rfl) G.in_os) (TE.const_none _ _) (OpR.isNotN G.sy)) (fun h => ?_) fun h => ?_
  · exact TS.last (TX.raise hc (by omega) xcls44 xset44 (by kernel_rfl) (TE.global hc (by kernel_rfl) rfl) (TE.const_str _ _ _) ⟨nofun, Fin.exc (by rw [if_pos h]; exact ⟨rfl, rfl⟩)⟩)
  have hsy : ¬ G.sy.isSome = true := by rw [h]; decide
  refine TS.cons (Ψ₁ := fun f r o => f = .next ∧ r = ([("self", vR G.g)] : Vs) ∧ ∃ G1, ((G.cl.isSome = true ∧ G1 = G) ∨ (G.cl = none ∧ ∃ A, G1 = G.q A)) ∧ o = G1.os)
    (TX.cond (TT.cmp (GG.f_closing G hc (TE.name rfl) G.in_os) (TE.const_none _ _) (OpR.isN G.cl)) (fun h => TS.last (TX.exprV (Φ := fun o a => a = .val (dI G.op) ∧ ∃ A, o = (G.q A).os)
      (TV.callM0 (pl := _) (rest := []) hc (TE.name rfl) G.in_os.1 G.in_os.2 rfl (by kernel_rfl) (by kernel_rfl) (quiesce_cv (by omega) G hnew hz) (by rw [List.append_nil]) (fun o a h' => ⟨o, by rw [List.append_nil], ?_⟩)) (fun o a h' => ?_) (fun o C h' => nomatch h'.1))) (fun h => TS.nil ⟨rfl, rfl, G, .inl ⟨?_, rfl⟩, rfl⟩)) (fun r o h => ?_) (fun a r o h => nomatch h.1) (fun C r o h => nomatch h.1)
  · have hn : ¬ G.cl.isSome = true := by cases e : G.cl with | none => decide | some k => rw [e] at h; cases h
    rw [if_neg hn] at h'
    obtain ⟨A, h1, h2⟩ := h'
    exact ⟨h2, A, h1⟩
  · obtain ⟨_, A, rfl⟩ := h'
    refine ⟨rfl, rfl, G.q A, .inr ⟨?_, A, rfl⟩, rfl⟩
    cases e : G.cl with
    | none => rfl
    | some k => rw [e] at h; cases h
  · cases e : G.cl with | none => rw [e] at h; cases h | some k => rfl
  · obtain ⟨_, rfl, G1, hG, rfl⟩ := h
    have hg : G1.g = G.g := by rcases hG with ⟨_, rfl⟩ | ⟨_, A, rfl⟩ <;> rfl
    have hself : ∀ {o : Os} {p : Pos}, TE c (envX "Groups.close" { kind := ScopeKind.function, names := [("self", NameKind.local), ("Busy", NameKind.globalImplicit)], isGenerator := false, isCoroutine := false } L 160 (.ref 159) []) ([("self", vR G.g)] : Vs) o (.Name "self" p) o (vR G1.g) := by
      rw [hg]; exact TE.name rfl
    have hq : ∀ k, G1.cl = some k → (getP G1.holds k).isSome = true := by
      rcases hG with ⟨_, rfl⟩ | ⟨_, A, rfl⟩
      · exact h1
      · intro k hk
        cases hk
        show (getP (storedP G.holds (G.op + 1) 0) G.op).isSome = true
        rw [getP_stored, if_neg (by omega)]
        exact h2
    have fin : ∀ {o : Os} {a : Oc}, (if G1.quiet = true then o = GG.os { G1 with sy := G1.cl, cl := none } ∧ a = .val (.d (oI G1.cl)) else o = G1.os ∧ a = .exc 44) → (fun o a => if G.sy.isSome = true then o = G.os ∧ a = .exc 44 else ∃ G1, ((G.cl.isSome = true ∧ G1 = G) ∨ (G.cl = none ∧ ∃ A, G1 = G.q A)) ∧
      if G1.quiet = true then o = GG.os { G1 with sy := G1.cl, cl := none } ∧ a = .val (.d (oI G1.cl)) else o = G1.os ∧ a = .exc 44) o a := fun h => by
      show if G.sy.isSome = true then _ else _
      rw [if_neg hsy]; exact ⟨G1, hG, h⟩
    refine TS.guard (TT.not (TT.val (GG.meth0 G1 (pl := _) hc hself rfl (by kernel_rfl) (by kernel_rfl) (quiet_cv (by omega) G1 hq)))) (fun h => ?_) fun h => ?_
    · refine TS.last (TX.raise hc (by omega) xcls44 xset44 (by kernel_rfl) (TE.global hc (by kernel_rfl) rfl) (TE.const_str _ _ _) ⟨nofun, Fin.exc (fin ?_)⟩)
      rw [if_neg (by cases q : G1.quiet with | false => decide | true => rw [q] at h; cases h)]
      exact ⟨rfl, rfl⟩
    · have hqt : G1.quiet = true := by cases q : G1.quiet with | true => rfl | false => rw [q] at h; cases h
      refine TS.nd fun nd => ?_
      have N := nd6 nd
      refine TS.seq (TX.to (TX.setattr hc (GG.f_closing G1 hc hself (GG.in_os _)) hself (GG.in_os G1).1 (GG.in_os G1).2 (st_syncing _) (by omega) rfl) (ω₂ := GG.os { G1 with sy := G1.cl }) ?_) ?_
      · rw [GG.u_syncing]; exact up1 N _
      refine TS.seq (TX.to (TX.setattr hc (TE.const_none _ _) hself (GG.in_os { G1 with sy := G1.cl }).1 (GG.in_os { G1 with sy := G1.cl }).2 (st_closing _) (by omega) rfl) (ω₂ := GG.os { G1 with sy := G1.cl, cl := none }) ?_) ?_
      · refine (congrArg (fun x => updO G1.dx (.ns 10 x) _) (GG.u_closing { G1 with sy := G1.cl } none)).trans (up1 N _)
      refine TS.last (TX.ret (GG.f_syncing { G1 with sy := G1.cl, cl := none } hc hself (GG.in_os _)) (Fin.same (fin ?_)))
      rw [if_pos hqt]
      exact ⟨rfl, rfl⟩
end Mine
set_option Elab.async false
set_option maxRecDepth 100000
set_option linter.unusedVariables false
namespace Mine
open PySem PySem.W PySem.Calls PyProof.Rows PySem.Spec PyProof.Rows.LCg

theorem inn_filter (nm : List (Int × Addr × List Str)) (k : Int) : (inn nm).Perm (inn (nm.filter fun p => decide (p.1 = k)) ++ inn (withoutP nm k)) := by
  unfold withoutP
  rw [← inn_append]
  refine (List.Perm.map _ ?_)
  have e : (nm.filter fun kv => decide (kv.1 ≠ k)) = nm.filter fun kv => !decide (kv.1 = k) := by
    refine List.filter_congr fun p _ => ?_
    simp
  rw [e]
  exact (List.filter_append_perm _ _).symm
theorem no_exact (G : GG) {b : Addr} {o : Obj} {a : AO} (h : (b, AO.exact o a) ∈ G.os) : False := by
  unfold GG.os os6 inn at h
  simp only [List.mem_cons, Prod.mk.injEq, reduceCtorEq, and_false, List.mem_map, false_or] at h
  first | exact h | (obtain ⟨p, _, h⟩ := h; cases h.2) | (obtain ⟨p, _, h⟩ := h; exact h) | simp at h
theorem done_cv {lv : Nat} (hlv : lv ≤ 12) (G : GG) (k : Int) (hz : G.holds.length ≤ 900 ∧ G.nm.length ≤ 900 ∧ G.spent.length ≤ 900) (h1 : G.sy = some k → (getP G.holds k).isSome = true ∧ (getP G.nm k).isSome = true ∧ (getP G.spent k).isSome = true) : CV lv 167 [vR G.g, dI k] G.os
    (fun o a => if G.sy = some k then o = GG.os { G with sy := none, la := k, holds := withoutP G.holds k, nm := withoutP G.nm k, spent := withoutP G.spent k } ∧ a = .val dN else o = G.os ∧ a = .exc 56) := by
  refine CV.nd fun nd => ?_
  have N := nd6 nd
  refine CV.def (xs := ["self", "txg"]) (fun w => rfl) (fun w => by kernel_rfl) (fun vals h => ?_) ?_ ?_ ?_ (by omega) rfl rfl rfl fun c L hc hL => ?_
  · match vals, h with
    | [a, b], _ => rfl
  · decide +kernel
  · decide +kernel
  · decide +kernel
  refine TS.guard (x := !(G.sy == some k)) (TT.conseq (TT.or2 (b₂ := !(G.sy == some k)) (TT.cmp (GG.f_syncing G hc (TE.name rfl) G.in_os) (TE.const_none _ _) (OpR.isN G.sy)) fun h => TT.conseq (TT.cmp (TE.name rfl) (GG.f_syncing G hc (TE.name rfl) G.in_os) (OpR.neD (n := 0) (m := 0) hc (Nice.int _ _) (Nice.oI _ _) (by omega) (by omega) (by omega))) (by rw [eqv_oI])) (by cases G.sy <;> simp)) (fun h => ?_) fun h => ?_
  · have hk : ¬ G.sy = some k := by simpa using h
    exact TS.last (TX.raise hc (by omega) xcls56 xset56 (by kernel_rfl) (TE.global hc (by kernel_rfl) rfl) (TE.const_str _ _ _) ⟨nofun, Fin.exc (by rw [if_neg hk]; exact ⟨rfl, rfl⟩)⟩)
  have hk : G.sy = some k := by simpa using h
  obtain ⟨p1, p2, p3⟩ := h1 hk
  obtain ⟨v1, p1⟩ := Option.isSome_iff_exists.mp p1
  obtain ⟨v2, p2⟩ := Option.isSome_iff_exists.mp p2
  obtain ⟨v3, p3⟩ := Option.isSome_iff_exists.mp p3
  refine TS.seq (TX.to (TX.setattr hc (TE.const_none _ _) (TE.name rfl) G.in_os.1 G.in_os.2 (st_syncing _) (by omega) rfl) (ω₂ := GG.os { G with sy := none }) ?_) ?_
  · refine (congrArg (fun x => updO G.dx (.ns 10 x) _) (GG.u_syncing G none)).trans (up1 N _)
  refine TS.seq (TX.to (TX.setattr hc (TE.name rfl) (TE.name rfl) (GG.in_os { G with sy := none }).1 (GG.in_os { G with sy := none }).2 (st_last _) (by omega) rfl) (ω₂ := GG.os { G with sy := none, la := k }) ?_) ?_
  · rw [GG.u_last]; exact up1 N _
  let G2 : GG := { G with sy := none, la := k }
  let st : Nat → Os := fun i => os6 G.g G.dx G.dh G.dn G.ds G.lt (.raw (instObj 206 G.dx)) (.ns 10 G2.fs) (.idict (mapV dI (if 0 < i then withoutP G.holds k else G.holds))) (.idict (mapV (fun p => vR p.1) (if 1 < i then withoutP G.nm k else G.nm))) (.idict (mapV dI (if 2 < i then withoutP G.spent k else G.spent))) (.list (G.tick.map fun t => .d (pI t))) (inn G.nm)
  refine TS.last ((TX.forN (av := .fz (IsTupV [.ref G.dh, .ref G.dn, .ref G.ds])) (as := [vR G.dh, vR G.dn, vR G.ds]) (fun i ρ' ω' => ρ'.lookup ("txg" : Str) = some (dI k) ∧ ω' = st i) hc
    (TE.tupleV (xs := [.ref G.dh, .ref G.dn, .ref G.ds]) hc (TEs.cons (GG.f_holds G2 hc (TE.name rfl) (GG.in_os _)) (TEs.cons (GG.f_names G2 hc (TE.name rfl) (GG.in_os _)) (TEs.cons (GG.f_spent G2 hc (TE.name rfl) (GG.in_os _)) TEs.nil))) (by simp))
    (SRC.vtuple (vs := [.ref G.dh, .ref G.dn, .ref G.ds]) hc) rfl ⟨rfl, rfl⟩ (fun i ρ' ω' _ b o a h => (no_exact G2 h).elim) fun i a ρ' ω' h1 h2 => ?_).mono fun f r o h => ?_)
  · obtain ⟨hρ, rfl⟩ := h2
    have htx : ∀ a, List.lookup ("txg" : Str) ((("some" : Str), a) :: ρ') = some (dI k) := fun a => by rw [List.lookup_cons]; exact hρ
    match i, h1 with
    | 0, h1 =>
      cases h1
      refine TS.last (TX.exprV (Φ := Ph (st 1) (dI v1)) (TV.bm (TE.name rfl) (GM.dict kI (fs := mapV dI G.holds) (.inl (.tail _ (.tail _ (.head _)))) PySem.F.slot_dict_pop ty_pop) (TEs.cons (TE.name (htx _)) TEs.nil) (CB.pop kI (k := k) (fs := mapV dI G.holds) (.tail _ (.tail _ (.head _))) (by rw [getA_mapV, p1]; rfl) (by rw [mapV_len]; omega) ⟨?_, rfl⟩)) (fun o a h => ⟨rfl, htx _, h.1⟩) (fun o C h => nomatch h.2))
      rw [withoutA_mapV]; exact up2 N _
    | 1, h1 =>
      cases h1
      refine TS.last (TX.exprV (Φ := Ph (st 2) (vR v2.1)) (TV.bm (TE.name rfl) (GM.dict kI (fs := mapV (fun p => vR p.1) G.nm) (.inl (.tail _ (.tail _ (.tail _ (.head _))))) PySem.F.slot_dict_pop ty_pop) (TEs.cons (TE.name (htx _)) TEs.nil) (CB.pop kI (k := k) (fs := mapV (fun p => vR p.1) G.nm) (.tail _ (.tail _ (.tail _ (.head _)))) (by rw [getA_mapV, p2]; rfl) (by rw [mapV_len]; omega) ⟨?_, rfl⟩)) (fun o a h => ⟨rfl, htx _, h.1⟩) (fun o C h => nomatch h.2))
      rw [withoutA_mapV]; exact up3 N _
    | 2, h1 =>
      cases h1
      refine TS.last (TX.exprV (Φ := Ph (st 3) (dI v3)) (TV.bm (TE.name rfl) (GM.dict kI (fs := mapV dI G.spent) (.inl (.tail _ (.tail _ (.tail _ (.tail _ (.head _)))))) PySem.F.slot_dict_pop ty_pop) (TEs.cons (TE.name (htx _)) TEs.nil) (CB.pop kI (k := k) (fs := mapV dI G.spent) (.tail _ (.tail _ (.tail _ (.tail _ (.head _))))) (by rw [getA_mapV, p3]; rfl) (by rw [mapV_len]; omega) ⟨?_, rfl⟩)) (fun o a h => ⟨rfl, htx _, h.1⟩) (fun o C h => nomatch h.2))
      rw [withoutA_mapV]; exact up4 N _
  · obtain ⟨rfl, h2, rfl⟩ := h
    refine ⟨GG.os { G with sy := none, la := k, holds := withoutP G.holds k, nm := withoutP G.nm k, spent := withoutP G.spent k }, inn (G.nm.filter fun p => decide (p.1 = k)), ?_, ?_⟩
    · have e : st 3 = [(G.g, AO.raw (instObj 206 G.dx)), (G.dx, .ns 10 G2.fs), (G.dh, .idict (mapV dI (withoutP G.holds k))), (G.dn, .idict (mapV (fun p => vR p.1) (withoutP G.nm k))), (G.ds, .idict (mapV dI (withoutP G.spent k))), (G.lt, .list (G.tick.map fun t => .d (pI t)))] ++ inn G.nm := rfl
      show List.Perm (st 3) _
      rw [e]
      exact ((inn_filter G.nm k).append_left _).trans (by rw [← List.append_assoc]; exact (List.perm_append_comm.append_right _).trans (by rw [List.append_assoc]; exact .refl _))
    · show if G.sy = some k then _ else _
      rw [if_pos hk]; exact ⟨rfl, rfl⟩
end Mine
set_option Elab.async false
set_option maxRecDepth 100000
set_option linter.unusedVariables false
namespace Mine
open PySem PySem.W PySem.Calls PyProof.Rows PySem.Spec PyProof.Rows.LCg

noncomputable def GG.row (G : GG) (k : Int) : PyData := .tuple [.int k, .int (G.hat k), .tuple ((srtS (G.dirt k)).map .str), .int ((getP G.spent k).getD 0)]
noncomputable def GG.rows (G : GG) : List PyData := (srtI (G.holds.map (·.1))).map G.row
noncomputable def GG.plain (G : GG) : PyData := .tuple [.int G.la, oI G.sy, oI G.cl, .int G.op, .tuple G.rows, .tuple (G.tick.map pI)]
theorem plain_cv {lv : Nat} (hlv : lv ≤ 12) (G : GG) (hz : G.holds.length < 64) (hk : ∀ k, (getP G.holds k).isSome = true → (getP G.spent k).isSome = true) (hd : ∀ k, (G.dirt k).length < 64) (ht : G.tick.length ≤ 900) : CS lv 203 [vR G.g] G.os G.os (.d G.plain) := by
  refine CV.defC (xs := ["self"]) [] (fun n => [(n + 1, .cell (some (vR G.g)))]) (fun w => rfl) (fun w => by kernel_rfl) (fun vals h => ?_) (fun x av h => by cases h) (fun n => rfl) ?_ ?_ ?_ ?_ (by omega) rfl rfl rfl fun c L hc hL => ?_
  · match vals, h with
    | [a], _ => rfl
  · intro n x hx
    rcases List.mem_singleton.mp hx with rfl
    exact .inr ⟨rfl, rfl⟩
  · decide +kernel
  · decide +kernel
  · decide +kernel
  have hIn : G.In ([(L + 1, AO.cell (some (vR G.g)))] ++ G.os) := ⟨.tail _ G.in_os.1, .tail _ G.in_os.2⟩
  have hcell : (L + 1, AO.cell (some (vR G.g))) ∈ [(L + 1, AO.cell (some (vR G.g)))] ++ G.os := .head _
  have len : (srtI (G.holds.map (·.1))).length = G.holds.length := by rw [(srtI_perm _).length_eq, List.length_map]
  refine TS.seq (ω₁ := [(L + 1, AO.cell (some (vR G.g)))] ++ G.os) (ρ₁ := [("rows", .d (.list G.rows))]) ((TX.assignComp (av := .d (.list ((srtI (G.holds.map (·.1))).map .int))) (as := ((srtI (G.holds.map (·.1))).map .int).map .d) _ (G.rows.map some) (fun a => [("txg", a)]) hc ⟨rfl, by decide +kernel, rfl, by decide +kernel, fun _ => rfl⟩
    (TE.bf1 (TE.builtin hc (by kernel_rfl) (by kernel_rfl) (by decide) rfl) (GG.f_holds G hc (TE.cell (.inl rfl) rfl hcell) hIn) (CB.sorted sI (ks := G.holds.map (·.1)) hc (.inl ⟨G.dh, mapV dI G.holds, rfl, .inl (.tail _ G.m_dh), (mapV_keys _ _).symm⟩) (by simpa using hz) ⟨rfl, rfl⟩))
    (SRC.dlist hc) (by simp [GG.rows]) (by simp [len]; omega) rfl rfl (fun C ρ' a h => TA.name rfl) (fun C ρ' i a o' h1 h2 => ?_)).mono fun f r o' h => ?_) ?_
  · rw [List.map_map, List.getElem?_map] at h1
    obtain ⟨k, hk1, rfl⟩ := Option.map_eq_some_iff.mp h1
    unfold GG.rows at h2
    rw [List.map_map, List.getElem?_map, hk1] at h2
    cases h2
    have hm : k ∈ G.holds.map (·.1) := (srtI_perm _).mem_iff.mp (List.mem_of_getElem? hk1)
    obtain ⟨n, hn⟩ : ∃ n, getP G.holds k = some n := by
      cases e : getP G.holds k with
      | some n => exact ⟨n, rfl⟩
      | none =>
        obtain ⟨p, hp, e2⟩ := List.mem_map.mp hm
        exact absurd e2 (getP_none.mp e p hp)
    obtain ⟨v, hv⟩ := Option.isSome_iff_exists.mp (hk k (by rw [hn]; rfl))
    have hhat : G.hat k = n := by unfold GG.hat; rw [hn]; rfl
    refine ⟨_, rfl, TE.to (TE.tuple (ds := [.int k, .int n, .tuple ((srtS (G.dirt k)).map .str), .int v]) (TEs.cons (TE.name rfl) (TEs.cons (TE.item kI (k := k) (GG.f_holds G hc (TE.cell (.inl rfl) rfl hcell) hIn) (TE.name rfl) (.inl (.tail _ G.m_dh)) (by rw [getA_mapV, hn]; rfl))
      (TEs.cons (TE.bt1 (T := "tuple") (a := .d (.list ((srtS (G.dirt k)).map .str))) (TE.builtin hc (by kernel_rfl) (by kernel_rfl) (by decide) rfl)
          (TV.e (TV.callM (pl := _) (ωf := G.os) (rest := [(L + 1, AO.cell (some (vR G.g)))]) hc (TE.cell (.inl rfl) rfl hcell) hIn.1 hIn.2 rfl (by kernel_rfl) (by kernel_rfl) (TEs.cons (TE.name rfl) TEs.nil) (dirty_cv (by omega) G k (hd k)) List.perm_append_comm (ph_to List.perm_append_comm)))
          (CB.tuple (ds := (srtS (G.dirt k)).map .str) (.inl ⟨_, rfl, rfl⟩) (by rw [List.length_map, (srtS_perm _).length_eq]; have := hd k; omega) ⟨rfl, rfl⟩))
        (TEs.cons (TE.item kI (k := k) (GG.f_spent G hc (TE.cell (.inl rfl) rfl hcell) hIn) (TE.name rfl) (.inl (.tail _ G.m_ds)) (by rw [getA_mapV, hv]; rfl)) TEs.nil)))) (by simp)) ?_⟩
    show AV.d _ = AV.d (G.row k)
    unfold GG.row
    rw [hhat, hv]
    rfl
  · obtain ⟨rfl, rfl, rfl⟩ := h
    refine ⟨rfl, ?_, rfl⟩
    rw [List.filterMap_map]
    simp
  · refine TS.last (TX.ret (TE.tuple (ds := [.int G.la, oI G.sy, oI G.cl, .int G.op, .tuple G.rows, .tuple (G.tick.map pI)]) (TEs.cons (GG.f_last G hc (TE.cell (.inl rfl) rfl hcell) hIn) (TEs.cons (GG.f_syncing G hc (TE.cell (.inl rfl) rfl hcell) hIn) (TEs.cons (GG.f_closing G hc (TE.cell (.inl rfl) rfl hcell) hIn) (TEs.cons (GG.f_open G hc (TE.cell (.inl rfl) rfl hcell) hIn)
      (TEs.cons (TE.bt1 (T := "tuple") (a := .d (.list G.rows)) (TE.builtin hc (by kernel_rfl) (by kernel_rfl) (by decide) rfl) (TE.name rfl) (CB.tuple (ds := G.rows) (.inl ⟨_, rfl, rfl⟩) (by simp [GG.rows, len]; omega) ⟨rfl, rfl⟩))
        (TEs.cons (TE.bt1 (T := "tuple") (a := vR G.lt) (TE.builtin hc (by kernel_rfl) (by kernel_rfl) (by decide) rfl) (GG.f_tickets G hc (TE.cell (.inl rfl) rfl hcell) hIn) (CB.tuple (ds := G.tick.map pI) (.inr ⟨G.lt, rfl, .inl (by rw [List.map_map]; exact .tail _ G.m_lt)⟩) (by simp; omega) ⟨rfl, rfl⟩)) TEs.nil)))))) (by simp)) (Fin.drop ⟨rfl, rfl⟩))
end Mine
set_option Elab.async false
set_option maxRecDepth 100000
set_option linter.unusedVariables false
namespace Mine
open PySem PySem.W PySem.Calls PyProof.Rows PySem.Spec PyProof.Rows.LCg

section
variable {c : Cx} {env : Env} {ρ : Vs} {ω ω₁ : Os} {lv : Nat}
/-- a new attribute of self, of plain data -/
theorem TX.newD {es value : Expr} {x : Str} {p' p : Pos} {g dx n : Nat} {fs : List (Str × AV)} {a : AV} (hc : c.Ok lv) (hv : TE c env ρ ω value ω₁ a) (hs : TE c env ρ ω₁ es ω₁ (vR g)) (hg : (g, AO.raw (instObj 206 dx)) ∈ ω₁) (hd : (dx, AO.ns n fs) ∈ ω₁) (hl : fs.lookup x = none)
    (hk : setIn (KK c.w) 206 x = true) (hn : n ≤ 100) (hsw : swapsWith value (some (.Attribute es x p')) p.line env = pure false := by rfl) :
    TX c env ρ ω (.Assign [.Attribute es x p'] value p) (Nx ρ (updO dx (.ns (n + 1) (fs ++ [(x, a)])) ω₁)) :=
  TX.setattrN (Φ := Ph ω₁ a) hc (TE.v hv ⟨rfl, rfl⟩) (fun o C h => nomatch h.2) (fun o a' h => by
    have e2 : a' = a := by have := h.2; injection this
    rw [h.1, e2]
    exact ⟨fs, ω₁, hs, hg, hd, hl, rfl, rfl, rfl⟩) hk hn hsw
end
noncomputable def GG.init (g dx dh dn ds lt : Addr) (a : Addr) (first : Int) (lim : Option Int) : GG := { g, dx, dh, dn, ds, lt, op := first, cl := none, sy := none, la := first - 1, lim, holds := [(first, 0)], nm := [(first, a, [])], spent := [(first, 0)], tick := [], nt := 1 }
noncomputable abbrev PhI (g dx : Addr) (first : Int) (lim : Option Int) : Os → Oc → Prop := fun o a => a = .val dN ∧ ∃ dh dn ds lt b, o = (GG.init g dx dh dn ds lt b first lim).os
/-- the body of Groups.__init__ -/
theorem init_body {c : Cx} {lv : Nat} {L g dx : Addr} {first : Int} {lim : Option Int} (hc : c.Ok lv) (hgd : g ≠ dx) :
    TS c (envX "Groups.__init__" { kind := ScopeKind.function, names := [("self", NameKind.local), ("first", NameKind.local), ("limit", NameKind.local)], isGenerator := false, isCoroutine := false } L 73 (.ref 72) []) ([("self", vR g), ("first", dI first), ("limit", .d (oI lim))] : Vs) [(g, .raw (instObj 206 dx)), (dx, .ns 0 [])] (match inS (topS 5) 0 with | .FunctionDef _ _ body _ _ _ _ _ _ _ => body | _ => []) (Fin (PhI g dx first lim)) := by
  have up : ∀ x y, updO dx x [(g, .raw (instObj 206 dx)), (dx, y)] = [(g, .raw (instObj 206 dx)), (dx, x)] := fun x y => by rw [updO_cons_ne hgd, updO_cons_eq]; rfl
  refine TS.seq (TX.to (TX.newD hc (TE.name rfl) (TE.name rfl) (.head _) (.tail _ (.head _)) rfl (st_open _) (by omega)) (up _ _)) ?_
  refine TS.seq (TX.to (TX.newD hc (TE.const_none _ _) (TE.name rfl) (.head _) (.tail _ (.head _)) rfl (st_closing _) (by omega)) (up _ _)) ?_
  refine TS.seq (TX.to (TX.newD hc (TE.const_none _ _) (TE.name rfl) (.head _) (.tail _ (.head _)) rfl (st_syncing _) (by omega)) (up _ _)) ?_
  refine TS.seq (TX.to (TX.newD hc (TE.sub (TE.name rfl) (TE.const_int 1 _ _)) (TE.name rfl) (.head _) (.tail _ (.head _)) rfl (st_last _) (by omega)) (up _ _)) ?_
  refine TS.seq (TX.to (TX.newD hc (TE.name rfl) (TE.name rfl) (.head _) (.tail _ (.head _)) rfl (st_limit _) (by omega)) (up _ _)) ?_
  let f5 : List (Str × AV) := [("open", dI first), ("closing", dN), ("syncing", dN), ("last", dI (first - 1)), ("limit", .d (oI lim))]
  -- holds
  refine TS.cons (Ψ₁ := fun f r o => f = .next ∧ r = ([("self", vR g), ("first", dI first), ("limit", .d (oI lim))] : Vs) ∧ ∃ dh, dh ≠ g ∧ dh ≠ dx ∧ o = [(dh, .idict [(first, dI 0)]), (g, .raw (instObj 206 dx)), (dx, .ns 6 (f5 ++ [(("holds" : Str), vR dh)]))])
    (TX.setattrN (g := g) (dx := dx) (C := 206) (n := 5) (Φ := fun o a => ∃ dh, dh ∉ keys [(g, AO.raw (instObj 206 dx)), (dx, .ns 5 f5)] ∧ a = .val (vR dh) ∧ o = [(dh, .idict [(first, dI 0)]), (g, .raw (instObj 206 dx)), (dx, .ns 5 f5)]) hc
      (TV.dictN kI hc rfl rfl (by simp) (by simp) fun d hd => TP.cons1 (key := first) (a := dI 0) (TE.name rfl) (TE.const_int 0 _ _) (TP.nil ⟨.head _, d, hd, rfl, by rw [updO_cons_eq, updO_no _ hd]; rfl⟩)) (fun o C h => by obtain ⟨_, _, h, _⟩ := h; cases h) (fun o a h => ?_) (st_holds _) (by omega)) (fun r o h => ?_) (fun a r o h => nomatch h.1) (fun C r o h => nomatch h.1)
  · obtain ⟨dh, hd, h, rfl⟩ := h
    cases h
    have hd' : dh ≠ g ∧ dh ≠ dx := by simpa [keys] using hd
    exact ⟨f5, _, TE.name rfl, .tail _ (.head _), .tail _ (.tail _ (.head _)), rfl, rfl, rfl, dh, hd'.1, hd'.2, by rw [updO_cons_ne hd'.2, up]⟩
  obtain ⟨_, rfl, dh, hh1, hh2, rfl⟩ := h
  -- names
  refine TS.cons (Ψ₁ := fun f r o => f = .next ∧ r = ([("self", vR g), ("first", dI first), ("limit", .d (oI lim))] : Vs) ∧ ∃ dn b, dn ≠ g ∧ dn ≠ dx ∧ b ≠ dx ∧ o = [(b, .sdict []), (dn, .idict [(first, vR b)]), (dh, .idict [(first, dI 0)]), (g, .raw (instObj 206 dx)), (dx, .ns 7 (f5 ++ [(("holds" : Str), vR dh)] ++ [(("names" : Str), vR dn)]))])
    (TX.setattrN (g := g) (dx := dx) (C := 206) (n := 6) (Φ := fun o a => ∃ dn b, dn ∉ keys [(dh, AO.idict [(first, dI 0)]), (g, AO.raw (instObj 206 dx)), (dx, .ns 6 (f5 ++ [(("holds" : Str), vR dh)]))] ∧ b ∉ keys [(dn, AO.idict []), (dh, AO.idict [(first, dI 0)]), (g, AO.raw (instObj 206 dx)), (dx, .ns 6 (f5 ++ [(("holds" : Str), vR dh)]))] ∧ a = .val (vR dn) ∧ o = [(b, .sdict []), (dn, .idict [(first, vR b)]), (dh, .idict [(first, dI 0)]), (g, .raw (instObj 206 dx)), (dx, .ns 6 (f5 ++ [(("holds" : Str), vR dh)]))]) hc
      (TV.dictN kI hc rfl rfl (by simp) (by simp) fun d hd => TP.cons (Φ₁ := fun o a => ∃ b, b ∉ keys [(d, AO.idict []), (dh, AO.idict [(first, dI 0)]), (g, AO.raw (instObj 206 dx)), (dx, .ns 6 (f5 ++ [(("holds" : Str), vR dh)]))] ∧ a = .val (vR b) ∧ o = [(b, .sdict []), (d, AO.idict []), (dh, AO.idict [(first, dI 0)]), (g, AO.raw (instObj 206 dx)), (dx, .ns 6 (f5 ++ [(("holds" : Str), vR dh)]))]) (key := first) (TE.name rfl) (TV.dict0 kS hc fun b hb => ⟨b, hb, rfl, rfl⟩) (fun o C h => by obtain ⟨_, _, h, _⟩ := h; cases h) fun o a h => ?_) (fun o C h => by obtain ⟨_, _, _, _, h, _⟩ := h; cases h) (fun o a h => ?_) (st_names _) (by omega)) (fun r o h => ?_) (fun a r o h => nomatch h.1) (fun C r o h => nomatch h.1)
  · obtain ⟨b, hb, h, rfl⟩ := h
    cases h
    have nb : b ≠ d := fun e => hb (e ▸ .head _)
    exact TP.nil ⟨.tail _ (.head _), d, b, hd, hb, rfl, by rw [updO_cons_ne nb, updO_cons_eq, updO_no _ hd]; rfl⟩
  · obtain ⟨dn, b, hd, hb, h, rfl⟩ := h
    cases h
    have hd' : dn ≠ dh ∧ dn ≠ g ∧ dn ≠ dx := by simpa [keys] using hd
    have hb' : b ≠ dn ∧ b ≠ dh ∧ b ≠ g ∧ b ≠ dx := by simpa [keys] using hb
    exact ⟨f5 ++ [(("holds" : Str), vR dh)], _, TE.name rfl, .tail _ (.tail _ (.tail _ (.head _))), .tail _ (.tail _ (.tail _ (.tail _ (.head _)))), rfl, rfl, rfl, dn, b, hd'.2.1, hd'.2.2, hb'.2.2.2, by rw [updO_cons_ne hb'.2.2.2, updO_cons_ne hd'.2.2, updO_cons_ne hh2, up]⟩
  obtain ⟨_, rfl, dn, b, hn1, hn2, hb2, rfl⟩ := h
  -- spent
  refine TS.cons (Ψ₁ := fun f r o => f = .next ∧ r = ([("self", vR g), ("first", dI first), ("limit", .d (oI lim))] : Vs) ∧ ∃ ds, ds ≠ dx ∧ o = [(ds, .idict [(first, dI 0)]), (b, .sdict []), (dn, .idict [(first, vR b)]), (dh, .idict [(first, dI 0)]), (g, .raw (instObj 206 dx)), (dx, .ns 8 (f5 ++ [(("holds" : Str), vR dh)] ++ [(("names" : Str), vR dn)] ++ [(("spent" : Str), vR ds)]))])
    (TX.setattrN (g := g) (dx := dx) (C := 206) (n := 7) (Φ := fun o a => ∃ ds, ds ∉ keys [(b, AO.sdict []), (dn, .idict [(first, vR b)]), (dh, .idict [(first, dI 0)]), (g, .raw (instObj 206 dx)), (dx, .ns 7 (f5 ++ [(("holds" : Str), vR dh)] ++ [(("names" : Str), vR dn)]))] ∧ a = .val (vR ds) ∧ o = [(ds, .idict [(first, dI 0)]), (b, .sdict []), (dn, .idict [(first, vR b)]), (dh, .idict [(first, dI 0)]), (g, .raw (instObj 206 dx)), (dx, .ns 7 (f5 ++ [(("holds" : Str), vR dh)] ++ [(("names" : Str), vR dn)]))]) hc
      (TV.dictN kI hc rfl rfl (by simp) (by simp) fun d hd => TP.cons1 (key := first) (a := dI 0) (TE.name rfl) (TE.const_int 0 _ _) (TP.nil ⟨.head _, d, hd, rfl, by rw [updO_cons_eq, updO_no _ hd]; rfl⟩)) (fun o C h => by obtain ⟨_, _, h, _⟩ := h; cases h) (fun o a h => ?_) (st_spent _) (by omega)) (fun r o h => ?_) (fun a r o h => nomatch h.1) (fun C r o h => nomatch h.1)
  · obtain ⟨ds, hd, h, rfl⟩ := h
    cases h
    have hd' : ds ≠ b ∧ ds ≠ dn ∧ ds ≠ dh ∧ ds ≠ g ∧ ds ≠ dx := by simpa [keys] using hd
    exact ⟨f5 ++ [(("holds" : Str), vR dh)] ++ [(("names" : Str), vR dn)], _, TE.name rfl, .tail _ (.tail _ (.tail _ (.tail _ (.head _)))), .tail _ (.tail _ (.tail _ (.tail _ (.tail _ (.head _))))), rfl, rfl, rfl, ds, hd'.2.2.2.2, by rw [updO_cons_ne hd'.2.2.2.2, updO_cons_ne hb2, updO_cons_ne hn2, updO_cons_ne hh2, up]⟩
  obtain ⟨_, rfl, ds, hs2, rfl⟩ := h
  -- tickets
  refine TS.cons (Ψ₁ := fun f r o => f = .next ∧ r = ([("self", vR g), ("first", dI first), ("limit", .d (oI lim))] : Vs) ∧ ∃ lt, lt ≠ dx ∧ o = [(lt, .list []), (ds, .idict [(first, dI 0)]), (b, .sdict []), (dn, .idict [(first, vR b)]), (dh, .idict [(first, dI 0)]), (g, .raw (instObj 206 dx)), (dx, .ns 9 (f5 ++ [(("holds" : Str), vR dh)] ++ [(("names" : Str), vR dn)] ++ [(("spent" : Str), vR ds)] ++ [(("tickets" : Str), vR lt)]))])
    (TX.setattrN (g := g) (dx := dx) (C := 206) (n := 8) (Φ := fun o a => ∃ lt, lt ∉ keys [(ds, AO.idict [(first, dI 0)]), (b, AO.sdict []), (dn, .idict [(first, vR b)]), (dh, .idict [(first, dI 0)]), (g, .raw (instObj 206 dx)), (dx, .ns 8 (f5 ++ [(("holds" : Str), vR dh)] ++ [(("names" : Str), vR dn)] ++ [(("spent" : Str), vR ds)]))] ∧ a = .val (vR lt) ∧ o = [(lt, .list []), (ds, .idict [(first, dI 0)]), (b, .sdict []), (dn, .idict [(first, vR b)]), (dh, .idict [(first, dI 0)]), (g, .raw (instObj 206 dx)), (dx, .ns 8 (f5 ++ [(("holds" : Str), vR dh)] ++ [(("names" : Str), vR dn)] ++ [(("spent" : Str), vR ds)]))]) hc
      (TV.list0 hc fun d hd => ⟨d, hd, rfl, rfl⟩) (fun o C h => by obtain ⟨_, _, h, _⟩ := h; cases h) (fun o a h => ?_) (st_tickets _) (by omega)) (fun r o h => ?_) (fun a r o h => nomatch h.1) (fun C r o h => nomatch h.1)
  · obtain ⟨lt, hd, h, rfl⟩ := h
    cases h
    have hd' : lt ≠ ds ∧ lt ≠ b ∧ lt ≠ dn ∧ lt ≠ dh ∧ lt ≠ g ∧ lt ≠ dx := by simpa [keys] using hd
    exact ⟨f5 ++ [(("holds" : Str), vR dh)] ++ [(("names" : Str), vR dn)] ++ [(("spent" : Str), vR ds)], _, TE.name rfl, .tail _ (.tail _ (.tail _ (.tail _ (.tail _ (.head _))))), .tail _ (.tail _ (.tail _ (.tail _ (.tail _ (.tail _ (.head _)))))), rfl, rfl, rfl, lt, hd'.2.2.2.2.2, by rw [updO_cons_ne hd'.2.2.2.2.2, updO_cons_ne hs2, updO_cons_ne hb2, updO_cons_ne hn2, updO_cons_ne hh2, up]⟩
  obtain ⟨_, rfl, lt, hl2, rfl⟩ := h
  refine TS.seq (ω₁ := [(lt, .list []), (ds, .idict [(first, dI 0)]), (b, .sdict []), (dn, .idict [(first, vR b)]), (dh, .idict [(first, dI 0)]), (g, .raw (instObj 206 dx)), (dx, .ns 10 (GG.init g dx dh dn ds lt b first lim).fs)]) (TX.to (TX.newD hc (TE.const_int 1 _ _) (TE.name rfl) (.tail _ (.tail _ (.tail _ (.tail _ (.tail _ (.head _)))))) (.tail _ (.tail _ (.tail _ (.tail _ (.tail _ (.tail _ (.head _))))))) rfl (st_next_ticket _) (by omega)) ?_) (TS.nil ⟨(GG.init g dx dh dn ds lt b first lim).os, [], ?_, rfl, dh, dn, ds, lt, b, rfl⟩)
  · rw [updO_cons_ne hl2, updO_cons_ne hs2, updO_cons_ne hb2, updO_cons_ne hn2, updO_cons_ne hh2, up]
    rfl
  · show List.Perm _ [(g, AO.raw (instObj 206 dx)), (dx, .ns 10 (GG.init g dx dh dn ds lt b first lim).fs), (dh, .idict [(first, dI 0)]), (dn, .idict [(first, vR b)]), (ds, .idict [(first, dI 0)]), (lt, .list []), (b, .sdict [])]
    have pm : ∀ {α : Type} (a1 a2 a3 a4 a5 a6 a7 : α), [a6, a5, a7, a4, a3, a1, a2].Perm [a1, a2, a3, a4, a5, a6, a7] := fun a1 a2 a3 a4 a5 a6 a7 => by
      refine List.Perm.trans (List.perm_append_comm (l₁ := [a6, a5, a7, a4, a3]) (l₂ := [a1, a2])) ?_
      refine .cons _ (.cons _ ?_)
      refine (List.reverse_perm [a3, a4, a7, a5, a6]).trans (.cons _ (.cons _ ?_))
      exact List.perm_append_comm (l₁ := [a7]) (l₂ := [a5, a6])
    exact pm _ _ _ _ _ _ _
end Mine
set_option Elab.async false
set_option maxRecDepth 100000
set_option linter.unusedVariables false
namespace Mine
open PySem PySem.W PySem.Calls PyProof.Rows PySem.Spec PyProof.Rows.LCg

theorem init_cv {lv : Nat} (hlv : lv ≤ 15) (g dx : Addr) (h : g ≠ dx) (first : Int) (lim : Option Int) : CV lv 73 [vR g, dI first, .d (oI lim)] [(g, .raw (instObj 206 dx)), (dx, .ns 0 [])] (PhI g dx first lim) := by
  refine CV.defD (xs := ["self", "first", "limit"]) (dv := []) (dav := []) (fun w => rfl) (fun w => by kernel_rfl) (fun w S vals h => ?_) (fun I => .nil) ?_ ?_ ?_ hlv rfl rfl rfl fun c L hc hL => init_body hc h
  · match vals, h with
    | [a, b, d], _ => kernel_rfl
  · decide +kernel
  · decide +kernel
  · decide +kernel
theorem init_cv0 {lv : Nat} (hlv : lv ≤ 15) (g dx : Addr) (h : g ≠ dx) : CV lv 73 [vR g] [(g, .raw (instObj 206 dx)), (dx, .ns 0 [])] (PhI g dx 1 none) := by
  refine CV.defD (xs := ["self", "first", "limit"]) (dv := [.int 1 264, .none]) (dav := [dI 1, dN]) (fun w => rfl) (fun w => by kernel_rfl) (fun w S vals h => ?_) (fun I => .cons (rI _ _ _) (.cons (rN _) .nil)) ?_ ?_ ?_ hlv rfl rfl rfl fun c L hc hL => init_body (lim := none) hc h
  · match vals, h with
    | [a], _ => kernel_rfl
  · decide +kernel
  · decide +kernel
  · decide +kernel

/-! # the law's own world -/
structure WW where
  d : Addr
  lh : Addr
  ln : Addr
  ls : Addr
  lw : Addr
  op : Int
  cl : Option Int
  sy : Option Int
  la : Int
  lim : Option Int
  given : Int
  wh : List Int
  wn : List (Int × Str)
  ws : List (Int × Int)
  wt : List (Int × Int)
noncomputable def pN (p : Int × Str) : PyData := .tuple [.int p.1, .str p.2]
noncomputable def WW.fs (W : WW) : List (Str × AV) := [("open", dI W.op), ("closing", .d (oI W.cl)), ("syncing", .d (oI W.sy)), ("last", dI W.la), ("limit", .d (oI W.lim)), ("given", dI W.given), ("holds", vR W.lh), ("names", vR W.ln), ("spent", vR W.ls), ("tickets", vR W.lw)]
noncomputable def os5 (d lh ln ls lw : Addr) (a0 a1 a2 a3 a4 : AO) : Os := [(d, a0), (lh, a1), (ln, a2), (ls, a3), (lw, a4)]
noncomputable def WW.os (W : WW) : Os := os5 W.d W.lh W.ln W.ls W.lw (.sdict W.fs) (.list (W.wh.map dI)) (.list (W.wn.map fun t => .d (pN t))) (.list (W.ws.map fun t => .d (pI t))) (.list (W.wt.map fun t => .d (pI t)))
structure Nd5 (d lh ln ls lw : Addr) : Prop where
  h0 : d ≠ lh ∧ d ≠ ln ∧ d ≠ ls ∧ d ≠ lw
  h1 : lh ≠ ln ∧ lh ≠ ls ∧ lh ≠ lw
  h2 : ln ≠ ls ∧ ln ≠ lw
  h3 : ls ≠ lw
section
variable {d lh ln ls lw : Addr} {a0 a1 a2 a3 a4 : AO}
theorem nd5 (n : (keys (os5 d lh ln ls lw a0 a1 a2 a3 a4)).Nodup) : Nd5 d lh ln ls lw := by
  have n : [d, lh, ln, ls, lw].Nodup := n
  simp only [List.nodup_cons, List.mem_cons, List.not_mem_nil, not_or] at n
  obtain ⟨⟨x0, x1, x2, x3, _⟩, ⟨y1, y2, y3, _⟩, ⟨z1, z2, _⟩, ⟨w1, _⟩, _⟩ := n
  exact ⟨⟨x0, x1, x2, x3⟩, ⟨y1, y2, y3⟩, ⟨z1, z2⟩, w1⟩
theorem wp0 (n : Nd5 d lh ln ls lw) (x : AO) : updO d x (os5 d lh ln ls lw a0 a1 a2 a3 a4) = os5 d lh ln ls lw x a1 a2 a3 a4 := by
  unfold os5
  rw [updO_cons_eq, updO_cons_ne n.h0.1.symm, updO_cons_ne n.h0.2.1.symm, updO_cons_ne n.h0.2.2.1.symm, updO_cons_ne n.h0.2.2.2.symm]; rfl
theorem wp1 (n : Nd5 d lh ln ls lw) (x : AO) : updO lh x (os5 d lh ln ls lw a0 a1 a2 a3 a4) = os5 d lh ln ls lw a0 x a2 a3 a4 := by
  unfold os5
  rw [updO_cons_ne n.h0.1, updO_cons_eq, updO_cons_ne n.h1.1.symm, updO_cons_ne n.h1.2.1.symm, updO_cons_ne n.h1.2.2.symm]; rfl
theorem wp2 (n : Nd5 d lh ln ls lw) (x : AO) : updO ln x (os5 d lh ln ls lw a0 a1 a2 a3 a4) = os5 d lh ln ls lw a0 a1 x a3 a4 := by
  unfold os5
  rw [updO_cons_ne n.h0.2.1, updO_cons_ne n.h1.1, updO_cons_eq, updO_cons_ne n.h2.1.symm, updO_cons_ne n.h2.2.symm]; rfl
theorem wp3 (n : Nd5 d lh ln ls lw) (x : AO) : updO ls x (os5 d lh ln ls lw a0 a1 a2 a3 a4) = os5 d lh ln ls lw a0 a1 a2 x a4 := by
  unfold os5
  rw [updO_cons_ne n.h0.2.2.1, updO_cons_ne n.h1.2.1, updO_cons_ne n.h2.1, updO_cons_eq, updO_cons_ne n.h3.symm]; rfl
theorem wp4 (n : Nd5 d lh ln ls lw) (x : AO) : updO lw x (os5 d lh ln ls lw a0 a1 a2 a3 a4) = os5 d lh ln ls lw a0 a1 a2 a3 x := by
  unfold os5
  rw [updO_cons_ne n.h0.2.2.2, updO_cons_ne n.h1.2.2, updO_cons_ne n.h2.2, updO_cons_ne n.h3, updO_cons_eq]; rfl
end
theorem WW.m_d (W : WW) : (W.d, AO.sdict W.fs) ∈ W.os := .head _
theorem WW.m_lh (W : WW) : (W.lh, AO.list (W.wh.map dI)) ∈ W.os := .tail _ (.head _)
theorem WW.m_ln (W : WW) : (W.ln, AO.list (W.wn.map fun t => .d (pN t))) ∈ W.os := .tail _ (.tail _ (.head _))
theorem WW.m_ls (W : WW) : (W.ls, AO.list (W.ws.map fun t => .d (pI t))) ∈ W.os := .tail _ (.tail _ (.tail _ (.head _)))
theorem WW.m_lw (W : WW) : (W.lw, AO.list (W.wt.map fun t => .d (pI t))) ∈ W.os := .tail _ (.tail _ (.tail _ (.tail _ (.head _))))
section
variable {c : Cx} {env : Env} {ρ : Vs} {ω ω₁ : Os} {e : Expr} {p p' : Pos} {k0 : Nat}
theorem WW.f_open (W : WW) (ho : TE c env ρ ω e ω₁ (vR W.d)) (h : (W.d, AO.sdict W.fs) ∈ ω₁) : TE c env ρ ω (.Subscript e (.Constant (.str "open") k0 p') p) ω₁ (dI W.op) := TE.item kS (k := ("open" : Str)) ho (TE.const_str _ _ _) (.inl h) rfl
theorem WW.f_closing (W : WW) (ho : TE c env ρ ω e ω₁ (vR W.d)) (h : (W.d, AO.sdict W.fs) ∈ ω₁) : TE c env ρ ω (.Subscript e (.Constant (.str "closing") k0 p') p) ω₁ (.d (oI W.cl)) := TE.item kS (k := ("closing" : Str)) ho (TE.const_str _ _ _) (.inl h) rfl
theorem WW.f_syncing (W : WW) (ho : TE c env ρ ω e ω₁ (vR W.d)) (h : (W.d, AO.sdict W.fs) ∈ ω₁) : TE c env ρ ω (.Subscript e (.Constant (.str "syncing") k0 p') p) ω₁ (.d (oI W.sy)) := TE.item kS (k := ("syncing" : Str)) ho (TE.const_str _ _ _) (.inl h) rfl
theorem WW.f_last (W : WW) (ho : TE c env ρ ω e ω₁ (vR W.d)) (h : (W.d, AO.sdict W.fs) ∈ ω₁) : TE c env ρ ω (.Subscript e (.Constant (.str "last") k0 p') p) ω₁ (dI W.la) := TE.item kS (k := ("last" : Str)) ho (TE.const_str _ _ _) (.inl h) rfl
theorem WW.f_limit (W : WW) (ho : TE c env ρ ω e ω₁ (vR W.d)) (h : (W.d, AO.sdict W.fs) ∈ ω₁) : TE c env ρ ω (.Subscript e (.Constant (.str "limit") k0 p') p) ω₁ (.d (oI W.lim)) := TE.item kS (k := ("limit" : Str)) ho (TE.const_str _ _ _) (.inl h) rfl
theorem WW.f_given (W : WW) (ho : TE c env ρ ω e ω₁ (vR W.d)) (h : (W.d, AO.sdict W.fs) ∈ ω₁) : TE c env ρ ω (.Subscript e (.Constant (.str "given") k0 p') p) ω₁ (dI W.given) := TE.item kS (k := ("given" : Str)) ho (TE.const_str _ _ _) (.inl h) rfl
theorem WW.f_holds (W : WW) (ho : TE c env ρ ω e ω₁ (vR W.d)) (h : (W.d, AO.sdict W.fs) ∈ ω₁) : TE c env ρ ω (.Subscript e (.Constant (.str "holds") k0 p') p) ω₁ (vR W.lh) := TE.item kS (k := ("holds" : Str)) ho (TE.const_str _ _ _) (.inl h) rfl
theorem WW.f_names (W : WW) (ho : TE c env ρ ω e ω₁ (vR W.d)) (h : (W.d, AO.sdict W.fs) ∈ ω₁) : TE c env ρ ω (.Subscript e (.Constant (.str "names") k0 p') p) ω₁ (vR W.ln) := TE.item kS (k := ("names" : Str)) ho (TE.const_str _ _ _) (.inl h) rfl
theorem WW.f_spent (W : WW) (ho : TE c env ρ ω e ω₁ (vR W.d)) (h : (W.d, AO.sdict W.fs) ∈ ω₁) : TE c env ρ ω (.Subscript e (.Constant (.str "spent") k0 p') p) ω₁ (vR W.ls) := TE.item kS (k := ("spent" : Str)) ho (TE.const_str _ _ _) (.inl h) rfl
theorem WW.f_tickets (W : WW) (ho : TE c env ρ ω e ω₁ (vR W.d)) (h : (W.d, AO.sdict W.fs) ∈ ω₁) : TE c env ρ ω (.Subscript e (.Constant (.str "tickets") k0 p') p) ω₁ (vR W.lw) := TE.item kS (k := ("tickets" : Str)) ho (TE.const_str _ _ _) (.inl h) rfl
theorem WW.u_open (W : WW) (v : Int) : storedA W.fs ("open" : Str) (dI v) = WW.fs { W with op := v } := rfl
theorem WW.u_closing (W : WW) (v : Option Int) : storedA W.fs ("closing" : Str) (.d (oI v)) = WW.fs { W with cl := v } := rfl
theorem WW.u_syncing (W : WW) (v : Option Int) : storedA W.fs ("syncing" : Str) (.d (oI v)) = WW.fs { W with sy := v } := rfl
theorem WW.u_last (W : WW) (v : Int) : storedA W.fs ("last" : Str) (dI v) = WW.fs { W with la := v } := rfl
theorem WW.u_given (W : WW) (v : Int) : storedA W.fs ("given" : Str) (dI v) = WW.fs { W with given := v } := rfl
theorem WW.u_tickets (W : WW) (v : Addr) : storedA W.fs ("tickets" : Str) (vR v) = WW.fs { W with lw := v } := rfl
theorem WW.flen (W : WW) : W.fs.length = 10 := rfl
end
noncomputable def told (d : PyData) : PyData := .tuple [.str "told", d]
noncomputable def busyD : PyData := .tuple [.str "busy", .none]
noncomputable def misuD : PyData := .tuple [.str "misused", .none]

noncomputable def WW.qz (W : WW) : WW := if W.cl.isSome = true then W else { W with cl := some W.op, op := W.op + 1 }
theorem lquiesce_cv {lv : Nat} (hlv : lv ≤ 15) (W : WW) : CS lv 224 [vR W.d] W.os W.qz.os (.d (if W.cl.isSome = true then busyD else told (.int W.op))) := by
  refine CV.nd fun nd => ?_
  have N := nd5 nd
  refine CV.def (xs := ["world"]) (fun w => rfl) (fun w => by kernel_rfl) (fun vals h => ?_) ?_ ?_ ?_ hlv rfl rfl rfl fun c L hc hL => ?_
  · match vals, h with
    | [a], _ => rfl
  · decide +kernel
  · decide +kernel
  · decide +kernel
  refine TS.guard (TT.cmp (W.f_closing (TE.name rfl) W.m_d) (TE.const_none _ _) (OpR.isNotN W.cl)) (fun h => TS.retS (TE.tuple (ds := [.str "busy", .none]) (TEs.cons (TE.const_str _ _ _) (TEs.cons (TE.const_none _ _) TEs.nil)) (by simp)) (Fin.same ⟨?_, ?_⟩)) fun h => ?_
  · unfold WW.qz; rw [if_pos h]
  · rw [if_pos h]; rfl
  have hn : ¬ W.cl.isSome = true := by rw [h]; decide
  refine TS.seq (TX.to (TX.setsub kS (k := ("closing" : Str)) (W.f_open (TE.name rfl) W.m_d) (TE.name rfl) (TE.const_str _ _ _) W.m_d (by rw [W.flen]; omega)) (ω₂ := WW.os { W with cl := some W.op }) ?_) ?_
  · refine (congrArg (fun x => updO W.d (.sdict x) W.os) (W.u_closing (some W.op))).trans (wp0 N _)
  refine TS.seq (TX.to (TX.setsub kS (k := ("open" : Str)) (TE.add (WW.f_open { W with cl := some W.op } (TE.name rfl) (WW.m_d _)) (TE.const_int 1 _ _)) (TE.name rfl) (TE.const_str _ _ _) (WW.m_d { W with cl := some W.op }) (by rw [WW.flen]; omega)) (ω₂ := WW.os { W with cl := some W.op, op := W.op + 1 }) ?_) ?_
  · rw [WW.u_open]; exact wp0 N _
  refine TS.last (TX.ret (TE.tuple (ds := [.str "told", .int W.op]) (TEs.cons (TE.const_str _ _ _) (TEs.cons (WW.f_closing { W with cl := some W.op, op := W.op + 1 } (TE.name rfl) (WW.m_d _)) TEs.nil)) (by simp)) (Fin.same ⟨?_, ?_⟩))
  · unfold WW.qz; rw [if_neg hn]
  · rw [if_neg hn]; rfl
end Mine
set_option Elab.async false
set_option maxRecDepth 100000
set_option linter.unusedVariables false
namespace Mine
open PySem PySem.W PySem.Calls PyProof.Rows PySem.Spec PyProof.Rows.LCg

theorem eqv_oI2 (a : Int) (o : Option Int) : PyData.eqv (oI o) (.int a) = (o == some a) := by
  cases o with
  | none => rfl
  | some b => rfl
noncomputable def WW.hot (W : WW) : Bool := match W.cl with | some k => W.wh.any (· == k) | none => false
noncomputable def WW.cz (W : WW) : WW × PyData := if W.sy.isSome = true then (W, busyD) else if W.qz.hot = true then (W.qz, busyD) else ({ W.qz with sy := W.qz.cl, cl := none }, told (oI W.qz.cl))
theorem WW.qz_cl (W : WW) : ∃ k, W.qz.cl = some k := by
  unfold WW.qz
  split
  · rename_i h; exact Option.isSome_iff_exists.mp h
  · exact ⟨_, rfl⟩
theorem lclose_cv {lv : Nat} (hlv : lv ≤ 12) (W : WW) : CS lv 231 [vR W.d] W.os W.cz.1.os (.d W.cz.2) := by
  refine CV.def (xs := ["world"]) (fun w => rfl) (fun w => by kernel_rfl) (fun vals h => ?_) ?_ ?_ ?_ (by omega) rfl rfl rfl fun c L hc hL => ?_
  · match vals, h with
    | [a], _ => rfl
  · decide +kernel
  · decide +kernel
  · decide +kernel
  have fin : ∀ {Y : WW} {a : PyData}, W.cz = (Y, a) → Ph W.cz.1.os (.d W.cz.2) Y.os (.val (.d a)) := fun h => by rw [h]; exact ⟨rfl, rfl⟩
  refine TS.guard (TT.cmp (W.f_syncing (TE.name rfl) W.m_d) (TE.const_none _ _) (OpR.isNotN W.sy)) (fun h => TS.retS (TE.tuple (ds := [.str "busy", .none]) (TEs.cons (TE.const_str _ _ _) (TEs.cons (TE.const_none _ _) TEs.nil)) (by simp)) (Fin.same (fin (a := busyD) ?_))) fun h => ?_
  · unfold WW.cz; rw [if_pos h]
  have hn : ¬ W.sy.isSome = true := by rw [h]; decide
  have hd : W.qz.d = W.d := by unfold WW.qz; split <;> rfl
  refine TS.cons (Ψ₁ := Nx ([("world", vR W.d)] : Vs) W.qz.os)
    (TX.cond (TT.cmp (W.f_closing (TE.name rfl) W.m_d) (TE.const_none _ _) (OpR.isN W.cl)) (fun h => TS.last (TX.expr (TV.e (TV.callF (rest := []) hc (TE.global hc (by kernel_rfl) rfl) (TEs.cons (TE.name rfl) TEs.nil) (by kernel_rfl) (lquiesce_cv (by omega) W) (by rw [List.append_nil]) (ph_to (by rw [List.append_nil])))))) (fun h => TS.nil ⟨rfl, rfl, ?_⟩)) (fun r o h => ?_) (fun a r o h => nomatch h.1) (fun C r o h => nomatch h.1)
  · unfold WW.qz; rw [if_pos]
    cases e : W.cl with
    | none => rw [e] at h; cases h
    | some k => rfl
  obtain ⟨_, rfl, rfl⟩ := h
  obtain ⟨k, hk⟩ := W.qz_cl
  have hw : ∀ {o : Os} {p : Pos}, TE c (envX "_law_close" { kind := ScopeKind.function, names := [("world", NameKind.local), ("_law_quiesce", NameKind.globalImplicit)], isGenerator := false, isCoroutine := false } L 231 (.ref 230) []) ([("world", vR W.d)] : Vs) o (.Name "world" p) o (vR W.qz.d) := by
    rw [hd]; exact TE.name rfl
  have hhot : W.qz.hot = W.qz.wh.any (· == k) := by unfold WW.hot; rw [hk]
  refine TS.guard (TT.cmp (TE.to (W.qz.f_closing hw W.qz.m_d) (b := dI k) (by rw [hk]; rfl)) (W.qz.f_holds hw W.qz.m_d) (OpR.inI (.inr ⟨_, rfl, .inl W.qz.m_lh⟩))) (fun h => TS.retS (TE.tuple (ds := [.str "busy", .none]) (TEs.cons (TE.const_str _ _ _) (TEs.cons (TE.const_none _ _) TEs.nil)) (by simp)) (Fin.same (fin (a := busyD) ?_))) fun h => ?_
  · unfold WW.cz; rw [if_neg hn, if_pos (by rw [hhot]; exact h)]
  refine TS.nd fun nd => ?_
  have N := nd5 nd
  refine TS.seq (TX.assign2 (Φ := Ph W.qz.os dN) hc (W.qz.f_closing hw W.qz.m_d) (TE.v (TE.const_none _ _) ⟨rfl, rfl⟩) (fun o C h => nomatch h.2) fun o a h' => ?_) (ρ₁ := ([("world", vR W.d)] : Vs)) (ω₁ := WW.os { W.qz with sy := W.qz.cl, cl := none }) ?_
  · obtain ⟨rfl, h'⟩ := h'
    cases h'
    refine ⟨([("world", vR W.d)] : Vs), WW.os { W.qz with sy := W.qz.cl }, ([("world", vR W.d)] : Vs), WW.os { W.qz with sy := W.qz.cl, cl := none }, ?_, ?_, rfl, rfl, rfl⟩
    · have e := (congrArg (fun x => updO W.qz.d (.sdict x) W.qz.os) (W.qz.u_syncing W.qz.cl)).trans (wp0 N _)
      rw [show WW.os { W.qz with sy := W.qz.cl } = _ from e.symm]
      exact TB.sub kS (k := ("syncing" : Str)) hw (TE.const_str _ _ _) W.qz.m_d (by rw [WW.flen]; omega)
    · have e := (congrArg (fun x => updO W.qz.d (.sdict x) (WW.os { W.qz with sy := W.qz.cl })) (WW.u_closing { W.qz with sy := W.qz.cl } none)).trans (wp0 N _)
      rw [show WW.os { W.qz with sy := W.qz.cl, cl := none } = _ from e.symm]
      exact TB.sub kS (k := ("closing" : Str)) hw (TE.const_str _ _ _) (WW.m_d { W.qz with sy := W.qz.cl }) (by rw [WW.flen]; omega)
  refine TS.last (TX.ret (TE.tuple (ds := [.str "told", oI W.qz.cl]) (TEs.cons (TE.const_str _ _ _) (TEs.cons (WW.f_syncing { W.qz with sy := W.qz.cl, cl := none } hw (WW.m_d _)) TEs.nil)) (by simp)) (Fin.same (fin ?_)))
  unfold WW.cz; rw [if_neg hn, if_neg (by rw [hhot, h]; decide)]; rfl

theorem lheldN_cv {lv : Nat} (hlv : lv ≤ 12) (W : WW) (k : Int) (r : Int × Str) (hz : W.wn.length ≤ 900) : CV lv 238 [vR W.d, dI k, dS "names", .d (pN r)] W.os
    (fun o a => if W.wh.any (· == k) = true then o = WW.os { W with wn := W.wn ++ [r] } ∧ a = .val (.d (told .none)) else o = W.os ∧ a = .val (.d misuD)) := by
  refine CV.nd fun nd => ?_
  have N := nd5 nd
  refine CV.def (xs := ["world", "txg", "some", "row"]) (fun w => rfl) (fun w => by kernel_rfl) (fun vals h => ?_) ?_ ?_ ?_ (by omega) rfl rfl rfl fun c L hc hL => ?_
  · match vals, h with
    | [a, b, d, e], _ => rfl
  · decide +kernel
  · decide +kernel
  · decide +kernel
  refine TS.guard (TT.cmp (TE.name rfl) (W.f_holds (TE.name rfl) W.m_d) (OpR.notinI (.inr ⟨_, rfl, .inl W.m_lh⟩))) (fun h => TS.retS (TE.tuple (ds := [.str "misused", .none]) (TEs.cons (TE.const_str _ _ _) (TEs.cons (TE.const_none _ _) TEs.nil)) (by simp)) (Fin.same ?_)) fun h => ?_
  · rw [if_neg (by cases q : W.wh.any (· == k) with | false => decide | true => rw [q] at h; cases h)]; exact ⟨rfl, rfl⟩
  have hh : W.wh.any (· == k) = true := by cases q : W.wh.any (· == k) with | true => rfl | false => rw [q] at h; cases h
  refine TS.seq (TX.to (ω₂ := WW.os { W with wn := W.wn ++ [r] }) (TX.expr (TE.bm (TE.item kS (k := ("names" : Str)) (av := vR W.ln) (TE.name rfl) (TE.name rfl) (.inl W.m_d) rfl) (GM.list (.inl W.m_ln) PySem.F.slot_list_append ty_app) (TEs.cons (TE.name rfl) TEs.nil) (CB.append W.m_ln (by simp; omega) ⟨rfl, rfl⟩))) ?_) ?_
  · refine (wp2 N _).trans ?_
    unfold WW.os
    simp only [List.map_append]; rfl
  · refine TS.last (TX.ret (TE.tuple (ds := [.str "told", .none]) (TEs.cons (TE.const_str _ _ _) (TEs.cons (TE.const_none _ _) TEs.nil)) (by simp)) (Fin.same ?_))
    rw [if_pos hh]; exact ⟨rfl, rfl⟩
theorem lheldS_cv {lv : Nat} (hlv : lv ≤ 12) (W : WW) (k : Int) (r : Int × Int) (hz : W.ws.length ≤ 900) : CV lv 238 [vR W.d, dI k, dS "spent", .d (pI r)] W.os
    (fun o a => if W.wh.any (· == k) = true then o = WW.os { W with ws := W.ws ++ [r] } ∧ a = .val (.d (told .none)) else o = W.os ∧ a = .val (.d misuD)) := by
  refine CV.nd fun nd => ?_
  have N := nd5 nd
  refine CV.def (xs := ["world", "txg", "some", "row"]) (fun w => rfl) (fun w => by kernel_rfl) (fun vals h => ?_) ?_ ?_ ?_ (by omega) rfl rfl rfl fun c L hc hL => ?_
  · match vals, h with
    | [a, b, d, e], _ => rfl
  · decide +kernel
  · decide +kernel
  · decide +kernel
  refine TS.guard (TT.cmp (TE.name rfl) (W.f_holds (TE.name rfl) W.m_d) (OpR.notinI (.inr ⟨_, rfl, .inl W.m_lh⟩))) (fun h => TS.retS (TE.tuple (ds := [.str "misused", .none]) (TEs.cons (TE.const_str _ _ _) (TEs.cons (TE.const_none _ _) TEs.nil)) (by simp)) (Fin.same ?_)) fun h => ?_
  · rw [if_neg (by cases q : W.wh.any (· == k) with | false => decide | true => rw [q] at h; cases h)]; exact ⟨rfl, rfl⟩
  have hh : W.wh.any (· == k) = true := by cases q : W.wh.any (· == k) with | true => rfl | false => rw [q] at h; cases h
  refine TS.seq (TX.to (ω₂ := WW.os { W with ws := W.ws ++ [r] }) (TX.expr (TE.bm (TE.item kS (k := ("spent" : Str)) (av := vR W.ls) (TE.name rfl) (TE.name rfl) (.inl W.m_d) rfl) (GM.list (.inl W.m_ls) PySem.F.slot_list_append ty_app) (TEs.cons (TE.name rfl) TEs.nil) (CB.append W.m_ls (by simp; omega) ⟨rfl, rfl⟩))) ?_) ?_
  · refine (wp3 N _).trans ?_
    unfold WW.os
    simp only [List.map_append]; rfl
  · refine TS.last (TX.ret (TE.tuple (ds := [.str "told", .none]) (TEs.cons (TE.const_str _ _ _) (TEs.cons (TE.const_none _ _) TEs.nil)) (by simp)) (Fin.same ?_))
    rw [if_pos hh]; exact ⟨rfl, rfl⟩

theorem ldone_cv {lv : Nat} (hlv : lv ≤ 12) (W : WW) (k : Int) : CV lv 245 [vR W.d, dI k] W.os
    (fun o a => if W.sy = some k then o = WW.os { W with la := k, sy := none } ∧ a = .val (.d (told .none)) else o = W.os ∧ a = .val (.d misuD)) := by
  refine CV.nd fun nd => ?_
  have N := nd5 nd
  refine CV.def (xs := ["world", "txg"]) (fun w => rfl) (fun w => by kernel_rfl) (fun vals h => ?_) ?_ ?_ ?_ (by omega) rfl rfl rfl fun c L hc hL => ?_
  · match vals, h with
    | [a, b], _ => rfl
  · decide +kernel
  · decide +kernel
  · decide +kernel
  refine TS.guard (x := !(W.sy == some k)) (TT.conseq (TT.or2 (b₂ := !(W.sy == some k)) (TT.cmp (W.f_syncing (TE.name rfl) W.m_d) (TE.const_none _ _) (OpR.isN W.sy)) fun h => TT.conseq (TT.cmp (W.f_syncing (TE.name rfl) W.m_d) (TE.name rfl) (OpR.neD (n := 0) (m := 0) hc (Nice.oI _ _) (Nice.int _ _) (by omega) (by omega) (by omega))) (by rw [eqv_oI2])) (by cases W.sy <;> simp)) (fun h => TS.retS (TE.tuple (ds := [.str "misused", .none]) (TEs.cons (TE.const_str _ _ _) (TEs.cons (TE.const_none _ _) TEs.nil)) (by simp)) (Fin.same ?_)) fun h => ?_
  · have hk : ¬ W.sy = some k := by simpa using h
    rw [if_neg hk]; exact ⟨rfl, rfl⟩
  have hk : W.sy = some k := by simpa using h
  refine TS.seq (TX.assign2 (Φ := Ph W.os dN) hc (TE.name rfl) (TE.v (TE.const_none _ _) ⟨rfl, rfl⟩) (fun o C h => nomatch h.2) fun o a h' => ?_) (ρ₁ := ([("world", vR W.d), ("txg", dI k)] : Vs)) (ω₁ := WW.os { W with la := k, sy := none }) ?_
  · obtain ⟨rfl, h'⟩ := h'
    cases h'
    refine ⟨([("world", vR W.d), ("txg", dI k)] : Vs), WW.os { W with la := k }, ([("world", vR W.d), ("txg", dI k)] : Vs), WW.os { W with la := k, sy := none }, ?_, ?_, rfl, rfl, rfl⟩
    · have e := (congrArg (fun x => updO W.d (.sdict x) W.os) (W.u_last k)).trans (wp0 N _)
      rw [show WW.os { W with la := k } = _ from e.symm]
      exact TB.sub kS (k := ("last" : Str)) (TE.name rfl) (TE.const_str _ _ _) W.m_d (by rw [WW.flen]; omega)
    · have e := (congrArg (fun x => updO W.d (.sdict x) (WW.os { W with la := k })) (WW.u_syncing { W with la := k } none)).trans (wp0 N _)
      rw [show WW.os { W with la := k, sy := none } = _ from e.symm]
      exact TB.sub kS (k := ("syncing" : Str)) (TE.name rfl) (TE.const_str _ _ _) (WW.m_d { W with la := k }) (by rw [WW.flen]; omega)
  refine TS.last (TX.ret (TE.tuple (ds := [.str "told", .none]) (TEs.cons (TE.const_str _ _ _) (TEs.cons (TE.const_none _ _) TEs.nil)) (by simp)) (Fin.same ?_))
  rw [if_pos hk]; exact ⟨rfl, rfl⟩

theorem lticket_cv {lv : Nat} (hlv : lv ≤ 12) (W : WW) (k : Int) (hz : W.wt.length ≤ 900) : CV lv 252 [vR W.d, dI k] W.os
    (fun o a => if k > W.op then o = W.os ∧ a = .val (.d misuD) else o = WW.os { W with given := W.given + 1, wt := W.wt ++ [(W.given + 1, k)] } ∧ a = .val (.d (told (.int (W.given + 1))))) := by
  refine CV.nd fun nd => ?_
  have N := nd5 nd
  refine CV.def (xs := ["world", "txg"]) (fun w => rfl) (fun w => by kernel_rfl) (fun vals h => ?_) ?_ ?_ ?_ (by omega) rfl rfl rfl fun c L hc hL => ?_
  · match vals, h with
    | [a, b], _ => rfl
  · decide +kernel
  · decide +kernel
  · decide +kernel
  refine TS.guard (TT.cmp (TE.name rfl) (W.f_open (TE.name rfl) W.m_d) (OpR.gt _ _)) (fun h => TS.retS (TE.tuple (ds := [.str "misused", .none]) (TEs.cons (TE.const_str _ _ _) (TEs.cons (TE.const_none _ _) TEs.nil)) (by simp)) (Fin.same ?_)) fun h => ?_
  · rw [if_pos (show k > W.op from of_decide_eq_true h)]; exact ⟨rfl, rfl⟩
  have hk : ¬ k > W.op := of_decide_eq_false h
  refine TS.seq (TX.to (TX.setsub kS (k := ("given" : Str)) (TE.add (W.f_given (TE.name rfl) W.m_d) (TE.const_int 1 _ _)) (TE.name rfl) (TE.const_str _ _ _) W.m_d (by rw [W.flen]; omega)) (ω₂ := WW.os { W with given := W.given + 1 }) ?_) ?_
  · rw [WW.u_given]; exact wp0 N _
  refine TS.seq (TX.to (ω₂ := WW.os { W with given := W.given + 1, wt := W.wt ++ [(W.given + 1, k)] }) (TX.expr (TE.bm (WW.f_tickets { W with given := W.given + 1 } (TE.name rfl) (WW.m_d _)) (GM.list (.inl (WW.m_lw { W with given := W.given + 1 })) PySem.F.slot_list_append ty_app)
    (TEs.cons (TE.tuple (ds := [.int (W.given + 1), .int k]) (TEs.cons (WW.f_given { W with given := W.given + 1 } (TE.name rfl) (WW.m_d _)) (TEs.cons (TE.name rfl) TEs.nil)) (by simp)) TEs.nil) (CB.append (WW.m_lw { W with given := W.given + 1 }) (by simp; omega) ⟨rfl, rfl⟩))) ?_) ?_
  · refine (wp4 N _).trans ?_
    unfold WW.os
    simp only [List.map_append]; rfl
  · refine TS.last (TX.ret (TE.tuple (ds := [.str "told", .int (W.given + 1)]) (TEs.cons (TE.const_str _ _ _) (TEs.cons (WW.f_given { W with given := W.given + 1, wt := W.wt ++ [(W.given + 1, k)] } (TE.name rfl) (WW.m_d _)) TEs.nil)) (by simp)) (Fin.same ?_))
    rw [if_neg hk]; exact ⟨rfl, rfl⟩
end Mine
set_option Elab.async false
set_option maxRecDepth 100000
set_option linter.unusedVariables false
namespace Mine
open PySem PySem.W PySem.Calls PyProof.Rows PySem.Spec PyProof.Rows.LCg

theorem Wk_d (W : WW) : W.d ∈ keys W.os := .head _
theorem Wk_lh (W : WW) : W.lh ∈ keys W.os := .tail _ (.head _)
theorem Wk_ln (W : WW) : W.ln ∈ keys W.os := .tail _ (.tail _ (.head _))
theorem Wk_ls (W : WW) : W.ls ∈ keys W.os := .tail _ (.tail _ (.tail _ (.head _)))
theorem Wk_lw (W : WW) : W.lw ∈ keys W.os := .tail _ (.tail _ (.tail _ (.tail _ (.head _))))
noncomputable def WW.due (W : WW) : List Int := (W.wt.filter fun t => decide (t.2 ≤ W.la)).map (·.1)
theorem perm6 {α : Type} (d k a0 a1 a2 a3 a4 : α) : [d, k, a0, a1, a2, a3, a4].Perm ([k, a4] ++ [a0, a1, a2, a3, d]) := by
  have h1 : [d, k, a0, a1, a2, a3, a4].Perm [d, k, a4, a0, a1, a2, a3] := .cons _ (.cons _ (List.perm_middle (l₁ := [a0, a1, a2, a3]) (l₂ := [])))
  have h2 : ([k, a4] ++ [a0, a1, a2, a3, d]).Perm [k, a4, d, a0, a1, a2, a3] := .cons _ (.cons _ (List.perm_middle (l₁ := [a0, a1, a2, a3]) (l₂ := [])))
  exact h1.trans ((List.perm_middle (l₁ := [k, a4]) (a := d)).symm.trans h2.symm)
theorem lserved_cv {lv : Nat} (hlv : lv ≤ 15) (W : WW) (hz : W.wt.length ≤ 900) : CV lv 257 [vR W.d] W.os (fun o a => a = .val (.d (told (.list (W.due.map .int)))) ∧ ∃ D, o = WW.os { W with lw := D, wt := W.wt.filter fun t => decide (t.2 > W.la) }) := by
  refine CV.defC (xs := ["world"]) [] (fun n => [(n + 1, .cell (some (vR W.d)))]) (fun w => rfl) (fun w => by kernel_rfl) (fun vals h => ?_) (fun x av h => by cases h) (fun n => rfl) ?_ ?_ ?_ ?_ hlv rfl rfl rfl fun c L hc hL => ?_
  · match vals, h with
    | [a], _ => rfl
  · intro n x hx
    rcases List.mem_singleton.mp hx with rfl
    exact .inr ⟨rfl, rfl⟩
  · decide +kernel
  · decide +kernel
  · decide +kernel
  refine TS.nd fun nd => ?_
  obtain ⟨n1, nd'⟩ := nd_cons nd
  have N := nd5 nd'
  have nL : ∀ b ∈ keys W.os, L + 1 ≠ b := fun b h e => n1 b h e.symm
  have hlt : (W.lw, AO.list (W.wt.map fun t => .d (pI t))) ∈ [(L + 1, AO.cell (some (vR W.d)))] ++ W.os := List.mem_append_right _ W.m_lw
  have hIn := fun o => updO_in (ao := .exact o (.list (W.wt.map fun t => .d (pI t)))) (show (W.d, AO.sdict W.fs) ∈ [(L + 1, AO.cell (some (vR W.d)))] ++ W.os from .tail _ W.m_d) N.h0.2.2.2
  have hcell := fun o => updO_in (ao := .exact o (.list (W.wt.map fun t => .d (pI t)))) (show (L + 1, AO.cell (some (vR W.d))) ∈ [(L + 1, AO.cell (some (vR W.d)))] ++ W.os from .head _) (nL _ (Wk_lw W))
  have hex := fun o => updO_self (ao := .exact o (.list (W.wt.map fun t => .d (pI t)))) hlt
  refine TS.seq (ω₁ := [(L + 1, AO.cell (some (vR W.d)))] ++ W.os) (ρ₁ := [("found", .d (.list (W.due.map .int)))]) (TX.exact hlt fun o => (TX.assignComp _ (W.wt.map fun t => if t.2 ≤ W.la then some (PyData.int t.1) else none) (fun a => [("row", a)]) hc ⟨rfl, by decide +kernel, rfl, by decide +kernel, fun _ => rfl⟩ (W.f_tickets (TE.cell (.inl rfl) rfl (hcell o)) (hIn o)) (SRC.own hc (hex o)) (by simp) (by simp; omega) rfl rfl
    (fun C ρ' a h => TA.name rfl) (fun C ρ' i a o' h1 h2 => ?_)).mono fun f r o' h => ?_) ?_
  · obtain ⟨t, ht, rfl⟩ := tick_at h1
    rw [List.getElem?_map, ht] at h2
    cases h2
    refine ⟨decide (t.2 ≤ W.la), TT.cmp (TE.itemT (ds := [.int t.1, .int t.2]) (k := 1) (TE.name rfl) (TE.const_int 1 _ _) rfl (by omega)) (W.f_last (TE.cell (.inl rfl) rfl (hcell o)) (hIn o)) (OpR.le _ _), fun h => ?_, fun h => ⟨.d (.int t.1), ?_, TE.itemT (ds := [.int t.1, .int t.2]) (k := 0) (TE.name rfl) (TE.const_int 0 _ _) rfl (by omega)⟩⟩
    · exact congrArg (Option.map AV.d) (if_neg (of_decide_eq_false h))
    · exact congrArg (Option.map AV.d) (if_pos (of_decide_eq_true h))
  · obtain ⟨rfl, rfl, rfl⟩ := h
    refine ⟨_, rfl, hlt, rfl, ?_, rfl⟩
    rw [show (List.filterMap _root_.id (W.wt.map fun t => if t.2 ≤ W.la then some (PyData.int t.1) else none)) = W.due.map .int from (fm_filter2 _ _ _).trans (by unfold WW.due; rw [List.map_map]; rfl)]
  refine TS.cons (Ψ₁ := fun f r o => f = .next ∧ r = ([("found", .d (.list (W.due.map .int)))] : Vs) ∧ ∃ D, o = [(D, AO.list ((W.wt.filter fun t => decide (t.2 > W.la)).map fun t => .d (pI t))), (L + 1, AO.cell (some (vR W.d))),
      (W.d, .sdict (WW.fs { W with lw := D })), (W.lh, .list (W.wh.map dI)), (W.ln, .list (W.wn.map fun t => .d (pN t))), (W.ls, .list (W.ws.map fun t => .d (pI t))), (W.lw, .list (W.wt.map fun t => .d (pI t)))]) ?_ (fun r o h => ?_) (fun a r o h => nomatch h.1) (fun C r o h => nomatch h.1)
  · refine TX.setsubV kS (Φ := fun o a => ∃ D, D ∉ keys ([(L + 1, AO.cell (some (vR W.d)))] ++ W.os) ∧ a = .val (vR D) ∧ o = (D, AO.list ((W.wt.filter fun t => decide (t.2 > W.la)).map fun t => .d (pI t))) :: ([(L + 1, AO.cell (some (vR W.d)))] ++ W.os))
      (TV.exact hlt fun o => TV.comp _ (W.wt.map fun t => if t.2 > W.la then some (AV.d (pI t)) else none) (fun a => [("row", a)]) hc ⟨rfl, by decide +kernel, rfl, by decide +kernel, fun _ => rfl⟩ (W.f_tickets (TE.cell (.inl rfl) rfl (hcell o)) (hIn o)) (SRC.own hc (hex o)) (by simp) (by simp; omega)
        (fun C ρ' a h => TA.name rfl) (fun C ρ' i a o' h1 h2 => ?_) fun D hD => ?_) (fun o C h => by obtain ⟨D, _, h, _⟩ := h; cases h) (fun o₁ a h => ?_)
    · obtain ⟨t, ht, rfl⟩ := tick_at h1
      rw [List.getElem?_map, ht] at h2
      cases h2
      refine ⟨decide (t.2 > W.la), TT.cmp (TE.itemT (ds := [.int t.1, .int t.2]) (k := 1) (TE.name rfl) (TE.const_int 1 _ _) rfl (by omega)) (W.f_last (TE.cell (.inl rfl) rfl (hcell o)) (hIn o)) (OpR.gt _ _), fun h => ?_, fun h => ⟨.d (pI t), ?_, TE.name rfl⟩⟩
      · exact if_neg (show ¬ t.2 > W.la from of_decide_eq_false h)
      · exact if_pos (show t.2 > W.la from of_decide_eq_true h)
    · rw [updO_keys] at hD
      have hne : D ≠ W.lw := fun e => hD (e ▸ List.mem_map_of_mem (f := Prod.fst) hlt)
      refine ⟨(D, AO.list ((W.wt.filter fun t => decide (t.2 > W.la)).map fun t => .d (pI t))) :: ([(L + 1, AO.cell (some (vR W.d)))] ++ W.os), ?_, .tail _ hlt, D, hD, rfl, rfl⟩
      rw [updO_cons_ne hne, show (List.filterMap _root_.id (W.wt.map fun t => if t.2 > W.la then some (AV.d (pI t)) else none)) = (W.wt.filter fun t => decide (t.2 > W.la)).map fun t => .d (pI t) from fm_filter2 _ _ _]
    · obtain ⟨D, hD, hv, rfl⟩ := h
      cases hv
      have nD : ∀ b ∈ keys ([(L + 1, AO.cell (some (vR W.d)))] ++ W.os), D ≠ b := fun b hb e => hD (e ▸ hb)
      refine ⟨W.d, W.fs, ("tickets" : Str), _, _, TE.cell (.inl rfl) rfl (.tail _ (.head _)), TE.const_str _ _ _, .tail _ (.tail _ W.m_d), by rw [W.flen]; omega, rfl, rfl, D, ?_⟩
      rw [WW.u_tickets, updO_cons_ne (nD _ (.tail _ (Wk_d W))), List.singleton_append, updO_cons_ne (nL _ (Wk_d W))]
      congr 2
      exact wp0 N _
  · obtain ⟨_, rfl, D, rfl⟩ := h
    refine TS.last (TX.ret (TE.tuple (ds := [.str "told", .list (W.due.map .int)]) (TEs.cons (TE.const_str _ _ _) (TEs.cons (TE.name rfl) TEs.nil)) (by simp)) ⟨WW.os { W with lw := D, wt := W.wt.filter fun t => decide (t.2 > W.la) }, [(L + 1, AO.cell (some (vR W.d))), (W.lw, AO.list (W.wt.map fun t => .d (pI t)))], ?_, rfl, D, rfl⟩)
    exact perm6 _ _ _ _ _ _ _

/-! ## the word -/
noncomputable def WW.word (W : WW) (k : Int) : Str := if k ≤ W.la then "synced" else if W.sy = some k then "syncing" else if W.cl = some k then "closing" else if W.op = k then "open" else "later"
noncomputable def WW.wrds (W : WW) : List (PyData × Str) := [(oI W.sy, "syncing"), (oI W.cl, "closing"), (.int W.op, "open")]
theorem lword_cv {lv : Nat} (hlv : lv ≤ 15) (W : WW) (k : Int) : CS lv 269 [vR W.d, dI k] W.os W.os (dS (W.word k)) := by
  refine CV.defC (xs := ["world", "txg"]) [("world", vR W.d)] (fun n => [(n + 1, .cell (some (dI k)))]) (fun w => rfl) (fun w => by kernel_rfl) (fun vals h => ?_) (fun x av h => ?_) (fun n => rfl) ?_ ?_ ?_ ?_ hlv rfl rfl rfl fun c L hc hL => ?_
  · match vals, h with
    | [a, b], _ => rfl
  · by_cases e : x = "world"
    · subst e; exact ⟨rfl, h⟩
    · have : (x == ("world" : Str)) = false := by simpa using e
      rw [List.lookup_cons, this] at h; cases h
  · intro n x hx
    rcases List.mem_cons.mp hx with rfl | hx
    · exact .inl rfl
    · rcases List.mem_singleton.mp hx with rfl
      exact .inr ⟨rfl, rfl⟩
  · decide +kernel
  · decide +kernel
  · decide +kernel
  have hcell : (L + 1, AO.cell (some (dI k))) ∈ [(L + 1, AO.cell (some (dI k)))] ++ W.os := .head _
  have hd : (W.d, AO.sdict W.fs) ∈ [(L + 1, AO.cell (some (dI k)))] ++ W.os := .tail _ W.m_d
  refine TS.guard (TT.cmp (TE.cell (.inl rfl) rfl hcell) (W.f_last (TE.name rfl) hd) (OpR.le _ _)) (fun h => TS.retS (TE.const_str _ _ _) (Fin.drop (Φ := Ph W.os (dS (W.word k))) ⟨rfl, ?_⟩)) fun h => ?_
  · unfold WW.word; rw [if_pos (of_decide_eq_true h)]
  have h0 := of_decide_eq_false h
  have tup : ∀ (p : PyData) (x : Str), PyData.tuple [p, .str x] = PyData.tuple [p, .str x] := fun _ _ => rfl
  refine TS.seq (TX.assign (a := .d (.list [.tuple [oI W.sy, .str "syncing"], .tuple [oI W.cl, .str "closing"], .tuple [.int W.op, .str "open"]])) (TE.list (ds := [.tuple [oI W.sy, .str "syncing"], .tuple [oI W.cl, .str "closing"], .tuple [.int W.op, .str "open"]])
    (TEs.cons (TE.tuple (ds := [oI W.sy, .str "syncing"]) (TEs.cons (W.f_syncing (TE.name rfl) hd) (TEs.cons (TE.const_str _ _ _) TEs.nil)) (by simp)) (TEs.cons (TE.tuple (ds := [oI W.cl, .str "closing"]) (TEs.cons (W.f_closing (TE.name rfl) hd) (TEs.cons (TE.const_str _ _ _) TEs.nil)) (by simp)) (TEs.cons (TE.tuple (ds := [.int W.op, .str "open"]) (TEs.cons (W.f_open (TE.name rfl) hd) (TEs.cons (TE.const_str _ _ _) TEs.nil)) (by simp)) TEs.nil))) (by simp)) rfl) ?_
  let out : List (Option PyData) := [if W.sy = some k then some (.str "syncing") else none, if W.cl = some k then some (.str "closing") else none, if W.op = k then some (.str "open") else none]
  have step : ∀ {C : Addr} {ρ' : Vs} {o : Option Int} {x : Str} {env : Env} {p1 p2 p3 p4 : Pos} {e : PyData} (he : e = oI o ∨ ∃ i, o = some i ∧ e = .int i), True := fun _ => trivial
  refine TS.last (TX.ret (TE.itemL (ds := out.filterMap _root_.id ++ [.str "later"]) (k := 0) (TE.addL (TE.comp _ out (ρ2 "near" "word") hc ⟨rfl, by decide +kernel, rfl, by decide +kernel, fun _ => rfl⟩ (TE.name rfl) (SRC.dlist hc) rfl (by simp) (fun C ρ' a h => ?_) (fun C ρ' i a o' h1 h2 => ?_)) (TE.list (ds := [.str "later"]) (TEs.cons (TE.const_str _ _ _) TEs.nil) (by simp)) ?_) (TE.const_int 0 _ _) (by omega) ?_ (by omega)) (Fin.drop (Φ := Ph W.os (dS (W.word k))) ⟨rfl, rfl⟩))
  · simp only [List.map_cons, List.map_nil, List.mem_cons, List.not_mem_nil, or_false] at h
    rcases h with rfl | rfl | rfl <;> exact TA.pair hc rfl rfl
  · match i, h1, h2 with
    | 0, h1, h2 =>
      cases h1; cases h2
      refine ⟨W.sy == some k, TT.cmp (TE.name rfl) (TE.cell (.inl rfl) rfl hcell) (OpR.conseq (OpR.eqD (n := 0) (m := 0) hc (Nice.oI _ _) (Nice.int _ _) (by omega) (by omega) (by omega)) (eqv_oI2 _ _)), fun h => ?_, fun h => ⟨dS "syncing", ?_, TE.name rfl⟩⟩
      · exact congrArg (Option.map AV.d) (if_neg (beq_eq_false_iff_ne.mp h))
      · exact congrArg (Option.map AV.d) (if_pos (beq_iff_eq.mp h))
    | 1, h1, h2 =>
      cases h1; cases h2
      refine ⟨W.cl == some k, TT.cmp (TE.name rfl) (TE.cell (.inl rfl) rfl hcell) (OpR.conseq (OpR.eqD (n := 0) (m := 0) hc (Nice.oI _ _) (Nice.int _ _) (by omega) (by omega) (by omega)) (eqv_oI2 _ _)), fun h => ?_, fun h => ⟨dS "closing", ?_, TE.name rfl⟩⟩
      · exact congrArg (Option.map AV.d) (if_neg (beq_eq_false_iff_ne.mp h))
      · exact congrArg (Option.map AV.d) (if_pos (beq_iff_eq.mp h))
    | 2, h1, h2 =>
      cases h1; cases h2
      refine ⟨W.op == k, TT.cmp (TE.name rfl) (TE.cell (.inl rfl) rfl hcell) (OpR.eqI _ _), fun h => ?_, fun h => ⟨dS "open", ?_, TE.name rfl⟩⟩
      · exact congrArg (Option.map AV.d) (if_neg (beq_eq_false_iff_ne.mp h))
      · exact congrArg (Option.map AV.d) (if_pos (beq_iff_eq.mp h))
  · have : (out.filterMap _root_.id).length ≤ out.length := List.length_filterMap_le _ _
    have e : out.length = 3 := rfl
    simp only [List.length_cons, List.length_nil]
    omega
  · show (out.filterMap _root_.id ++ [PyData.str "later"])[0]? = some (.str (W.word k))
    unfold WW.word
    rw [if_neg h0]
    by_cases h1 : W.sy = some k
    · simp [out, h1]
    · by_cases h2 : W.cl = some k
      · simp [out, h1, h2]
      · by_cases h3 : W.op = k
        · simp [out, h1, h2, h3]
        · simp [out, h1, h2, h3]
end Mine
set_option Elab.async false
set_option maxRecDepth 100000
set_option linter.unusedVariables false
namespace Mine
open PySem PySem.W PySem.Calls PyProof.Rows PySem.Spec

/-! # the plain law: both stay the same -/
noncomputable def WW.live (W : WW) : List Int := W.sy.toList ++ (W.cl.toList ++ [W.op])
noncomputable def WW.namesOf (W : WW) (k : Int) : List Str := (W.wn.filter fun p => decide (p.1 = k)).map (·.2)
noncomputable def WW.sumOf (W : WW) (k : Int) : Int := ((W.ws.filter fun p => decide (p.1 = k)).map (·.2)).sum
structure Rel (G : GG) (W : WW) (n : Nat) : Prop where
  op : G.op = W.op
  cl : G.cl = W.cl
  sy : G.sy = W.sy
  la : G.la = W.la
  lim : G.lim = W.lim
  nt : G.nt = W.given + 1
  tick : G.tick = W.wt
  kh : G.holds.map (·.1) = W.live
  kn : G.nm.map (·.1) = W.live
  ks : G.spent.map (·.1) = W.live
  vh : ∀ k ∈ W.live, getP G.holds k = some (W.wh.count k : Int)
  vn : ∀ k ∈ W.live, ∃ a, getP G.nm k = some (a, dedup (W.namesOf k))
  vs : ∀ k ∈ W.live, getP G.spent k = some (W.sumOf k)
  up : W.live.Pairwise (· < ·)
  lo : ∀ k ∈ W.live, W.la < k
  hw : ∀ k ∈ W.wh, k ∈ W.cl.toList ++ [W.op]
  nw : ∀ p ∈ W.wn, p.1 ≤ W.la ∨ p.1 ∈ W.live
  sw : ∀ p ∈ W.ws, p.1 ≤ W.la ∨ p.1 ∈ W.live
  zh : W.wh.length ≤ n
  zn : W.wn.length ≤ n
  zs : W.ws.length ≤ n
  zt : W.wt.length ≤ n
  bd : 0 ≤ W.op ∧ W.op ≤ 10 + (n : Int)
  ok : ∀ p ∈ W.wn, PyData.strOk p.2 = true

section
variable {K β : Type} [DecidableEq K]
theorem stored_same {h : List (K × β)} {k : K} (m : k ∈ h.map (·.1)) (v : β) : (storedP h k v).map (·.1) = h.map (·.1) := by
  unfold storedP
  rw [if_pos]
  · rw [List.map_map]
    refine List.map_congr_left fun p _ => ?_
    show (if p.1 = k then (p.1, v) else p).1 = p.1
    split <;> rfl
  · obtain ⟨p, hp, e⟩ := List.mem_map.mp m
    exact List.any_eq_true.mpr ⟨p, hp, decide_eq_true e⟩
theorem getP_isSome {h : List (K × β)} {k : K} (m : k ∈ h.map (·.1)) : (getP h k).isSome = true := by
  cases e : getP h k with
  | some _ => rfl
  | none =>
    obtain ⟨p, hp, e2⟩ := List.mem_map.mp m
    exact absurd e2 (getP_none.mp e p hp)
theorem getP_out {h : List (K × β)} {k : K} (m : k ∉ h.map (·.1)) : getP h k = none := getP_none.mpr fun p hp e => m (e ▸ List.mem_map_of_mem (f := Prod.fst) hp)
end

namespace Rel
variable {G : GG} {W : WW} {n : Nat}
theorem in_live (R : Rel G W n) {k : Int} (h : k ∈ W.wh) : k ∈ W.live := List.mem_append_right _ (R.hw k h)
theorem op_live (W : WW) : W.op ∈ W.live := List.mem_append_right _ (List.mem_append_right _ (.head _))
theorem nodup (R : Rel G W n) : W.live.Nodup := R.up.imp fun h e => by rw [e] at h; exact Int.lt_irrefl _ h
theorem hat (R : Rel G W n) (k : Int) : G.hat k = (W.wh.count k : Int) := by
  unfold GG.hat
  by_cases h : k ∈ W.live
  · rw [R.vh k h]; rfl
  · rw [getP_out (by rw [R.kh]; exact h)]
    have : W.wh.count k = 0 := List.count_eq_zero.mpr fun m => h (R.in_live m)
    rw [this]; rfl
theorem hat0 (R : Rel G W n) (k : Int) : G.hat k = 0 ↔ k ∉ W.wh := by
  rw [R.hat, ← List.count_eq_zero]
  exact Int.natCast_eq_zero
theorem any_in (W : WW) (k : Int) : W.wh.any (· == k) = decide (k ∈ W.wh) := by
  rw [Bool.eq_iff_iff, List.any_eq_true, decide_eq_true_iff]
  exact ⟨fun ⟨x, h, e⟩ => beq_iff_eq.mp e ▸ h, fun h => ⟨k, h, beq_self_eq_true k⟩⟩
theorem names_out (R : Rel G W n) {k : Int} (h : k ∉ W.live) (h2 : W.la < k) : W.namesOf k = [] := by
  unfold WW.namesOf
  rw [List.map_eq_nil_iff, List.filter_eq_nil_iff]
  intro p hp e
  have e := of_decide_eq_true e
  rcases R.nw p hp with h3 | h3
  · rw [e] at h3; omega
  · exact h (e ▸ h3)
theorem sum_out (R : Rel G W n) {k : Int} (h : k ∉ W.live) (h2 : W.la < k) : W.sumOf k = 0 := by
  unfold WW.sumOf
  have : (W.ws.filter fun p => decide (p.1 = k)) = [] := by
    rw [List.filter_eq_nil_iff]
    intro p hp e
    have e := of_decide_eq_true e
    rcases R.sw p hp with h3 | h3
    · rw [e] at h3; omega
    · exact h (e ▸ h3)
  rw [this]; rfl
theorem dirt (R : Rel G W n) (k : Int) : G.dirt k = if W.la < k then dedup (W.namesOf k) else [] := by
  unfold GG.dirt
  by_cases h : k ∈ W.live
  · obtain ⟨a, e⟩ := R.vn k h
    rw [e, if_pos (R.lo k h)]; rfl
  · rw [getP_out (by rw [R.kn]; exact h)]
    split
    · rename_i h2; rw [R.names_out h h2]; rfl
    · rfl
theorem mono (R : Rel G W n) {m : Nat} (h : n ≤ m) : Rel G W m := { R with zh := Nat.le_trans R.zh h, zn := Nat.le_trans R.zn h, zs := Nat.le_trans R.zs h, zt := Nat.le_trans R.zt h, bd := ⟨R.bd.1, by have := R.bd.2; omega⟩ }

theorem begin (R : Rel G W n) : Rel { G with holds := storedP G.holds G.op (G.hat G.op + 1) } { W with wh := W.wh ++ [W.op] } (n + 1) := by
  have m : G.op ∈ G.holds.map (·.1) := by rw [R.kh, R.op]; exact op_live W
  refine { (R.mono (Nat.le_succ n)) with kh := (stored_same m _).trans R.kh, vh := fun k hk => ?_, hw := fun k hk => ?_, zh := ?_ }
  · rw [getP_stored]
    show (if k = G.op then _ else _) = some (((W.wh ++ [W.op]).count k : Nat) : Int)
    rw [List.count_append, List.count_singleton, R.op]
    by_cases e : k = W.op
    · rw [if_pos e, e, R.hat]; simp
    · rw [if_neg e, R.vh k hk]
      have : (W.op == k) = false := beq_eq_false_iff_ne.mpr (Ne.symm e)
      simp [this]
  · rcases List.mem_append.mp hk with h | h
    · exact R.hw k h
    · rw [List.mem_singleton.mp h]; exact List.mem_append_right _ (.head _)
  · have := R.zh; simp only [List.length_append, List.length_singleton]; omega
theorem «end» (R : Rel G W n) {k : Int} (hk : k ∈ W.wh) : Rel { G with holds := storedP G.holds k (G.hat k - 1) } { W with wh := W.wh.erase k } (n + 1) := by
  have m : k ∈ G.holds.map (·.1) := by rw [R.kh]; exact R.in_live hk
  have pos : 0 < W.wh.count k := List.count_pos_iff.mpr hk
  refine { (R.mono (Nat.le_succ n)) with kh := (stored_same m _).trans R.kh, vh := fun j hj => ?_, hw := fun j hj => R.hw j (List.mem_of_mem_erase hj), zh := ?_ }
  · rw [getP_stored]
    show (if j = k then _ else _) = some (((W.wh.erase k).count j : Nat) : Int)
    by_cases e : j = k
    · rw [if_pos e, e, R.hat, List.count_erase_self]
      congr 1; omega
    · rw [if_neg e, R.vh j hj, List.count_erase_of_ne e]
  · have := R.zh
    have h2 := List.length_erase_le (a := k) (l := W.wh)
    show (W.wh.erase k).length ≤ n + 1
    omega

theorem namesOf_snoc (W : WW) (k : Int) (x : Str) (j : Int) : WW.namesOf { W with wn := W.wn ++ [(k, x)] } j = if k = j then W.namesOf j ++ [x] else W.namesOf j := by
  unfold WW.namesOf
  show ((W.wn ++ [(k, x)]).filter fun p => decide (p.1 = j)).map (·.2) = _
  rw [List.filter_append, List.map_append]
  by_cases e : k = j
  · simp [e]
  · simp [e]
theorem sumOf_snoc (W : WW) (k v : Int) (j : Int) : WW.sumOf { W with ws := W.ws ++ [(k, v)] } j = if k = j then W.sumOf j + v else W.sumOf j := by
  unfold WW.sumOf
  show (((W.ws ++ [(k, v)]).filter fun p => decide (p.1 = j)).map (·.2)).sum = _
  rw [List.filter_append, List.map_append, List.sum_append]
  by_cases e : k = j
  · simp [e]
  · simp [e]
theorem dedup_snoc (l : List Str) (x : Str) : dedup (l ++ [x]) = addk (dedup l) x := by unfold dedup; rw [List.foldl_append]; rfl
theorem setN_keys (nm : List (Int × Addr × List Str)) (a : Addr) (ys : List Str) : (setN nm a ys).map (·.1) = nm.map (·.1) := by
  unfold setN
  rw [List.map_map]
  refine List.map_congr_left fun p _ => ?_
  show (if p.2.1 = a then (p.1, p.2.1, ys) else p).1 = p.1
  split <;> rfl
theorem nodup_val {α β : Type} {f : α → β} {l : List α} (n : (l.map f).Nodup) {x y : α} (hx : x ∈ l) (hy : y ∈ l) (e : f x = f y) : x = y := by
  induction l with
  | nil => cases hx
  | cons a l ih =>
    obtain ⟨n1, n2⟩ := List.nodup_cons.mp (show (f a :: l.map f).Nodup from n)
    rcases List.mem_cons.mp hx with rfl | hx' <;> rcases List.mem_cons.mp hy with rfl | hy'
    · rfl
    · exact absurd (e ▸ List.mem_map_of_mem hy') n1
    · exact absurd (e ▸ List.mem_map_of_mem hx') n1
    · exact ih n2 hx' hy'
theorem getP_setN {nm : List (Int × Addr × List Str)} (nk : (nm.map (·.1)).Nodup) (na : (nm.map (·.2.1)).Nodup) {k : Int} {a : Addr} {xs ys : List Str} (h : getP nm k = some (a, xs)) (j : Int) : getP (setN nm a ys) j = if j = k then some (a, ys) else getP nm j := by
  have hm := getP_mem h
  cases e : getP nm j with
  | none =>
    have nj : j ∉ nm.map (·.1) := fun m => by have := getP_isSome m; rw [e] at this; cases this
    rw [getP_out (by rw [setN_keys]; exact nj), if_neg]
    intro e2
    exact nj (e2 ▸ List.mem_map_of_mem (f := Prod.fst) hm)
  | some p =>
    obtain ⟨b, zs⟩ := p
    have hj := getP_mem e
    by_cases e2 : j = k
    · subst e2
      rw [if_pos rfl]
      rw [h] at e; cases e
      refine getP_nodup (by rw [setN_keys]; exact nk) ?_
      exact List.mem_map.mpr ⟨(j, a, xs), hm, by simp⟩
    · rw [if_neg e2]
      refine getP_nodup (by rw [setN_keys]; exact nk) ?_
      refine List.mem_map.mpr ⟨(j, b, zs), hj, ?_⟩
      have : b ≠ a := fun e3 => e2 (congrArg Prod.fst (nodup_val (f := fun p : Int × Addr × List Str => p.2.1) na hj hm e3))
      simp [this]
theorem mark (R : Rel G W n) {k : Int} (hk : k ∈ W.wh) (x : Str) (hx : PyData.strOk x = true) {a : Addr} {xs : List Str} (h : getP G.nm k = some (a, xs)) (na : (G.nm.map (·.2.1)).Nodup) : Rel { G with nm := setN G.nm a (addk xs x) } { W with wn := W.wn ++ [(k, x)] } (n + 1) := by
  have nk : (G.nm.map (·.1)).Nodup := by rw [R.kn]; exact R.nodup
  refine { (R.mono (Nat.le_succ n)) with kn := (setN_keys _ _ _).trans R.kn, vn := fun j hj => ?_, nw := fun p hp => ?_, zn := ?_, ok := fun p hp => (List.mem_append.mp hp).elim (R.ok p) fun h => by rw [List.mem_singleton.mp h]; exact hx }
  · show ∃ b, getP (setN G.nm a (addk xs x)) j = some (b, dedup (WW.namesOf { W with wn := W.wn ++ [(k, x)] } j))
    rw [getP_setN nk na h, namesOf_snoc]
    obtain ⟨b, e⟩ := R.vn j hj
    by_cases e2 : j = k
    · subst e2
      rw [h] at e
      cases e
      rw [if_pos rfl, if_pos rfl, dedup_snoc]
      exact ⟨_, rfl⟩
    · rw [if_neg e2, if_neg (Ne.symm e2)]
      exact ⟨b, e⟩
  · rcases List.mem_append.mp hp with h | h
    · exact R.nw p h
    · rw [List.mem_singleton.mp h]; exact .inr (R.in_live hk)
  · have := R.zn; simp only [List.length_append, List.length_singleton]; omega
theorem spend (R : Rel G W n) {k : Int} (hk : k ∈ W.wh) (v : Int) : Rel { G with spent := storedP G.spent k (W.sumOf k + v) } { W with ws := W.ws ++ [(k, v)] } (n + 1) := by
  have m : k ∈ G.spent.map (·.1) := by rw [R.ks]; exact R.in_live hk
  refine { (R.mono (Nat.le_succ n)) with ks := (stored_same m _).trans R.ks, vs := fun j hj => ?_, sw := fun p hp => ?_, zs := ?_ }
  · rw [getP_stored, sumOf_snoc]
    by_cases e : j = k
    · subst e; rw [if_pos rfl, if_pos rfl]
    · rw [if_neg e, if_neg (Ne.symm e), R.vs j hj]
  · rcases List.mem_append.mp hp with h | h
    · exact R.sw p h
    · rw [List.mem_singleton.mp h]; exact .inr (R.in_live hk)
  · have := R.zs; simp only [List.length_append, List.length_singleton]; omega
end Rel
end Mine
set_option Elab.async false
set_option maxRecDepth 100000
set_option linter.unusedVariables false
namespace Mine
open PySem PySem.W PySem.Calls PyProof.Rows PySem.Spec
namespace Rel
variable {G : GG} {W : WW} {n : Nat}

theorem live_q {W : WW} (h : W.cl = none) : WW.live { W with cl := some W.op, op := W.op + 1 } = W.live ++ [W.op + 1] := by
  unfold WW.live
  rw [h]
  simp
theorem le_op (R : Rel G W n) {k : Int} (h : k ∈ W.live) : k ≤ W.op := by
  unfold WW.live at h
  have u := R.up
  unfold WW.live at u
  rw [← List.append_assoc] at h u
  rcases List.mem_append.mp h with h | h
  · exact Int.le_of_lt ((List.pairwise_append.mp u).2.2 k h W.op (.head _))
  · rw [List.mem_singleton.mp h]; exact Int.le_refl _
theorem new_op (R : Rel G W n) : W.op + 1 ∉ W.live := fun h => by have := R.le_op h; omega
theorem quiesce (R : Rel G W n) (h : W.cl = none) (A : Addr) : Rel (G.q A) { W with cl := some W.op, op := W.op + 1 } (n + 1) := by
  have e := live_q h
  have nl := R.new_op
  have lop := R.lo _ (op_live W)
  have nwh : W.op + 1 ∉ W.wh := fun m => nl (R.in_live m)
  have new : ∀ {β : Type} {l : List (Int × β)}, l.map (fun x => x.1) = W.live → ∀ p ∈ l, p.1 ≠ G.op + 1 := fun hl p hp e => nl (by rw [← R.op, ← e, ← hl]; exact List.mem_map_of_mem (f := Prod.fst) hp)
  refine { (R.mono (Nat.le_succ n)) with bd := ⟨by show 0 ≤ W.op + 1; have := R.bd.1; omega, by show W.op + 1 ≤ 10 + ((n + 1 : Nat) : Int); have := R.bd.2; omega⟩, op := ?_, cl := ?_, kh := ?_, kn := ?_, ks := ?_, vh := fun k hk => ?_, vn := fun k hk => ?_, vs := fun k hk => ?_, up := ?_, lo := fun k hk => ?_, hw := fun k hk => ?_, nw := fun p hp => ?_, sw := fun p hp => ?_ }
  · show G.op + 1 = W.op + 1; rw [R.op]
  · show some G.op = some W.op; rw [R.op]
  · show (storedP G.holds (G.op + 1) 0).map (fun p : Int × Int => p.1) = _
    rw [storedP_new (new R.kh), List.map_append, R.kh, R.op, e]; rfl
  · show (G.nm ++ [(G.op + 1, A, [])]).map (fun p : Int × Addr × List Str => p.1) = _
    rw [List.map_append, R.kn, R.op, e]; rfl
  · show (storedP G.spent (G.op + 1) 0).map (fun p : Int × Int => p.1) = _
    rw [storedP_new (new R.ks), List.map_append, R.ks, R.op, e]; rfl
  · show getP (storedP G.holds (G.op + 1) 0) k = _
    rw [getP_stored, R.op]
    rw [e] at hk
    by_cases e2 : k = W.op + 1
    · rw [if_pos e2, e2]
      show some 0 = some ((W.wh.count (W.op + 1) : Nat) : Int)
      rw [List.count_eq_zero.mpr nwh]; rfl
    · rw [if_neg e2]
      exact R.vh k ((List.mem_append.mp hk).resolve_right fun m => e2 (List.mem_singleton.mp m))
  · show ∃ a, getP (G.nm ++ [(G.op + 1, A, [])]) k = some (a, dedup (W.namesOf k))
    rw [getP_append, R.op]
    rw [e] at hk
    by_cases e2 : k = W.op + 1
    · rw [getP_out (by rw [R.kn, e2]; exact nl), e2, R.names_out nl (by omega)]
      exact ⟨A, by simp [getP]; rfl⟩
    · obtain ⟨a, e3⟩ := R.vn k ((List.mem_append.mp hk).resolve_right fun m => e2 (List.mem_singleton.mp m))
      exact ⟨a, by rw [e3]⟩
  · show getP (storedP G.spent (G.op + 1) 0) k = some (W.sumOf k)
    rw [getP_stored, R.op]
    rw [e] at hk
    by_cases e2 : k = W.op + 1
    · rw [if_pos e2, e2, R.sum_out nl (by omega)]
    · rw [if_neg e2]
      exact R.vs k ((List.mem_append.mp hk).resolve_right fun m => e2 (List.mem_singleton.mp m))
  · rw [e]
    refine List.pairwise_append.mpr ⟨R.up, List.pairwise_singleton _ _, fun a ha b hb => ?_⟩
    rw [List.mem_singleton.mp hb]
    have := R.le_op ha
    omega
  · rw [e] at hk
    rcases List.mem_append.mp hk with hk | hk
    · exact R.lo k hk
    · rw [List.mem_singleton.mp hk]; show W.la < _; omega
  · have := R.hw k hk
    rw [h] at this
    show k ∈ [W.op] ++ [W.op + 1]
    exact List.mem_append_left _ this
  · rcases R.nw p hp with h | h
    · exact .inl h
    · rw [e]; exact .inr (List.mem_append_left _ h)
  · rcases R.sw p hp with h | h
    · exact .inl h
    · rw [e]; exact .inr (List.mem_append_left _ h)
theorem close (R : Rel G W n) {k : Int} (hs : W.sy = none) (hc : W.cl = some k) (hk : k ∉ W.wh) : Rel { G with sy := G.cl, cl := none } { W with sy := W.cl, cl := none } n := by
  have e : WW.live { W with sy := W.cl, cl := none } = W.live := by unfold WW.live; rw [hs, hc]; rfl
  refine { R with cl := rfl, sy := R.cl, kh := e ▸ R.kh, kn := e ▸ R.kn, ks := e ▸ R.ks, vh := e ▸ R.vh, vn := fun j hj => ?_, vs := fun j hj => ?_, up := e ▸ R.up, lo := fun j hj => R.lo j (e ▸ hj), hw := fun j hj => ?_, nw := fun p hp => ?_, sw := fun p hp => ?_ }
  · exact R.vn j (e ▸ hj)
  · exact R.vs j (e ▸ hj)
  · have := R.hw j hj
    rw [hc] at this
    rcases List.mem_append.mp this with h | h
    · rw [Option.mem_toList.mp h |> Option.some.inj |>.symm] at hj
      exact absurd hj hk
    · exact h
  · rw [e]; exact R.nw p hp
  · rw [e]; exact R.sw p hp
theorem without_keys {β : Type} (h : List (Int × β)) (k : Int) : (withoutP h k).map (·.1) = (h.map (·.1)).filter fun j => decide (j ≠ k) := by
  unfold withoutP
  rw [List.filter_map]; rfl
theorem done (R : Rel G W n) {k : Int} (hs : W.sy = some k) : Rel { G with sy := none, la := k, holds := withoutP G.holds k, nm := withoutP G.nm k, spent := withoutP G.spent k } { W with la := k, sy := none } n := by
  have e : W.live = k :: WW.live { W with la := k, sy := none } := by unfold WW.live; rw [hs]; rfl
  have nd := R.nodup
  have up := R.up
  rw [e] at nd up
  have nk := (List.nodup_cons.mp nd).1
  have e2 : W.live.filter (fun j => decide (j ≠ k)) = WW.live { W with la := k, sy := none } := by
    rw [e, List.filter_cons]
    simp only [ne_eq, not_true, decide_false]
    rw [if_neg (by decide)]
    exact List.filter_eq_self.mpr fun j hj => decide_eq_true fun e3 => nk (e3 ▸ hj)
  have inl : ∀ {j}, j ∈ WW.live { W with la := k, sy := none } → j ∈ W.live ∧ j ≠ k := fun hj => ⟨by rw [e]; exact .tail _ hj, fun e3 => nk (e3 ▸ hj)⟩
  have lk := R.lo k (by rw [e]; exact .head _)
  refine { R with sy := rfl, la := rfl, kh := ?_, kn := ?_, ks := ?_, vh := fun j hj => ?_, vn := fun j hj => ?_, vs := fun j hj => ?_, up := (List.pairwise_cons.mp up).2, lo := (List.pairwise_cons.mp up).1, nw := fun p hp => ?_, sw := fun p hp => ?_ }
  · rw [without_keys, R.kh, e2]
  · rw [without_keys, R.kn, e2]
  · rw [without_keys, R.ks, e2]
  · rw [getP_without, if_neg (inl hj).2]; exact R.vh j (inl hj).1
  · show ∃ a, getP (withoutP G.nm k) j = _
    rw [getP_without, if_neg (inl hj).2]; exact R.vn j (inl hj).1
  · rw [getP_without, if_neg (inl hj).2]; exact R.vs j (inl hj).1
  · rcases R.nw p hp with h | h
    · exact .inl (by show p.1 ≤ k; omega)
    · rw [e] at h
      rcases List.mem_cons.mp h with h | h
      · exact .inl (by show p.1 ≤ k; omega)
      · exact .inr h
  · rcases R.sw p hp with h | h
    · exact .inl (by show p.1 ≤ k; omega)
    · rw [e] at h
      rcases List.mem_cons.mp h with h | h
      · exact .inl (by show p.1 ≤ k; omega)
      · exact .inr h
theorem ticket (R : Rel G W n) (k : Int) : Rel { G with tick := G.tick ++ [(G.nt, k)], nt := G.nt + 1 } { W with given := W.given + 1, wt := W.wt ++ [(W.given + 1, k)] } (n + 1) := by
  refine { (R.mono (Nat.le_succ n)) with nt := ?_, tick := ?_, zt := ?_ }
  · show G.nt + 1 = W.given + 1 + 1; rw [R.nt]
  · show G.tick ++ [(G.nt, k)] = W.wt ++ [(W.given + 1, k)]; rw [R.tick, R.nt]
  · have := R.zt; simp only [List.length_append, List.length_singleton]; omega
theorem served (R : Rel G W n) (D D' : Addr) : Rel { G with lt := D, tick := G.tick.filter fun t => decide (t.2 > G.la) } { W with lw := D', wt := W.wt.filter fun t => decide (t.2 > W.la) } n := by
  refine { R with tick := ?_, zt := Nat.le_trans (List.length_filter_le _ _) R.zt }
  show (G.tick.filter fun t => decide (t.2 > G.la)) = _
  rw [R.tick, R.la]
theorem due (R : Rel G W n) : G.due = W.due := by unfold GG.due WW.due; rw [R.tick, R.la]

/-! ## what is told agrees -/
theorem word (R : Rel G W n) (k : Int) : G.word k = W.word k := by
  unfold GG.word WW.word
  rw [R.la, R.sy, R.cl, R.op]
  by_cases h : k = W.op
  · rw [if_pos h, if_pos h.symm]
  · rw [if_neg h, if_neg (Ne.symm h)]
theorem names (R : Rel G W n) (k : Int) : G.dirt k = dedup ((W.wn.filter fun p => decide (p.1 = k) && decide (p.1 > W.la)).map (·.2)) := by
  rw [R.dirt]
  unfold WW.namesOf
  split
  · rename_i h
    congr 2
    refine List.filter_congr fun p hp => ?_
    by_cases e : p.1 = k
    · simp [e, h]
    · simp [e]
  · rename_i h
    have : (W.wn.filter fun p => decide (p.1 = k) && decide (p.1 > W.la)) = [] := by
      rw [List.filter_eq_nil_iff]
      intro p hp e
      simp only [Bool.and_eq_true, decide_eq_true_eq] at e
      omega
    rw [this]; rfl
theorem spent_eq (R : Rel G W n) : G.spent = W.live.map fun k => (k, W.sumOf k) := by
  have nd : (G.spent.map (·.1)).Nodup := by rw [R.ks]; exact R.nodup
  rw [← R.ks, List.map_map]
  have : ∀ p ∈ G.spent, p = ((fun k => (k, W.sumOf k)) ∘ fun x => x.1) p := fun p hp => by
    have h1 := getP_nodup (k := p.1) (v := p.2) nd hp
    have h2 := R.vs p.1 (by rw [← R.ks]; exact List.mem_map_of_mem (f := Prod.fst) hp)
    rw [h1] at h2
    exact Prod.ext rfl (Option.some.inj h2)
  exact (List.map_id _).symm.trans (List.map_congr_left this)
theorem zsum : ∀ l : List Int, (l.map fun _ => (0 : Int)).sum = 0
  | [] => rfl
  | _ :: l => by rw [List.map_cons, List.sum_cons, zsum l]; rfl
theorem sum_live : ∀ (ws : List (Int × Int)) (live : List Int) (la : Int), live.Nodup → (∀ k ∈ live, la < k) → (∀ p ∈ ws, p.1 ≤ la ∨ p.1 ∈ live) →
    (live.map fun k => ((ws.filter fun p => decide (p.1 = k)).map (·.2)).sum).sum = ((ws.filter fun p => decide (p.1 > la)).map (·.2)).sum
  | [], live, la, _, _, _ => zsum live
  | p :: ws, live, la, nd, lo, h => by
    have ih := sum_live ws live la nd lo fun q hq => h q (.tail _ hq)
    have step : ∀ l : List Int, l.Nodup → (l.map fun k => (((p :: ws).filter fun q => decide (q.1 = k)).map (·.2)).sum).sum = (if p.1 ∈ l then p.2 else 0) + (l.map fun k => ((ws.filter fun q => decide (q.1 = k)).map (·.2)).sum).sum := by
      intro l
      induction l with
      | nil => intro _; simp
      | cons k l ihl =>
        intro nl
        obtain ⟨n1, n2⟩ := List.nodup_cons.mp nl
        have := ihl n2
        rw [List.map_cons, List.sum_cons, this, List.map_cons, List.sum_cons, List.filter_cons]
        by_cases e : p.1 = k
        · subst e
          rw [if_pos (decide_eq_true rfl), if_neg n1, if_pos (.head _), List.map_cons, List.sum_cons]
          omega
        · rw [if_neg (by simpa using e)]
          have e2 : (p.1 ∈ k :: l) ↔ p.1 ∈ l := by simp [e]
          by_cases e3 : p.1 ∈ l
          · rw [if_pos e3, if_pos (e2.mpr e3)]; omega
          · rw [if_neg e3, if_neg (fun m => e3 (e2.mp m))]; omega
    rw [step live nd, ih, List.filter_cons]
    rcases h p (.head _) with h1 | h1
    · rw [if_neg (fun m => by have := lo _ m; omega), if_neg (by simp; omega)]; omega
    · have := lo _ h1
      rw [if_pos h1, if_pos (by simp; omega), List.map_cons, List.sum_cons]
theorem all_spent (R : Rel G W n) : (G.spent.map (·.2)).sum = ((W.ws.filter fun p => decide (p.1 > W.la)).map (·.2)).sum := by
  rw [R.spent_eq, List.map_map]
  exact sum_live W.ws W.live W.la R.nodup R.lo R.sw
theorem full (R : Rel G W n) : G.full (W.sumOf W.op) = match W.lim with | none => false | some l => decide (l ≤ W.sumOf W.op) := by unfold GG.full; first | (rw [R.lim]; done) | (rw [R.lim]; cases W.lim <;> rfl)
theorem quiet (R : Rel G W n) : G.quiet = match W.cl with | none => false | some k => !decide (k ∈ W.wh) := by
  unfold GG.quiet
  rw [R.cl]
  cases W.cl with
  | none => rfl
  | some k =>
    rw [Bool.eq_iff_iff, beq_iff_eq, R.hat0]; simp
theorem wait (R : Rel G W n) : G.wait = srtI (dedup (W.wt.map (·.2))) := by unfold GG.wait; rw [R.tick]
theorem srt_live (R : Rel G W n) : srtI (G.holds.map (·.1)) = W.live := by
  rw [R.kh]
  exact (srtI_eq (.refl _) (R.up.imp fun h => Int.le_of_lt h)).symm
noncomputable def rowW (W : WW) (k : Int) : PyData := .tuple [.int k, .int (W.wh.count k : Int), .tuple ((srtS (dedup (W.namesOf k))).map .str), .int (W.sumOf k)]
theorem rows (R : Rel G W n) : G.rows = W.live.map (rowW W) := by
  unfold GG.rows
  rw [R.srt_live]
  refine List.map_congr_left fun k hk => ?_
  unfold GG.row rowW
  rw [R.hat, R.dirt, if_pos (R.lo k hk), R.vs k hk]; rfl
theorem plain (R : Rel G W n) : G.plain = .tuple [.int W.la, oI W.sy, oI W.cl, .int W.op, .tuple (W.live.map (rowW W)), .tuple (W.wt.map pI)] := by
  unfold GG.plain
  rw [R.la, R.sy, R.cl, R.op, R.rows, R.tick]
theorem mem_dedup {K : Type} [DecidableEq K] (l : List K) (x : K) : x ∈ dedup l ↔ x ∈ l := by
  have gen : ∀ (l acc : List K), x ∈ l.foldl addk acc ↔ x ∈ acc ∨ x ∈ l := by
    intro l
    induction l with
    | nil => intro acc; simp
    | cons a l ih =>
      intro acc
      rw [List.foldl_cons, ih]
      unfold addk
      split
      · rename_i h
        simp only [List.mem_cons]
        constructor
        · rintro (h1 | h1)
          · exact .inl h1
          · exact .inr (.inr h1)
        · rintro (h1 | rfl | h1)
          · exact .inl h1
          · exact .inl h
          · exact .inr h1
      · simp only [List.mem_append, List.mem_cons, List.not_mem_nil, or_false]
        rw [or_assoc]
  unfold dedup
  rw [gen]; simp
theorem is_dirty (R : Rel G W n) (x : Str) : (G.nm.any fun p => decide (x ∈ p.2.2)) = ((W.wn.filter fun p => decide (p.1 > W.la)).map (·.2)).any (· == x) := by
  rw [Bool.eq_iff_iff, List.any_eq_true, List.any_eq_true]
  have nd : (G.nm.map (·.1)).Nodup := by rw [R.kn]; exact R.nodup
  constructor
  · rintro ⟨p, hp, h⟩
    have h := of_decide_eq_true h
    have hl : p.1 ∈ W.live := by rw [← R.kn]; exact List.mem_map_of_mem (f := Prod.fst) hp
    obtain ⟨a, e⟩ := R.vn _ hl
    rw [getP_nodup (k := p.1) (v := p.2) nd hp] at e
    rw [congrArg Prod.snd (Option.some.inj e)] at h
    rw [mem_dedup] at h
    obtain ⟨q, hq, rfl⟩ := List.mem_map.mp h
    obtain ⟨h1, h2⟩ := List.mem_filter.mp hq
    have h2 := of_decide_eq_true h2
    refine ⟨q.2, List.mem_map.mpr ⟨q, List.mem_filter.mpr ⟨h1, decide_eq_true (by rw [h2]; exact R.lo _ hl)⟩, rfl⟩, beq_self_eq_true _⟩
  · rintro ⟨y, hy, e⟩
    rw [beq_iff_eq.mp e] at hy
    obtain ⟨q, hq, rfl⟩ := List.mem_map.mp hy
    obtain ⟨h1, h2⟩ := List.mem_filter.mp hq
    have h2 := of_decide_eq_true h2
    have hl : q.1 ∈ W.live := (R.nw q h1).resolve_left (by omega)
    obtain ⟨a, e⟩ := R.vn _ hl
    refine ⟨(q.1, a, dedup (W.namesOf q.1)), getP_mem e, decide_eq_true ?_⟩
    show q.2 ∈ dedup (W.namesOf q.1)
    rw [mem_dedup]
    exact List.mem_map.mpr ⟨q, List.mem_filter.mpr ⟨h1, decide_eq_true rfl⟩, rfl⟩
end Rel
end Mine
set_option Elab.async false
set_option maxRecDepth 100000
set_option linter.unusedVariables false
namespace Mine
open PySem PySem.W PySem.Calls PyProof.Rows PySem.Spec PyProof.Rows.LCg

section
variable {c : Cx} {env : Env} {ρ : Vs} {ω ω₁ ω₂ : Os} {Φ Φ' Φ₁ Φ₂ : Os → Oc → Prop} {Ψ : Fl → Vs → Os → Prop}
theorem TV.tup2 {e₁ e₂ : Expr} {k : Nat} {p : Pos} {p₁ : PyData} (h1 : TE c env ρ ω e₁ ω₁ (.d p₁)) (h2 : TV c env ρ ω₁ e₂ Φ₂) (hp : ∀ o a, Φ₂ o (.val a) → ∃ q, a = .d q ∧ Φ o (.val (.d (.tuple [p₁, q])))) (hx : ∀ o C, Φ₂ o (.exc C) → Φ o (.exc C))
    (hv : starEach [e₁, e₂] env = [(false, eval e₁ env), (false, eval e₂ env)] := by rfl) : TV c env ρ ω (.Tuple [e₁, e₂] k p) Φ := fun I mu s Q E X W q => by
  refine Tuple_ ?_
  rw [hv]
  refine spliced_cons (h1 I mu s _ _ X W fun v₁ s₁ I₁ mu₁ g₁ r₁ => spliced_cons (h2 _ _ _ _ _ g₁.st g₁.wd ⟨fun v₂ a₂ o s₂ I₂ mu₂ g₂ r₂ p₂ => spliced_nil ?_, fun e C o s₂ I₂ mu₂ g₂ x p => q.up _ _ _ _ _ _ (g₁.trans g₂) x (hx _ _ p)⟩))
  obtain ⟨p', rfl, pp⟩ := hp _ _ p₂
  refine wpAny_newObj_type ?_
  have G := Go.grow g₂.st g₂.wd (tk := s₂.toks) (dr := s₂.drawn) (HLe.push s₂.heap { cls := .type "tuple", data := .seq [v₁, v₂].toArray })
  obtain ⟨as, ra⟩ := reads_of_all2 (ds := [p₁, p']) (.cons ((r₁.mono g₂.le).mono G.le) (.cons (r₂.mono G.le) .nil))
  exact q.on _ (.d (.tuple [p₁, p'])) _ _ _ _ ((g₁.trans g₂).trans G) ⟨_, reads_tuple_at (g₂.st.grow_get (Heap.get?_push_size _ rfl) (Heap.get?_none_of_le (Nat.le_refl _))) rfl rfl ra⟩ pp
/-- a call of an own def with one argument, whatever it gives -/
theorem TV.callF1 {fe e : Expr} {p : Pos} {lv f : Nat} (hc : c.Ok lv) (hf : TE c env ρ ω fe ω₁ (vR f)) (ha : TV c env ρ ω₁ e Φ₁) (hk : keepIn (KK c.w) (.ref f) = true)
    (hs : ∀ o a, Φ₁ o (.val a) → ∃ ωf rest Φ₂, CV lv f [a] ωf Φ₂ ∧ o.Perm (ωf ++ rest) ∧ ∀ ωf' x, Φ₂ ωf' x → ∃ ω₃, (ωf' ++ rest).Perm ω₃ ∧ Φ' ω₃ x) (hx : ∀ o C, Φ₁ o (.exc C) → Φ' o (.exc C))
    (h1 : starEach [e] env = [(false, eval e env)] := by rfl)
    (he : eval (.Call fe [e] [] p) env = (do callWith p (← eval fe env) [] (backTo p (starEach [e] env)) (backToKw p (keywordEach [] env))) := by rfl) :
    TV c env ρ ω (.Call fe [e] [] p) Φ' := fun I mu s Q E X W q => by
  refine Call_ (hf I mu s _ _ X W fun v s₁ I₁ mu₁ g₁ r₁ => ?_) he
  have r₁ : v = .ref f := r₁
  subst r₁
  refine callWith_K (K := KK c.w) (g₁.st.kin hc) hk (spl1 ha g₁.st g₁.wd (fun v av ω' s₂ I₂ mu₂ g₂ r₂ p₂ => ⟨g₂.st.kin hc, ?_⟩) (fun e C ω' s' I' mu' g x p => q.up _ _ _ _ _ _ (g₁.trans g) x (hx _ _ p)) h1) h1 rfl
  obtain ⟨ωf, rest, Φ₂, h1, h2, h3⟩ := hs _ _ p₂
  exact wp_cs hc g₂.st g₂.wd h1 h2 h3 (.cons r₂ .nil) (q.after (g₁.trans g₂))
/-- a comparison of what may be anything -/
theorem TV.cmpV {l r : Expr} {op : CmpOp} {p : Pos} (hl : TV c env ρ ω l Φ₁) (hx : ∀ o C, Φ₁ o (.exc C) → Φ o (.exc C)) (h : ∀ o a, Φ₁ o (.val a) → ∃ Φ₂, TV c env ρ o r Φ₂ ∧ (∀ o C, Φ₂ o (.exc C) → Φ o (.exc C)) ∧ ∀ o' b, Φ₂ o' (.val b) → ∃ x, OpR c env ρ o' op a b x ∧ Φ o' (.val (dB x)))
    (hm : behindInMarks op r = false := by rfl) : TV c env ρ ω (.Compare l [op] [r] p) Φ := fun I mu s Q E X W q => by
  refine wpAny_Compare1 (hl I mu s _ _ X W ⟨fun u a o₁ s₁ I₁ mu₁ g₁ r₁ p₁ => ?_, fun e C ω' s' I' mu' g x p => q.up _ _ _ _ _ _ g x (hx _ _ p)⟩) hm
  obtain ⟨Φ₂, h1, h2, h3⟩ := h _ _ p₁
  refine h1 _ _ _ _ _ g₁.st g₁.wd ⟨fun v b o₂ s₂ I₂ mu₂ g₂ r₂ p₂ => ?_, fun e C ω' s' I' mu' g x p => q.up _ _ _ _ _ _ (g₁.trans g) x (h2 _ _ p)⟩
  obtain ⟨x, ho, pp⟩ := h3 _ _ p₂
  exact ho _ _ _ _ _ _ _ g₂.st g₂.wd (r₁.mono g₂.le) r₂ fun s₃ I₃ mu₃ g₃ => q.on _ (dB x) _ _ _ _ ((g₁.trans g₂).trans g₃) (rB _ _) pp
end

theorem tried_cv {lv : Nat} {f : Addr} {ω : Os} {Φ : Os → Oc → Prop} {Ψ : Os → PyData → Prop} {q : Str} {params : Arguments} {body : Expr} {scope : Scope} {cl : List (Str × Addr)} (hlv : lv ≤ 12) (hm : (f, lamA q params body scope cl) ∈ ω) (hs : CV (lv + 1) f [] ω Φ)
    (hΦ : ∀ o a, Φ o a → (∃ p, a = .val (.d p) ∧ Ψ o (told p)) ∨ (a = .exc 44 ∧ Ψ o busyD) ∨ (a = .exc 56 ∧ Ψ o misuD)) : CV lv 217 [vR f] ω (fun o a => ∃ p, a = .val (.d p) ∧ Ψ o p) := by
  refine CV.defE (xs := ["call"]) (fun w => rfl) (fun w => by kernel_rfl) (fun vals h => ?_) ?_ ?_ ?_ (by omega) rfl rfl rfl fun c L hc hL he => ?_
  · match vals, h with
    | [a], _ => rfl
  · decide +kernel
  · decide +kernel
  · decide +kernel
  refine TS.last (TX.try2 (C1 := 44) (C2 := 56) (Ψ₁ := fun f r o => (∃ p, f = .ret (.d p) ∧ Ψ o p) ∨ (f = .exc 44 ∧ Ψ o busyD) ∨ (f = .exc 56 ∧ Ψ o misuD)) hc
    (TS.last (TX.retV (Φ := fun o a => (∃ p, a = .val (.d p) ∧ Ψ o p) ∨ (a = .exc 44 ∧ Ψ o busyD) ∨ (a = .exc 56 ∧ Ψ o misuD)) (TV.tup2 (TE.const_str _ _ _) (TV.callL (rest := []) (Φ' := Φ) hc (TE.name rfl) hm hs (by rw [List.append_nil]) (fun o a h => ⟨o, by rw [List.append_nil], h⟩)) (fun o a h => ?_) (fun o C h => ?_)) (fun o a h => ?_) (fun o C h => ?_)))
    (fun r o h => ?_) (fun a r o h => ?_) (fun C r o h => ?_) he.symm (by kernel_rfl) (by kernel_rfl) rfl rfl (by kernel_rfl) (by kernel_rfl) (by kernel_rfl) (by kernel_rfl) (by kernel_rfl) (by kernel_rfl) (by kernel_rfl))
  · rcases hΦ _ _ h with ⟨p, e, h2⟩ | ⟨e, _⟩ | ⟨e, _⟩
    · cases e; exact ⟨p, rfl, .inl ⟨_, rfl, h2⟩⟩
    · cases e
    · cases e
  · rcases hΦ _ _ h with ⟨p, e, _⟩ | ⟨e, h2⟩ | ⟨e, h2⟩
    · cases e
    · exact .inr (.inl ⟨e, h2⟩)
    · exact .inr (.inr ⟨e, h2⟩)
  · rcases h with ⟨p, e, h⟩ | ⟨e, _⟩ | ⟨e, _⟩
    · cases e; exact .inl ⟨p, rfl, h⟩
    · cases e
    · cases e
  · rcases h with ⟨p, e, _⟩ | ⟨e, h⟩ | ⟨e, h⟩
    · cases e
    · cases e; exact .inr (.inl ⟨rfl, h⟩)
    · cases e; exact .inr (.inr ⟨rfl, h⟩)
  · rcases h with ⟨p, e, _⟩ | ⟨e, _⟩ | ⟨e, _⟩ <;> cases e
  · rcases h with ⟨p, e, h⟩ | ⟨e, _⟩ | ⟨e, _⟩
    · cases e; exact Fin.same ⟨p, rfl, h⟩
    · cases e
    · cases e
  · rcases h with ⟨p, e, _⟩ | ⟨e, h⟩ | ⟨e, h⟩
    · cases e
    · cases e
      exact .inl ⟨rfl, fun A => TS.last (TX.ret (TE.tuple (ds := [.str "busy", .none]) (TEs.cons (TE.const_str _ _ _) (TEs.cons (TE.const_none _ _) TEs.nil)) (by simp)) ⟨nofun, Fin.same ⟨_, rfl, h⟩⟩)⟩
    · cases e
      exact .inr ⟨rfl, fun A => TS.last (TX.ret (TE.tuple (ds := [.str "misused", .none]) (TEs.cons (TE.const_str _ _ _) (TEs.cons (TE.const_none _ _) TEs.nil)) (by simp)) ⟨nofun, Fin.same ⟨_, rfl, h⟩⟩)⟩

/-- what is told of a call of a method -/
noncomputable def Ans (Φm : Os → Oc → Prop) (o : Os) (p : PyData) : Prop := (∃ v, Φm o (.val (.d v)) ∧ p = told v) ∨ (Φm o (.exc 44) ∧ p = busyD) ∨ (Φm o (.exc 56) ∧ p = misuD)
/-- _law_tried(lambda: ...), the lambda a call of a method of what is owned -/
theorem TV.tried {c : Cx} {env : Env} {ρ : Vs} {lv : Nat} {og RR : Os} {Φm : Os → Oc → Prop} {q : Str} {params : Arguments} {body : Expr} {scope : Scope} {cl : List (Str × Addr)} {fp lp p : Pos} {cd P : Addr} (hc : c.Ok lv) (hlv : lv ≤ 11)
    (hf : TE c env ρ (og ++ RR) (.Name "_law_tried" fp) (og ++ RR) (vR 217)) (hcd : env.code = .ref cd) (hK : CodeK (KK c.w) cd P) (hm : (P, tabA q) ∈ og ++ RR) (hq : env.qual ++ "<lambda>" = q)
    (hcl : closureFor scope env = pure cl) (hne : cl.isEmpty = false) (hdef : defaultsOf params env = ([], []))
    (hbind : ∀ pm cdv ct, bindArgs (lamFd q params body scope cl pm cdv ct) ⟨[], []⟩ = pure []) (hcell : ∀ x ∈ scope.names, x.2 ≠ .cell) (hco : scope.isCoroutine = false) (hgen : scope.isGenerator = false) (hk : scope.kind = .function)
    (hb : ∀ (c' : Cx) (L' f : Addr) (cdv : Value) (fa : AO), c'.Ok (lv + 2) → TV c' (envX q scope L' f cdv cl) [] ((f, fa) :: (og ++ RR)) body (fun o a => ∃ o', o = (f, fa) :: (o' ++ RR) ∧ Φm o' a))
    (hΦ : ∀ o a, Φm o a → (∃ v, a = .val (.d v)) ∨ a = .exc 44 ∨ a = .exc 56)
    (h1 : starEach [.Lambda params body scope lp] env = [(false, eval (.Lambda params body scope lp) env)] := by rfl)
    (he : eval (.Call (.Name "_law_tried" fp) [.Lambda params body scope lp] [] p) env = (do callWith p (← eval (.Name "_law_tried" fp) env) [] (backTo p (starEach [.Lambda params body scope lp] env)) (backToKw p (keywordEach [] env))) := by rfl) :
    TV c env ρ (og ++ RR) (.Call (.Name "_law_tried" fp) [.Lambda params body scope lp] [] p) (fun o a => ∃ o' v, o = o' ++ RR ∧ a = .val (.d v) ∧ Ans Φm o' v) := by
  refine TV.callF1 (Φ₁ := fun o a => ∃ f, a = .val (vR f) ∧ o = (f, lamA q params body scope cl) :: (og ++ RR)) hc hf (TV.lam hc hcd hK hm hq hcl hne hdef fun f hf' => ⟨f, rfl, rfl⟩) (by kernel_rfl) (fun o a h => ?_) (fun o C h => by obtain ⟨_, h, _⟩ := h; cases h) h1 he
  obtain ⟨f, h, rfl⟩ := h
  cases h
  refine ⟨_, [], _, tried_cv (q := q) (params := params) (body := body) (scope := scope) (cl := cl) (Φ := fun o a => ∃ o', o = o' ++ RR ∧ Φm o' a) (Ψ := fun o v => ∃ o', o = o' ++ RR ∧ Ans Φm o' v) (by omega) (.head _) (CV.lam (.head _) (by omega) hbind hcell hco hgen hk fun c' L' cdv hc' _ => (hb c' L' f cdv _ hc').mono fun o a h => ?_) (fun o a h => ?_), by rw [List.append_nil], fun o x h => ?_⟩
  · obtain ⟨o', rfl, h⟩ := h
    cases a with
    | val a => exact ⟨o' ++ RR, [(f, lamA q params body scope cl)], .refl _, o', rfl, h⟩
    | exc C => exact ⟨o' ++ RR, [(f, lamA q params body scope cl)], .refl _, o', rfl, h⟩
  · obtain ⟨o', rfl, h⟩ := h
    rcases hΦ _ _ h with ⟨v, rfl⟩ | rfl | rfl
    · exact .inl ⟨v, rfl, o', rfl, .inl ⟨v, h, rfl⟩⟩
    · exact .inr (.inl ⟨rfl, o', rfl, .inr (.inl ⟨h, rfl⟩)⟩)
    · exact .inr (.inr ⟨rfl, o', rfl, .inr (.inr ⟨h, rfl⟩)⟩)
  · obtain ⟨v, rfl, o', rfl, h⟩ := h
    exact ⟨_, by rw [List.append_nil], o', v, rfl, rfl, h⟩
end Mine
set_option Elab.async false
set_option maxRecDepth 100000
set_option linter.unusedVariables false
namespace Mine
open PySem PySem.W PySem.Calls PyProof.Rows PySem.Spec PyProof.Rows.LCg

noncomputable abbrev qL : Str := "_law_done_right.<locals>.<lambda>"
noncomputable abbrev C4 (L : Addr) (t nm a : Option AV) (g : Addr) : Os := [(L + 4, .cell t), (L + 3, .cell nm), (L + 2, .cell a), (L + 1, .cell (some (vR g)))]
/-- the code table and the cells of the deed -/
noncomputable abbrev CE (L : Addr) (t nm a : Option AV) (g : Addr) : Os := (259, tabA qL) :: C4 L t nm a g
noncomputable abbrev ST (G : GG) (W : WW) (T : Os) : Os := G.os ++ (W.os ++ T)
noncomputable abbrev PhR (g d : Addr) (n : Nat) : Os → Oc → Prop := fun o a => a = .val (dB true) ∧ ∃ G W, Rel G W n ∧ G.g = g ∧ W.d = d ∧ o = ST G W [(259, tabA qL)]

section
variable {c : Cx} {env : Env} {ρ : Vs} {ω ω' : Os} {st : List Stmt} {Ψ : Fl → Vs → Os → Prop} {Φ Φm : Os → Oc → Prop}
theorem TS.perm (h : TS c env ρ ω' st Ψ) (p : ω.Perm ω') : TS c env ρ ω st Ψ := TS.frame (rest := []) h (by rw [List.append_nil]; exact p) fun f r o h => ⟨o, by rw [List.append_nil], h⟩
theorem TX.deed {lv : Nat} {og RR : Os} {l r : Expr} {p1 p2 : Pos} {Ψ : Os → Prop} (hc : c.Ok lv) (hlv : lv ≤ 20) (hl : TV c env ρ (og ++ RR) l (fun o a => ∃ o' v, o = o' ++ RR ∧ a = .val (.d v) ∧ Ans Φm o' v))
    (hr : ∀ o' v, Ans Φm o' v → ∃ p Φ₂, TV c env ρ (o' ++ RR) r Φ₂ ∧ (∀ o C, ¬ Φ₂ o (.exc C)) ∧ ∀ o b, Φ₂ o (.val b) → b = .d p ∧ v = p ∧ Nice p 3 ∧ Ψ o) (hΨ : ∀ o, Ψ o → Fin Φ (.ret (dB true)) ρ o)
    (hm : behindInMarks .Eq r = false := by rfl) : TX c env ρ (og ++ RR) (.Return (some (.Compare l [.Eq] [r] p1)) p2) (fun f r o => f ≠ .next ∧ Fin Φ f r o) := by
  refine TX.retV (Φ := fun o a => a = .val (dB true) ∧ Ψ o) (TV.cmpV hl (fun o C h => by obtain ⟨_, _, _, h, _⟩ := h; cases h) (fun o a h => ?_) hm) (fun o a h => ?_) (fun o C h => nomatch h.1)
  · obtain ⟨o', v, rfl, h, ha⟩ := h
    cases h
    obtain ⟨p, Φ₂, h1, h2, h3⟩ := hr _ _ ha
    refine ⟨Φ₂, h1, fun o C h => (h2 _ _ h).elim, fun o2 b h => ?_⟩
    obtain ⟨rfl, rfl, h4, h5⟩ := h3 _ _ h
    exact ⟨_, OpR.conseq (OpR.eqD (n := 3) (m := 3) hc h4 h4 (by omega) (by omega) hlv) h4.refl, rfl, h5⟩
  · obtain ⟨h, h2⟩ := h
    cases h
    exact ⟨nofun, hΨ _ h2⟩
end
theorem updO_app (a : Addr) (x : AO) (l r : Os) : updO a x (l ++ r) = updO a x l ++ updO a x r := List.map_append
theorem updO_ST {a : Addr} {G : GG} {W : WW} (h1 : a ∉ keys G.os) (h2 : a ∉ keys W.os) (x : AO) (T : Os) : updO a x (ST G W T) = ST G W (updO a x T) := by
  unfold ST
  rw [updO_app, updO_app, updO_no _ h1, updO_no _ h2]
theorem fin_ST {g d : Addr} {n : Nat} {ρ : Vs} {L : Addr} {t nm a : Option AV} {g' : Addr} {o : Os} {G : GG} {W : WW} (R : Rel G W n) (hg : G.g = g) (hd : W.d = d) (p : o.Perm (ST G W (CE L t nm a g'))) : Fin (PhR g d n) (.ret (dB true)) ρ o := by
  refine ⟨ST G W [(259, tabA qL)], C4 L t nm a g', p.trans ?_, rfl, G, W, R, hg, hd, rfl⟩
  have e : ST G W (CE L t nm a g') = ST G W [(259, tabA qL)] ++ C4 L t nm a g' := by
    unfold ST CE
    simp only [List.append_assoc, List.cons_append, List.nil_append]
  rw [e]
  exact List.perm_append_comm
theorem nice_told {p : PyData} {n : Nat} (h : Nice p n) : Nice (told p) (n + 1) := Nice.tuple fun d hd => by
  rcases List.mem_cons.mp hd with rfl | hd
  · exact Nice.str (by decide +kernel) n
  · rw [List.mem_singleton.mp hd]; exact h
theorem Nice.le {p : PyData} {n m : Nat} (h : Nice p n) (l : n ≤ m) : Nice p m := ⟨h.can, Nat.le_trans h.dep l⟩
theorem nice_busy : Nice busyD 3 := Nice.le (n := 1) (Nice.tuple fun d hd => by
  rcases List.mem_cons.mp hd with rfl | hd
  · exact Nice.str (by decide +kernel) 0
  · rw [List.mem_singleton.mp hd]; exact Nice.none 0) (by omega)
theorem nice_misu : Nice misuD 3 := Nice.le (n := 1) (Nice.tuple fun d hd => by
  rcases List.mem_cons.mp hd with rfl | hd
  · exact Nice.str (by decide +kernel) 0
  · rw [List.mem_singleton.mp hd]; exact Nice.none 0) (by omega)
theorem abc_at (k : Int) (h0 : 0 ≤ k) (h3 : k < 3) : ∃ ch, (seqIndex? k (Str.length "abc")).bind ((Str.ofString "abc").cps[·]?) = some ch ∧ PyData.strOk ⟨#[ch]⟩ = true := by
  have : k = 0 ∨ k = 1 ∨ k = 2 := by omega
  rcases this with rfl | rfl | rfl
  · exact ⟨97, by decide +kernel, by decide +kernel⟩
  · exact ⟨98, by decide +kernel, by decide +kernel⟩
  · exact ⟨99, by decide +kernel, by decide +kernel⟩

section
variable {c : Cx} {env : Env} {ρ : Vs} {lv : Nat}
theorem TB.to {ω ω₁ ω₂ : Os} {t : Expr} {av : AV} {ρ' : Vs} (h : TB c env ρ ω t av ρ' ω₁) (e : ω₁ = ω₂) : TB c env ρ ω t av ρ' ω₂ := e ▸ h
/-- a call of one of the law's own on the world -/
theorem TV.callW {o' Wos T : Os} {fe : Expr} {es : List Expr} {p : Pos} {f : Nat} {avs : List AV} {Φw : Os → Oc → Prop} (hc : c.Ok lv) (hf : TE c env ρ (o' ++ (Wos ++ T)) fe (o' ++ (Wos ++ T)) (vR f)) (ha : TEs c env ρ (o' ++ (Wos ++ T)) es (o' ++ (Wos ++ T)) avs) (hk : keepIn (KK c.w) (.ref f) = true)
    (hs : CV lv f avs Wos Φw)
    (hne : ∃ e r, es = e :: r ∧ starEach es env = (false, eval e env) :: starEach r env ∧ ∀ q, (backTo q (starEach r env)).any (·.1) = false := by exact ⟨_, _, rfl, rfl, fun _ => rfl⟩)
    (he : eval (.Call fe es [] p) env = (do callWith p (← eval fe env) [] (backTo p (starEach es env)) (backToKw p (keywordEach [] env))) := by rfl) :
    TV c env ρ (o' ++ (Wos ++ T)) (.Call fe es [] p) (fun o a => ∃ ow, o = o' ++ (ow ++ T) ∧ Φw ow a) :=
  TV.callF (rest := o' ++ T) hc hf ha hk hs (List.perm_append_comm_assoc _ _ _) (fun o a h => ⟨o' ++ (o ++ T), List.perm_append_comm_assoc _ _ _, o, rfl, h⟩) hne he
theorem lam_perm {f : Addr} {fa : AO} {og RR : Os} : ((f, fa) :: (og ++ RR)).Perm (og ++ ((f, fa) :: RR)) := List.perm_middle.symm
theorem lam_hp {f : Addr} {fa : AO} {RR : Os} {Φm : Os → Oc → Prop} : ∀ o a, Φm o a → ∃ ω₃, (o ++ ((f, fa) :: RR)).Perm ω₃ ∧ (∃ o', ω₃ = (f, fa) :: (o' ++ RR) ∧ Φm o' a) := fun o a h => ⟨_, List.perm_middle, o, rfl, h⟩
end
theorem upC2 {L : Addr} {t nm a : Option AV} {g : Addr} (h : L + 2 ≠ 259) (v : AO) : updO (L + 2) v (CE L t nm a g) = (259, tabA qL) :: (L + 4, .cell t) :: (L + 3, .cell nm) :: (L + 2, v) :: [(L + 1, .cell (some (vR g)))] := by
  unfold CE C4
  have e4 : L + 4 ≠ L + 2 := fun e => by have := Nat.add_left_cancel e; omega
  have e3 : L + 3 ≠ L + 2 := fun e => by have := Nat.add_left_cancel e; omega
  have e1 : L + 1 ≠ L + 2 := fun e => by have := Nat.add_left_cancel e; omega
  rw [updO_cons_ne (Ne.symm h), updO_cons_ne e4, updO_cons_ne e3, updO_cons_eq, updO_cons_ne e1]; rfl
theorem upC3 {L : Addr} {t nm a : Option AV} {g : Addr} (h : L + 3 ≠ 259) (v : AO) : updO (L + 3) v (CE L t nm a g) = (259, tabA qL) :: (L + 4, .cell t) :: (L + 3, v) :: (L + 2, .cell a) :: [(L + 1, .cell (some (vR g)))] := by
  unfold CE C4
  have e4 : L + 4 ≠ L + 3 := fun e => by have := Nat.add_left_cancel e; omega
  have e2 : L + 2 ≠ L + 3 := fun e => by have := Nat.add_left_cancel e; omega
  have e1 : L + 1 ≠ L + 3 := fun e => by have := Nat.add_left_cancel e; omega
  rw [updO_cons_ne (Ne.symm h), updO_cons_ne e4, updO_cons_eq, updO_cons_ne e2, updO_cons_ne e1]; rfl
theorem upC4 {L : Addr} {t nm a : Option AV} {g : Addr} (h : L + 4 ≠ 259) (v : AO) : updO (L + 4) v (CE L t nm a g) = (259, tabA qL) :: (L + 4, v) :: (L + 3, .cell nm) :: (L + 2, .cell a) :: [(L + 1, .cell (some (vR g)))] := by
  unfold CE C4
  have e3 : L + 3 ≠ L + 4 := fun e => by have := Nat.add_left_cancel e; omega
  have e2 : L + 2 ≠ L + 4 := fun e => by have := Nat.add_left_cancel e; omega
  have e1 : L + 1 ≠ L + 4 := fun e => by have := Nat.add_left_cancel e; omega
  rw [updO_cons_ne (Ne.symm h), updO_cons_eq, updO_cons_ne e3, updO_cons_ne e2, updO_cons_ne e1]; rfl

set_option maxHeartbeats 4000000 in
theorem done_right_cv {lv : Nat} (hlv : lv ≤ 6) (G : GG) (W : WW) (n : Nat) (hn : n ≤ 60) (R : Rel G W n) (x : Int) : CV lv 264 [vR G.g, vR W.d, dI x] (ST G W [(259, tabA qL)]) (PhR G.g W.d (n + 1)) := by
  refine CV.defC (xs := ["groups", "world", "x"]) [("world", vR W.d), ("x", dI x)] (fun n => C4 n none none none G.g) (fun w => rfl) (fun w => by kernel_rfl) (fun vals h => ?_) (fun y av h => ?_) (fun n => rfl) ?_ ?_ ?_ ?_ (by omega) rfl rfl rfl fun c L hc hL => ?_
  · match vals, h with
    | [a, b, d], _ => rfl
  · by_cases e : y = "world"
    · subst e; exact ⟨rfl, h⟩
    · by_cases e2 : y = "x"
      · subst e2; exact ⟨rfl, h⟩
      · have q1 : (y == ("world" : Str)) = false := by simpa using e
        have q2 : (y == ("x" : Str)) = false := by simpa using e2
        rw [List.lookup_cons, q1, List.lookup_cons, q2] at h; cases h
  · intro n y hy
    simp only [List.mem_cons, List.not_mem_nil, or_false] at hy
    rcases hy with rfl | rfl | rfl
    · exact .inr ⟨rfl, rfl⟩
    · exact .inl rfl
    · exact .inl rfl
  · decide +kernel
  · decide +kernel
  · decide +kernel
  refine TS.perm (ω' := ST G W (CE L none none none G.g)) ?_ ?_
  · refine TS.nd fun nd => ?_
    have nd : (keys G.os ++ (keys W.os ++ [259, L + 4, L + 3, L + 2, L + 1])).Nodup := by
      have e : keys (ST G W (CE L none none none G.g)) = keys G.os ++ (keys W.os ++ [259, L + 4, L + 3, L + 2, L + 1]) := by
        unfold ST; rw [keys_append, keys_append]; rfl
      rwa [e] at nd
    obtain ⟨nG, nWT, dG⟩ := List.nodup_append.mp nd
    obtain ⟨nW, nT, dW⟩ := List.nodup_append.mp nWT
    have oG : ∀ a ∈ [259, L + 4, L + 3, L + 2, L + 1], a ∉ keys G.os := fun a ha hb => dG a hb a (List.mem_append_right _ ha) rfl
    have oW : ∀ a ∈ [259, L + 4, L + 3, L + 2, L + 1], a ∉ keys W.os := fun a ha hb => dW a hb a ha rfl
    have ne4 : L + 4 ≠ 259 ∧ L + 3 ≠ 259 ∧ L + 2 ≠ 259 ∧ L + 1 ≠ 259 := by
      have := (List.nodup_cons.mp nT).1
      simp only [List.mem_cons, List.not_mem_nil, or_false, not_or] at this
      exact ⟨Ne.symm this.1, Ne.symm this.2.1, Ne.symm this.2.2.1, Ne.symm this.2.2.2⟩
    have mT : ∀ {q : Addr × AO} {W' : WW} {T : Os}, q ∈ T → q ∈ ST G W' T := fun h => List.mem_append_right _ (List.mem_append_right _ h)
    have mW : ∀ {q : Addr × AO} {W' : WW} {T : Os}, q ∈ W'.os → q ∈ ST G W' T := fun h => List.mem_append_right _ (List.mem_append_left _ h)
    let w : Int := Int.fmod x 10
    let a : Int := Int.fdiv x 10
    let t : Int := W.op - 3 + Int.fmod a 5
    obtain ⟨ch, hch, hok⟩ := abc_at (Int.fmod (Int.fdiv a 5) 3) (Int.fmod_nonneg_of_pos _ (by omega)) (Int.fmod_lt_of_pos _ (by omega))
    let nmS : Str := ⟨#[ch]⟩
    let ρ1 : Vs := [("way", dI w), ("world", vR W.d), ("x", dI x)]
    refine TS.seq (ρ₁ := ρ1) (ω₁ := ST G W (CE L none none (some (dI a)) G.g)) (TX.assign2 (Φ := Ph (ST G W (CE L none none none G.g)) (dI a)) hc (TE.mod (TE.name rfl) (TE.const_int 10 _ _) (by decide)) (TE.v (TE.floordiv (TE.name rfl) (TE.const_int 10 _ _) (by decide) (fun _ => rfl)) ⟨rfl, rfl⟩) (fun o C h => nomatch h.2) fun o a' h => ?_) ?_
    · obtain ⟨rfl, h⟩ := h
      cases h
      refine ⟨ρ1, _, ρ1, _, TB.name rfl, TB.to (TB.cell rfl rfl (mT (.tail _ (.tail _ (.tail _ (.head _)))))) ?_, rfl, rfl, rfl⟩
      rw [updO_ST (oG _ (by simp)) (oW _ (by simp)), upC2 ne4.2.2.1]
    refine TS.seq (ρ₁ := ρ1) (ω₁ := ST G W (CE L (some (dI t)) (some (dS nmS)) (some (dI a)) G.g)) (TX.assign2 (Φ := Ph (ST G W (CE L none none (some (dI a)) G.g)) (dS nmS)) hc (TE.add (TE.sub (W.f_open (TE.name rfl) (mW W.m_d)) (TE.const_int 3 _ _)) (TE.mod (TE.cell (.inl rfl) rfl (mT (.tail _ (.tail _ (.tail _ (.head _)))))) (TE.const_int 5 _ _) (by decide)))
      (TE.v (TE.itemS (x := "abc") (k := Int.fmod (Int.fdiv a 5) 3) (TE.const_str _ _ _) (TE.mod (TE.floordiv (TE.cell (.inl rfl) rfl (mT (.tail _ (.tail _ (.tail _ (.head _)))))) (TE.const_int 5 _ _) (by decide) (fun _ => rfl)) (TE.const_int 3 _ _) (by decide)) (Int.fmod_nonneg_of_pos _ (by omega)) (Int.lt_trans (Int.fmod_lt_of_pos _ (by omega)) (by omega)) hch) ⟨rfl, rfl⟩) (fun o C h => nomatch h.2) fun o a' h => ?_) ?_
    · obtain ⟨rfl, h⟩ := h
      cases h
      refine ⟨ρ1, ST G W (CE L (some (dI t)) none (some (dI a)) G.g), ρ1, _, TB.to (TB.cell rfl rfl (mT (.tail _ (.head _)))) ?_, TB.to (TB.cell rfl rfl (mT (.tail _ (.tail _ (.head _))))) ?_, rfl, rfl, rfl⟩
      · rw [updO_ST (oG _ (by simp)) (oW _ (by simp)), upC4 ne4.1]
      · rw [updO_ST (oG _ (by simp)) (oW _ (by simp)), upC3 ne4.2.1]
    let T : Os := CE L (some (dI t)) (some (dS nmS)) (some (dI a)) G.g
    have c1 : (L + 1, AO.cell (some (vR G.g))) ∈ T := .tail _ (.tail _ (.tail _ (.tail _ (.head _))))
    have c2 : (L + 2, AO.cell (some (dI a))) ∈ T := .tail _ (.tail _ (.tail _ (.head _)))
    have c3 : (L + 3, AO.cell (some (dS nmS))) ∈ T := .tail _ (.tail _ (.head _))
    have c4 : (L + 4, AO.cell (some (dI t))) ∈ T := .tail _ (.head _)
    have N := nd5 nW
    have dGW : ∀ b ∈ keys W.os, b ∉ keys G.os := fun b hb hg => dG b hg b (List.mem_append_left _ hb) rfl
    have dWT : ∀ b ∈ keys W.os, b ∉ keys T := fun b hb ht => dW b hb b ht rfl
    have live_op : getP G.holds G.op = some (G.hat G.op) := by rw [R.op, R.vh _ (Rel.op_live W), R.hat]
    have hlen : W.live.length ≤ 3 := by unfold WW.live; cases W.sy <;> cases W.cl <;> simp
    have zH : G.holds.length ≤ 3 := by rw [← List.length_map (f := (·.1)), R.kh]; exact hlen
    have zN : G.nm.length ≤ 3 := by rw [← List.length_map (f := (·.1)), R.kn]; exact hlen
    have zS : G.spent.length ≤ 3 := by rw [← List.length_map (f := (·.1)), R.ks]; exact hlen
    have zh := R.zh
    have zn := R.zn
    have zs := R.zs
    have zt := R.zt
    -- begin
    refine TS.guard (TT.cmp (TE.name rfl) (TE.const_int 2 _ _) (OpR.lt _ _)) (fun h => ?_) fun h => ?_
    · let W1 : WW := { W with wh := W.wh ++ [W.op] }
      have R1 := R.begin
      refine TS.seq (TX.to (ω₂ := ST G W1 T) (TX.expr (TE.bm (W.f_holds (TE.name rfl) (mW W.m_d)) (GM.list (.inl (mW W.m_lh)) PySem.F.slot_list_append ty_app) (TEs.cons (W.f_open (TE.name rfl) (mW W.m_d)) TEs.nil) (CB.append (mW W.m_lh) (by simp; omega) ⟨rfl, rfl⟩))) ?_) ?_
      · unfold ST
        rw [updO_app, updO_app, updO_no _ (dGW _ (Wk_lh W)), updO_no _ (dWT _ (Wk_lh W))]
        congr 2
        refine (wp1 N _).trans ?_
        show _ = WW.os { W with wh := W.wh ++ [W.op] }
        unfold WW.os
        simp only [List.map_append]; rfl
      refine TS.last (TX.deed (og := G.os) (RR := W1.os ++ T) (Ψ := fun o => o.Perm (ST { G with holds := storedP G.holds G.op (G.hat G.op + 1) } W1 T)) hc (by omega)
        (TV.tried (Φm := Ph (GG.os { G with holds := storedP G.holds G.op (G.hat G.op + 1) }) (dI G.op)) (cl := [("groups", L + 1)]) hc (by omega) (TE.global hc (by kernel_rfl) rfl) rfl (codeK263 c.w) (mT (.head _)) rfl rfl rfl rfl (fun _ _ _ => rfl) (by decide +kernel) rfl rfl rfl
          (fun c' L' f cdv fa hc' => TV.callM0 (pl := _) (rest := (f, fa) :: (W1.os ++ T)) hc' (TE.cell (.inr rfl) rfl (.tail _ (mT c1))) (.tail _ (List.mem_append_left _ G.in_os.1)) (.tail _ (List.mem_append_left _ G.in_os.2)) rfl (by kernel_rfl) (by kernel_rfl) (begin_cv (by omega) G _ live_op (by omega)) lam_perm lam_hp)
          (fun o a h => .inl ⟨_, h.2⟩)) (fun o' v h => ?_) (fun o h => fin_ST R1 rfl rfl h))
      rcases h with ⟨v', ⟨rfl, e⟩, rfl⟩ | ⟨⟨_, e⟩, _⟩ | ⟨⟨_, e⟩, _⟩
      · cases e
        refine ⟨told (.int W.op), Ph _ (.d (told (.int W.op))), TE.v (TE.tuple (ds := [.str "told", .int W.op]) (TEs.cons (TE.const_str _ _ _) (TEs.cons (W1.f_open (TE.name rfl) (List.mem_append_right _ (List.mem_append_left _ W1.m_d))) TEs.nil)) (by simp)) ⟨rfl, rfl⟩, (fun o C h => nomatch h.2), fun o b h => ?_⟩
        obtain ⟨rfl, h⟩ := h
        cases h
        exact ⟨rfl, by rw [R.op], nice_told (Nice.int _ _), .refl _⟩
      · cases e
      · cases e
    -- end
    refine TS.guard (TT.cmp (TE.name rfl) (TE.const_int 2 _ _) (OpR.eqI _ _)) (fun h => ?_) fun h => ?_
    · have hin : ∀ {en : Env} {ρ' : Vs} {T' : Os}, OpR c en ρ' (ST G W T') .In (dI t) (vR W.lh) (decide (t ∈ W.wh)) := fun {_ _ _} => OpR.conseq (OpR.inI (.inr ⟨_, rfl, .inl (mW W.m_lh)⟩)) (Rel.any_in W t)
      let dueP : PyData := if t ∈ W.wh then told .none else misuD
      let ρ2' : Vs := [("due", .d dueP), ("way", dI w), ("world", vR W.d), ("x", dI x)]
      refine TS.seq (ρ₁ := ρ2') (ω₁ := ST G W T) (TX.assign (TE.ifexp (av := .d dueP) (TT.cmp (TE.cell (.inl rfl) rfl (mT c4)) (W.f_holds (TE.name rfl) (mW W.m_d)) hin)
        (fun h => TE.to (TE.tuple (ds := [.str "told", .none]) (TEs.cons (TE.const_str _ _ _) (TEs.cons (TE.const_none _ _) TEs.nil)) (by simp)) (by show _ = AV.d (if t ∈ W.wh then _ else _); rw [if_pos (of_decide_eq_true h)]; rfl))
        (fun h => TE.to (TE.tuple (ds := [.str "misused", .none]) (TEs.cons (TE.const_str _ _ _) (TEs.cons (TE.const_none _ _) TEs.nil)) (by simp)) (by show _ = AV.d (if t ∈ W.wh then _ else _); rw [if_neg (of_decide_eq_false h)]; rfl))) rfl) ?_
      let W1 : WW := { W with wh := W.wh.erase t }
      refine TS.seq (ρ₁ := ρ2') (ω₁ := ST G W1 T) (TX.cond (TT.cmp (TE.cell (.inl rfl) rfl (mT c4)) (W.f_holds (TE.name rfl) (mW W.m_d)) hin) (fun h => TS.last (TX.to (TX.expr (TE.bm (W.f_holds (TE.name rfl) (mW W.m_d)) (GM.list (.inl (mW W.m_lh)) PySem.F.slot_list_remove ty_rem) (TEs.cons (TE.cell (.inl rfl) rfl (mT c4)) TEs.nil) (CB.remove (mW W.m_lh) (of_decide_eq_true h) (by omega) ⟨rfl, rfl⟩))) ?_)) (fun h => TS.nil ⟨rfl, rfl, ?_⟩)) ?_
      · unfold ST
        rw [updO_app, updO_app, updO_no _ (dGW _ (Wk_lh W)), updO_no _ (dWT _ (Wk_lh W))]
        congr 2
        exact wp1 N _
      · show ST G W T = ST G { W with wh := W.wh.erase t } T
        rw [List.erase_of_not_mem (of_decide_eq_false h)]
      let G1 : GG := { G with holds := storedP G.holds t (G.hat t - 1) }
      refine TS.last (TX.deed (og := G.os) (RR := W1.os ++ T) (Ψ := fun o => ∃ G', Rel G' W1 (n + 1) ∧ G'.g = G.g ∧ o.Perm (ST G' W1 T)) hc (by omega)
        (TV.tried (Φm := Phs G t G1 dN) (cl := [("txg", L + 4), ("groups", L + 1)]) hc (by omega) (TE.global hc (by kernel_rfl) rfl) rfl (codeK263 c.w) (mT (.head _)) rfl rfl rfl rfl (fun _ _ _ => rfl) (by decide +kernel) rfl rfl rfl
          (fun c' L' f cdv fa hc' => TV.callM (pl := _) (rest := (f, fa) :: (W1.os ++ T)) hc' (TE.cell (.inr rfl) rfl (.tail _ (mT c1))) (.tail _ (List.mem_append_left _ G.in_os.1)) (.tail _ (List.mem_append_left _ G.in_os.2)) rfl (by kernel_rfl) (by kernel_rfl) (TEs.cons (TE.cell (.inr rfl) rfl (.tail _ (mT c4))) TEs.nil) (end_cv (by omega) G t (by omega)) lam_perm lam_hp)
          (fun o a h => ?_)) (fun o' v h => ?_) (fun o h => by obtain ⟨G', hR, hg, hp⟩ := h; exact fin_ST hR hg rfl hp))
      · unfold Phs at h
        split at h
        · exact .inr (.inr h.2)
        · exact .inl ⟨_, h.2⟩
      · refine ⟨dueP, Ph _ (.d dueP), TE.v (TE.name rfl) ⟨rfl, rfl⟩, (fun o C h => nomatch h.2), fun o b hb => ?_⟩
        obtain ⟨rfl, hb⟩ := hb
        cases hb
        unfold Ans Phs at h
        by_cases hk : t ∈ W.wh
        · have h0 : ¬ G.hat t = 0 := fun e => (R.hat0 t).mp e hk
          have ed : dueP = told .none := if_pos hk
          simp only [if_neg h0] at h
          rcases h with ⟨v', ⟨rfl, e⟩, rfl⟩ | ⟨⟨_, e⟩, _⟩ | ⟨⟨_, e⟩, _⟩
          · cases e
            exact ⟨rfl, ed.symm, ed ▸ nice_told (Nice.none _), G1, R.end hk, rfl, .refl _⟩
          · cases e
          · cases e
        · have h0 : G.hat t = 0 := (R.hat0 t).mpr hk
          have ed : dueP = misuD := if_neg hk
          have eW : W1 = W := by show { W with wh := W.wh.erase t } = W; rw [List.erase_of_not_mem hk]
          simp only [if_pos h0] at h
          rcases h with ⟨v', ⟨_, e⟩, _⟩ | ⟨⟨_, e⟩, _⟩ | ⟨⟨rfl, e⟩, rfl⟩
          · cases e
          · cases e
          · exact ⟨rfl, ed.symm, ed ▸ nice_misu, G, by rw [eW]; exact R.mono (by omega), rfl, .refl _⟩
    have na : (G.nm.map (fun p => p.2.1)).Nodup := by
      have := (nd6 nG).h6
      unfold keys inn at this
      rwa [List.map_map] at this
    have r4 : ∀ {o' : Os} {q : Addr × AO}, q ∈ T → q ∈ o' ++ (W.os ++ T) := fun h => List.mem_append_right _ (List.mem_append_right _ h)
    have rW : ∀ {o' : Os} {q : Addr × AO}, q ∈ W.os → q ∈ o' ++ (W.os ++ T) := fun h => List.mem_append_right _ (List.mem_append_left _ h)
    have any_t : W.wh.any (· == t) = decide (t ∈ W.wh) := Rel.any_in W t
    -- mark
    refine TS.guard (TT.cmp (TE.name rfl) (TE.const_int 3 _ _) (OpR.eqI _ _)) (fun h => ?_) fun h => ?_
    · obtain ⟨am, hv⟩ : ∃ am, G.hat t ≠ 0 → getP G.nm t = some (am, dedup (W.namesOf t)) := by
        by_cases hl : t ∈ W.live
        · obtain ⟨am, e⟩ := R.vn t hl
          exact ⟨am, fun _ => e⟩
        · exact ⟨0, fun h0 => absurd ((R.hat0 t).mpr fun m => hl (R.in_live m)) h0⟩
      have hzn : (dedup (W.namesOf t)).length ≤ 900 := by
        have h1 := dedup_len (W.namesOf t)
        have h2 : (W.namesOf t).length ≤ W.wn.length := by unfold WW.namesOf; rw [List.length_map]; exact List.length_filter_le _ _
        omega
      let G1 : GG := { G with nm := setN G.nm am (addk (dedup (W.namesOf t)) nmS) }
      let W1 : WW := { W with wn := W.wn ++ [(t, nmS)] }
      refine TS.last (TX.deed (og := G.os) (RR := W.os ++ T) (Ψ := fun o => ∃ G' W', Rel G' W' (n + 1) ∧ G'.g = G.g ∧ W'.d = W.d ∧ o.Perm (ST G' W' T)) hc (by omega)
        (TV.tried (Φm := Phs G t G1 dN) (cl := [("txg", L + 4), ("name", L + 3), ("groups", L + 1)]) hc (by omega) (TE.global hc (by kernel_rfl) rfl) rfl (codeK263 c.w) (mT (.head _)) rfl rfl rfl rfl (fun _ _ _ => rfl) (by decide +kernel) rfl rfl rfl
          (fun c' L' f cdv fa hc' => TV.callM (pl := _) (rest := (f, fa) :: (W.os ++ T)) hc' (TE.cell (.inr rfl) rfl (.tail _ (mT c1))) (.tail _ (List.mem_append_left _ G.in_os.1)) (.tail _ (List.mem_append_left _ G.in_os.2)) rfl (by kernel_rfl) (by kernel_rfl) (TEs.cons (TE.cell (.inr rfl) rfl (.tail _ (mT c4))) (TEs.cons (TE.cell (.inr rfl) rfl (.tail _ (mT c3))) TEs.nil)) (mark_cv (by omega) G t nmS am _ hv hzn) lam_perm lam_hp)
          (fun o a h => ?_)) (fun o' v h => ?_) (fun o h => by obtain ⟨G', W', hR, hg, hd, hp⟩ := h; exact fin_ST hR hg hd hp))
      · unfold Phs at h
        split at h
        · exact .inr (.inr h.2)
        · exact .inl ⟨_, h.2⟩
      · refine ⟨if t ∈ W.wh then told .none else misuD, _, TV.callW hc (TE.global hc (by kernel_rfl) rfl) (TEs.cons (TE.name rfl) (TEs.cons (TE.cell (.inl rfl) rfl (r4 c4)) (TEs.cons (TE.const_str _ _ _) (TEs.cons (TE.tuple (ds := [.int t, .str nmS]) (TEs.cons (TE.cell (.inl rfl) rfl (r4 c4)) (TEs.cons (TE.cell (.inl rfl) rfl (r4 c3)) TEs.nil)) (by simp)) TEs.nil)))) (by kernel_rfl) (lheldN_cv (by omega) W t (t, nmS) (by omega)), (fun o C hb => ?_), fun o b hb => ?_⟩
        · obtain ⟨ow, _, hb⟩ := hb
          split at hb <;> cases hb.2
        obtain ⟨ow, rfl, hb⟩ := hb
        rw [any_t] at hb
        unfold Ans Phs at h
        by_cases hk : t ∈ W.wh
        · have h0 : ¬ G.hat t = 0 := fun e => (R.hat0 t).mp e hk
          simp only [if_neg h0] at h
          rw [if_pos (decide_eq_true hk)] at hb
          obtain ⟨rfl, hb⟩ := hb
          cases hb
          rcases h with ⟨v', ⟨rfl, e⟩, rfl⟩ | ⟨⟨_, e⟩, _⟩ | ⟨⟨_, e⟩, _⟩
          · cases e
            exact ⟨by rw [if_pos hk], by rw [if_pos hk], by rw [if_pos hk]; exact nice_told (Nice.none _), G1, W1, R.mark hk nmS hok (hv h0) na, rfl, rfl, .refl _⟩
          · cases e
          · cases e
        · have h0 : G.hat t = 0 := (R.hat0 t).mpr hk
          simp only [if_pos h0] at h
          rw [if_neg (by simpa using hk)] at hb
          obtain ⟨rfl, hb⟩ := hb
          cases hb
          rcases h with ⟨v', ⟨_, e⟩, _⟩ | ⟨⟨_, e⟩, _⟩ | ⟨⟨rfl, e⟩, rfl⟩
          · cases e
          · cases e
          · exact ⟨by rw [if_neg hk], by rw [if_neg hk], by rw [if_neg hk]; exact nice_misu, G, W, R.mono (by omega), rfl, rfl, .refl _⟩
    -- spend
    refine TS.guard (TT.cmp (TE.name rfl) (TE.const_int 4 _ _) (OpR.eqI _ _)) (fun h => ?_) fun h => ?_
    · let many : Int := Int.fmod a 9
      have hv : G.hat t ≠ 0 → getP G.spent t = some (W.sumOf t) := fun h0 => R.vs t (R.in_live (Classical.byContradiction fun hk => h0 ((R.hat0 t).mpr hk)))
      let G1 : GG := { G with spent := storedP G.spent t (W.sumOf t + many) }
      let W1 : WW := { W with ws := W.ws ++ [(t, many)] }
      refine TS.last (TX.deed (og := G.os) (RR := W.os ++ T) (Ψ := fun o => ∃ G' W', Rel G' W' (n + 1) ∧ G'.g = G.g ∧ W'.d = W.d ∧ o.Perm (ST G' W' T)) hc (by omega)
        (TV.tried (Φm := Phs G t G1 dN) (cl := [("txg", L + 4), ("groups", L + 1), ("a", L + 2)]) hc (by omega) (TE.global hc (by kernel_rfl) rfl) rfl (codeK263 c.w) (mT (.head _)) rfl rfl rfl rfl (fun _ _ _ => rfl) (by decide +kernel) rfl rfl rfl
          (fun c' L' f cdv fa hc' => TV.callM (pl := _) (rest := (f, fa) :: (W.os ++ T)) hc' (TE.cell (.inr rfl) rfl (.tail _ (mT c1))) (.tail _ (List.mem_append_left _ G.in_os.1)) (.tail _ (List.mem_append_left _ G.in_os.2)) rfl (by kernel_rfl) (by kernel_rfl) (TEs.cons (TE.cell (.inr rfl) rfl (.tail _ (mT c4))) (TEs.cons (TE.mod (TE.cell (.inr rfl) rfl (.tail _ (mT c2))) (TE.const_int 9 _ _) (by decide)) TEs.nil)) (spend_cv (by omega) G t many _ hv (by omega)) lam_perm lam_hp)
          (fun o a h => ?_)) (fun o' v h => ?_) (fun o h => by obtain ⟨G', W', hR, hg, hd, hp⟩ := h; exact fin_ST hR hg hd hp))
      · unfold Phs at h
        split at h
        · exact .inr (.inr h.2)
        · exact .inl ⟨_, h.2⟩
      · refine ⟨if t ∈ W.wh then told .none else misuD, _, TV.callW hc (TE.global hc (by kernel_rfl) rfl) (TEs.cons (TE.name rfl) (TEs.cons (TE.cell (.inl rfl) rfl (r4 c4)) (TEs.cons (TE.const_str _ _ _) (TEs.cons (TE.tuple (ds := [.int t, .int many]) (TEs.cons (TE.cell (.inl rfl) rfl (r4 c4)) (TEs.cons (TE.mod (TE.cell (.inl rfl) rfl (r4 c2)) (TE.const_int 9 _ _) (by decide)) TEs.nil)) (by simp)) TEs.nil)))) (by kernel_rfl) (lheldS_cv (by omega) W t (t, many) (by omega)), (fun o C hb => ?_), fun o b hb => ?_⟩
        · obtain ⟨ow, _, hb⟩ := hb
          split at hb <;> cases hb.2
        obtain ⟨ow, rfl, hb⟩ := hb
        rw [any_t] at hb
        unfold Ans Phs at h
        by_cases hk : t ∈ W.wh
        · have h0 : ¬ G.hat t = 0 := fun e => (R.hat0 t).mp e hk
          simp only [if_neg h0] at h
          rw [if_pos (decide_eq_true hk)] at hb
          obtain ⟨rfl, hb⟩ := hb
          cases hb
          rcases h with ⟨v', ⟨rfl, e⟩, rfl⟩ | ⟨⟨_, e⟩, _⟩ | ⟨⟨_, e⟩, _⟩
          · cases e
            exact ⟨by rw [if_pos hk], by rw [if_pos hk], by rw [if_pos hk]; exact nice_told (Nice.none _), G1, W1, R.spend hk many, rfl, rfl, .refl _⟩
          · cases e
          · cases e
        · have h0 : G.hat t = 0 := (R.hat0 t).mpr hk
          simp only [if_pos h0] at h
          rw [if_neg (by simpa using hk)] at hb
          obtain ⟨rfl, hb⟩ := hb
          cases hb
          rcases h with ⟨v', ⟨_, e⟩, _⟩ | ⟨⟨_, e⟩, _⟩ | ⟨⟨rfl, e⟩, rfl⟩
          · cases e
          · cases e
          · exact ⟨by rw [if_neg hk], by rw [if_neg hk], by rw [if_neg hk]; exact nice_misu, G, W, R.mono (by omega), rfl, rfl, .refl _⟩
    have hnew : ∀ p ∈ G.nm, p.1 ≠ G.op + 1 := fun p hp e => R.new_op (by rw [← R.op, ← e, ← R.kn]; exact List.mem_map_of_mem (f := Prod.fst) hp)
    -- quiesce
    refine TS.guard (TT.cmp (TE.name rfl) (TE.const_int 5 _ _) (OpR.eqI _ _)) (fun h => ?_) fun h => ?_
    · let PQ : Os → Oc → Prop := fun o a => if G.cl.isSome = true then o = G.os ∧ a = .exc 44 else ∃ A, o = (G.q A).os ∧ a = .val (dI G.op)
      refine TS.last (TX.deed (og := G.os) (RR := W.os ++ T) (Ψ := fun o => ∃ G' W', Rel G' W' (n + 1) ∧ G'.g = G.g ∧ W'.d = W.d ∧ o.Perm (ST G' W' T)) hc (by omega)
        (TV.tried (Φm := PQ) (cl := [("groups", L + 1)]) hc (by omega) (TE.global hc (by kernel_rfl) rfl) rfl (codeK263 c.w) (mT (.head _)) rfl rfl rfl rfl (fun _ _ _ => rfl) (by decide +kernel) rfl rfl rfl
          (fun c' L' f cdv fa hc' => TV.callM0 (pl := _) (rest := (f, fa) :: (W.os ++ T)) hc' (TE.cell (.inr rfl) rfl (.tail _ (mT c1))) (.tail _ (List.mem_append_left _ G.in_os.1)) (.tail _ (List.mem_append_left _ G.in_os.2)) rfl (by kernel_rfl) (by kernel_rfl) (quiesce_cv (by omega) G hnew ⟨by omega, by omega, by omega⟩) lam_perm lam_hp)
          (fun o a h => ?_)) (fun o' v h => ?_) (fun o h => by obtain ⟨G', W', hR, hg, hd, hp⟩ := h; exact fin_ST hR hg hd hp))
      · have h : if G.cl.isSome = true then o = G.os ∧ a = .exc 44 else ∃ A, o = (G.q A).os ∧ a = .val (dI G.op) := h
        split at h
        · exact .inr (.inl h.2)
        · obtain ⟨A, _, h⟩ := h; exact .inl ⟨_, h⟩
      · refine ⟨if W.cl.isSome = true then busyD else told (.int W.op), _, TV.callW hc (TE.global hc (by kernel_rfl) rfl) (TEs.cons (TE.name rfl) TEs.nil) (by kernel_rfl) (lquiesce_cv (by omega) W), (fun o C hb => ?_), fun o b hb => ?_⟩
        · obtain ⟨ow, _, hb⟩ := hb
          cases hb.2
        obtain ⟨ow, rfl, rfl, hb⟩ := hb
        cases hb
        have h : (∃ v', (if G.cl.isSome = true then o' = G.os ∧ Oc.val (.d v') = .exc 44 else ∃ A, o' = (G.q A).os ∧ Oc.val (.d v') = .val (dI G.op)) ∧ v = told v') ∨ ((if G.cl.isSome = true then o' = G.os ∧ Oc.exc 44 = .exc 44 else ∃ A, o' = (G.q A).os ∧ Oc.exc 44 = .val (dI G.op)) ∧ v = busyD) ∨ ((if G.cl.isSome = true then o' = G.os ∧ Oc.exc 56 = .exc 44 else ∃ A, o' = (G.q A).os ∧ Oc.exc 56 = .val (dI G.op)) ∧ v = misuD) := h
        rw [R.cl] at h
        by_cases hcl : W.cl.isSome = true
        · simp only [if_pos hcl] at h
          rcases h with ⟨v', ⟨_, e⟩, _⟩ | ⟨⟨rfl, e⟩, rfl⟩ | ⟨⟨_, e⟩, _⟩
          · cases e
          · refine ⟨by rw [if_pos hcl], by rw [if_pos hcl], by rw [if_pos hcl]; exact nice_busy, G, W, R.mono (by omega), rfl, rfl, ?_⟩
            rw [show W.qz = W by unfold WW.qz; rw [if_pos hcl]]
          · cases e
        · simp only [if_neg hcl] at h
          have hcn : W.cl = none := by cases e : W.cl with | none => rfl | some k => rw [e] at hcl; exact absurd rfl hcl
          rcases h with ⟨v', ⟨A, rfl, e⟩, rfl⟩ | ⟨⟨A, _, e⟩, _⟩ | ⟨⟨A, _, e⟩, _⟩
          · cases e
            refine ⟨by rw [if_neg hcl], by rw [if_neg hcl, R.op], by rw [if_neg hcl]; exact nice_told (Nice.int _ _), G.q A, _, (R.quiesce hcn A).mono (by omega), rfl, rfl, ?_⟩
            rw [show W.qz = _ from if_neg hcl]
          · cases e
          · cases e
    -- close
    refine TS.guard (TT.cmp (TE.name rfl) (TE.const_int 6 _ _) (OpR.eqI _ _)) (fun h => ?_) fun h => ?_
    · let PC : Os → Oc → Prop := fun o a => if G.sy.isSome = true then o = G.os ∧ a = .exc 44 else ∃ G1, ((G.cl.isSome = true ∧ G1 = G) ∨ (G.cl = none ∧ ∃ A, G1 = G.q A)) ∧
        if G1.quiet = true then o = GG.os { G1 with sy := G1.cl, cl := none } ∧ a = .val (.d (oI G1.cl)) else o = G1.os ∧ a = .exc 44
      have h1 : ∀ k, G.cl = some k → (getP G.holds k).isSome = true := fun k hk => getP_isSome (by rw [R.kh]; unfold WW.live; rw [← R.cl, hk]; simp)
      refine TS.last (TX.deed (og := G.os) (RR := W.os ++ T) (Ψ := fun o => ∃ G' W', Rel G' W' (n + 1) ∧ G'.g = G.g ∧ W'.d = W.d ∧ o.Perm (ST G' W' T)) hc (by omega)
        (TV.tried (Φm := PC) (cl := [("groups", L + 1)]) hc (by omega) (TE.global hc (by kernel_rfl) rfl) rfl (codeK263 c.w) (mT (.head _)) rfl rfl rfl rfl (fun _ _ _ => rfl) (by decide +kernel) rfl rfl rfl
          (fun c' L' f cdv fa hc' => TV.callM0 (pl := _) (rest := (f, fa) :: (W.os ++ T)) hc' (TE.cell (.inr rfl) rfl (.tail _ (mT c1))) (.tail _ (List.mem_append_left _ G.in_os.1)) (.tail _ (List.mem_append_left _ G.in_os.2)) rfl (by kernel_rfl) (by kernel_rfl) (close_cv (by omega) G hnew ⟨by omega, by omega, by omega⟩ h1 (by rw [live_op]; rfl)) lam_perm lam_hp)
          (fun o a h => ?_)) (fun o' v h => ?_) (fun o h => by obtain ⟨G', W', hR, hg, hd, hp⟩ := h; exact fin_ST hR hg hd hp))
      · have h : if G.sy.isSome = true then o = G.os ∧ a = .exc 44 else ∃ G1, ((G.cl.isSome = true ∧ G1 = G) ∨ (G.cl = none ∧ ∃ A, G1 = G.q A)) ∧
          if G1.quiet = true then o = GG.os { G1 with sy := G1.cl, cl := none } ∧ a = .val (.d (oI G1.cl)) else o = G1.os ∧ a = .exc 44 := h
        split at h
        · exact .inr (.inl h.2)
        · obtain ⟨G1, _, h⟩ := h
          split at h
          · exact .inl ⟨_, h.2⟩
          · exact .inr (.inl h.2)
      · refine ⟨W.cz.2, _, TV.callW hc (TE.global hc (by kernel_rfl) rfl) (TEs.cons (TE.name rfl) TEs.nil) (by kernel_rfl) (lclose_cv (by omega) W), (fun o C hb => ?_), fun o b hb => ?_⟩
        · obtain ⟨ow, _, hb⟩ := hb
          cases hb.2
        obtain ⟨ow, rfl, rfl, hb⟩ := hb
        cases hb
        -- what the groups have done
        have key : ∃ G', o' = G'.os ∧ G'.g = G.g ∧ Rel G' W.cz.1 (n + 1) ∧ v = W.cz.2 ∧ Nice v 3 := by
          by_cases hs : W.sy.isSome = true
          · have hs' : G.sy.isSome = true := by rw [R.sy]; exact hs
            have e : W.cz = (W, busyD) := by unfold WW.cz; rw [if_pos hs]
            rcases h with ⟨v', h, _⟩ | ⟨h, rfl⟩ | ⟨h, _⟩ <;> simp only [PC, if_pos hs'] at h
            · cases h.2
            · obtain ⟨rfl, _⟩ := h
              exact ⟨G, rfl, rfl, by rw [e]; exact R.mono (by omega), by rw [e], nice_busy⟩
            · cases h.2
          · have hs' : ¬ G.sy.isSome = true := by rw [R.sy]; exact hs
            have hsn : W.sy = none := by cases e : W.sy with | none => rfl | some k => rw [e] at hs; exact absurd rfl hs
            have fin : ∀ G1 : GG, Rel G1 W.qz (n + 1) → G1.g = G.g → ∀ a : Oc, (if G1.quiet = true then o' = GG.os { G1 with sy := G1.cl, cl := none } ∧ a = .val (.d (oI G1.cl)) else o' = G1.os ∧ a = .exc 44) →
                (∀ v', a = .val (.d v') → v = told v') → (a = .exc 44 → v = busyD) → (∃ G', o' = G'.os ∧ G'.g = G.g ∧ Rel G' W.cz.1 (n + 1) ∧ v = W.cz.2 ∧ Nice v 3) := by
              intro G1 R1 hg a ha hv hb
              obtain ⟨k, hk⟩ := W.qz_cl
              have hqs : W.qz.sy = none := by unfold WW.qz; split <;> exact hsn
              have hq : G1.quiet = !decide (k ∈ W.qz.wh) := by rw [R1.quiet, hk]
              have hh : W.qz.hot = decide (k ∈ W.qz.wh) := by unfold WW.hot; rw [hk]; exact Rel.any_in _ _
              by_cases hm : k ∈ W.qz.wh
              · have hq' : ¬ G1.quiet = true := by rw [hq]; simp [hm]
                rw [if_neg hq'] at ha
                have e : W.cz = (W.qz, busyD) := by unfold WW.cz; rw [if_neg hs, if_pos (by rw [hh]; exact decide_eq_true hm)]
                rw [e]
                exact ⟨G1, ha.1, hg, R1, hb ha.2, by rw [hb ha.2]; exact nice_busy⟩
              · have hq' : G1.quiet = true := by rw [hq]; simp [hm]
                rw [if_pos hq'] at ha
                have e : W.cz = ({ W.qz with sy := W.qz.cl, cl := none }, told (oI W.qz.cl)) := by unfold WW.cz; rw [if_neg hs, if_neg (by rw [hh]; simpa using hm)]
                rw [e]
                exact ⟨_, ha.1, hg, R1.close hqs hk hm, by rw [hv _ ha.2, R1.cl], by rw [hv _ ha.2]; exact nice_told (Nice.oI _ _)⟩
            have main : ∀ a : Oc, PC o' a → (∀ v', a = .val (.d v') → v = told v') → (a = .exc 44 → v = busyD) → (∃ G', o' = G'.os ∧ G'.g = G.g ∧ Rel G' W.cz.1 (n + 1) ∧ v = W.cz.2 ∧ Nice v 3) := by
              intro a h hv hb
              simp only [PC, if_neg hs'] at h
              obtain ⟨G1, hG, h2⟩ := h
              rcases hG with ⟨hc1, e⟩ | ⟨hc1, A, e⟩
              · rw [e] at h2
                refine fin G ?_ rfl a h2 hv hb
                rw [show W.qz = W by unfold WW.qz; rw [if_pos (by rw [← R.cl]; exact hc1)]]
                exact R.mono (by omega)
              · rw [e] at h2
                refine fin (G.q A) ?_ rfl a h2 hv hb
                have hcn : W.cl = none := by rw [← R.cl]; exact hc1
                rw [show W.qz = { W with cl := some W.op, op := W.op + 1 } by unfold WW.qz; rw [if_neg (by rw [hcn]; decide)]]
                exact R.quiesce hcn A
            rcases h with ⟨v', h, rfl⟩ | ⟨h, rfl⟩ | ⟨h, rfl⟩
            · exact main _ h (fun v'' e => by cases e; rfl) nofun
            · exact main _ h nofun (fun _ => rfl)
            · simp only [PC, if_neg hs'] at h
              obtain ⟨G1, _, h⟩ := h
              split at h <;> cases h.2
        obtain ⟨G', rfl, hg, R', hv, hN⟩ := key
        have hd : W.cz.1.d = W.d := by unfold WW.cz WW.qz; split <;> (try rfl) <;> split <;> (try rfl) <;> split <;> rfl
        exact ⟨rfl, hv, hv ▸ hN, G', W.cz.1, R'.mono (by omega), hg, hd, .refl _⟩
    -- done
    refine TS.guard (TT.cmp (TE.name rfl) (TE.const_int 7 _ _) (OpR.eqI _ _)) (fun h => ?_) fun h => ?_
    · let cnd : Bool := decide (0 < Int.fmod a 3) && W.sy.isSome
      let t2 : Int := if cnd = true then W.sy.getD 0 else t
      let T2 : Os := CE L (some (dI t2)) (some (dS nmS)) (some (dI a)) G.g
      have d1 : (L + 1, AO.cell (some (vR G.g))) ∈ T2 := .tail _ (.tail _ (.tail _ (.tail _ (.head _))))
      have d4 : (L + 4, AO.cell (some (dI t2))) ∈ T2 := .tail _ (.head _)
      refine TS.seq (ρ₁ := ρ1) (ω₁ := ST G W T2) (TX.to (TX.assignC (av := dI t2) (TE.ifexp (x := cnd) (TT.and2 (TT.cmp (TE.mod (TE.cell (.inl rfl) rfl (mT c2)) (TE.const_int 3 _ _) (by decide)) (TE.const_int 0 _ _) (OpR.gt _ _)) (fun _ => TT.cmp (W.f_syncing (TE.name rfl) (mW W.m_d)) (TE.const_none _ _) (OpR.isNotN W.sy)))
        (fun h => TE.to (W.f_syncing (TE.name rfl) (mW W.m_d)) ?_) (fun h => TE.to (TE.cell (.inl rfl) rfl (mT c4)) ?_)) rfl rfl (mT c4)) ?_) ?_
      · have hs : W.sy.isSome = true := (Bool.and_eq_true_iff.mp h).2
        obtain ⟨k, hk⟩ := Option.isSome_iff_exists.mp hs
        show AV.d (oI W.sy) = dI (if cnd = true then W.sy.getD 0 else t)
        rw [if_pos h, hk]; rfl
      · show dI t = dI (if cnd = true then W.sy.getD 0 else t)
        rw [if_neg (by rw [h]; decide)]
      · rw [updO_ST (oG _ (by simp)) (oW _ (by simp)), upC4 ne4.1]
      have h1 : G.sy = some t2 → (getP G.holds t2).isSome = true ∧ (getP G.nm t2).isSome = true ∧ (getP G.spent t2).isSome = true := fun hs => by
        have hl : t2 ∈ W.live := by unfold WW.live; rw [← R.sy, hs]; simp
        exact ⟨getP_isSome (by rw [R.kh]; exact hl), getP_isSome (by rw [R.kn]; exact hl), getP_isSome (by rw [R.ks]; exact hl)⟩
      let G1 : GG := { G with sy := none, la := t2, holds := withoutP G.holds t2, nm := withoutP G.nm t2, spent := withoutP G.spent t2 }
      let W1 : WW := { W with la := t2, sy := none }
      let PD : Os → Oc → Prop := fun o a => if G.sy = some t2 then o = G1.os ∧ a = .val dN else o = G.os ∧ a = .exc 56
      refine TS.last (TX.deed (og := G.os) (RR := W.os ++ T2) (Ψ := fun o => ∃ G' W', Rel G' W' (n + 1) ∧ G'.g = G.g ∧ W'.d = W.d ∧ o.Perm (ST G' W' T2)) hc (by omega)
        (TV.tried (Φm := PD) (cl := [("txg", L + 4), ("groups", L + 1)]) hc (by omega) (TE.global hc (by kernel_rfl) rfl) rfl (codeK263 c.w) (mT (.head _)) rfl rfl rfl rfl (fun _ _ _ => rfl) (by decide +kernel) rfl rfl rfl
          (fun c' L' f cdv fa hc' => TV.callM (pl := _) (rest := (f, fa) :: (W.os ++ T2)) hc' (TE.cell (.inr rfl) rfl (.tail _ (mT d1))) (.tail _ (List.mem_append_left _ G.in_os.1)) (.tail _ (List.mem_append_left _ G.in_os.2)) rfl (by kernel_rfl) (by kernel_rfl) (TEs.cons (TE.cell (.inr rfl) rfl (.tail _ (mT d4))) TEs.nil) (done_cv (by omega) G t2 ⟨by omega, by omega, by omega⟩ h1) lam_perm lam_hp)
          (fun o a h => ?_)) (fun o' v h => ?_) (fun o h => by obtain ⟨G', W', hR, hg, hd, hp⟩ := h; exact fin_ST hR hg hd hp))
      · have h : if G.sy = some t2 then o = G1.os ∧ a = .val dN else o = G.os ∧ a = .exc 56 := h
        split at h
        · exact .inl ⟨_, h.2⟩
        · exact .inr (.inr h.2)
      · refine ⟨if W.sy = some t2 then told .none else misuD, _, TV.callW hc (TE.global hc (by kernel_rfl) rfl) (TEs.cons (TE.name rfl) (TEs.cons (TE.cell (.inl rfl) rfl (List.mem_append_right _ (List.mem_append_right _ d4))) TEs.nil)) (by kernel_rfl) (ldone_cv (by omega) W t2), (fun o C hb => ?_), fun o b hb => ?_⟩
        · obtain ⟨ow, _, hb⟩ := hb
          split at hb <;> cases hb.2
        obtain ⟨ow, rfl, hb⟩ := hb
        by_cases hk : W.sy = some t2
        · have hk' : G.sy = some t2 := by rw [R.sy]; exact hk
          rw [if_pos hk] at hb
          obtain ⟨rfl, hb⟩ := hb
          cases hb
          rcases h with ⟨v', h, rfl⟩ | ⟨h, _⟩ | ⟨h, _⟩ <;> simp only [PD, if_pos hk'] at h
          · obtain ⟨rfl, h⟩ := h
            cases h
            exact ⟨by rw [if_pos hk], by rw [if_pos hk], by rw [if_pos hk]; exact nice_told (Nice.none _), G1, W1, (R.done hk).mono (by omega), rfl, rfl, .refl _⟩
          · cases h.2
          · cases h.2
        · have hk' : ¬ G.sy = some t2 := by rw [R.sy]; exact hk
          rw [if_neg hk] at hb
          obtain ⟨rfl, hb⟩ := hb
          cases hb
          rcases h with ⟨v', h, _⟩ | ⟨h, _⟩ | ⟨h, rfl⟩ <;> simp only [PD, if_neg hk'] at h
          · cases h.2
          · cases h.2
          · obtain ⟨rfl, _⟩ := h
            exact ⟨by rw [if_neg hk], by rw [if_neg hk], by rw [if_neg hk]; exact nice_misu, G, W, R.mono (by omega), rfl, rfl, .refl _⟩
    have hTk : G.tick.length ≤ n := by rw [R.tick]; exact zt
    -- ticket
    refine TS.guard (TT.cmp (TE.name rfl) (TE.const_int 8 _ _) (OpR.eqI _ _)) (fun h => ?_) fun h => ?_
    · let G1 : GG := { G with tick := G.tick ++ [(G.nt, t)], nt := G.nt + 1 }
      let W1 : WW := { W with given := W.given + 1, wt := W.wt ++ [(W.given + 1, t)] }
      let PT : Os → Oc → Prop := fun o a => if t > G.op then o = G.os ∧ a = .exc 56 else o = G1.os ∧ a = .val (dI G.nt)
      refine TS.last (TX.deed (og := G.os) (RR := W.os ++ T) (Ψ := fun o => ∃ G' W', Rel G' W' (n + 1) ∧ G'.g = G.g ∧ W'.d = W.d ∧ o.Perm (ST G' W' T)) hc (by omega)
        (TV.tried (Φm := PT) (cl := [("txg", L + 4), ("groups", L + 1)]) hc (by omega) (TE.global hc (by kernel_rfl) rfl) rfl (codeK263 c.w) (mT (.head _)) rfl rfl rfl rfl (fun _ _ _ => rfl) (by decide +kernel) rfl rfl rfl
          (fun c' L' f cdv fa hc' => TV.callM (pl := _) (rest := (f, fa) :: (W.os ++ T)) hc' (TE.cell (.inr rfl) rfl (.tail _ (mT c1))) (.tail _ (List.mem_append_left _ G.in_os.1)) (.tail _ (List.mem_append_left _ G.in_os.2)) rfl (by kernel_rfl) (by kernel_rfl) (TEs.cons (TE.cell (.inr rfl) rfl (.tail _ (mT c4))) TEs.nil) (ticket_cv (by omega) G t (by omega)) lam_perm lam_hp)
          (fun o a h => ?_)) (fun o' v h => ?_) (fun o h => by obtain ⟨G', W', hR, hg, hd, hp⟩ := h; exact fin_ST hR hg hd hp))
      · have h : if t > G.op then o = G.os ∧ a = .exc 56 else o = G1.os ∧ a = .val (dI G.nt) := h
        split at h
        · exact .inr (.inr h.2)
        · exact .inl ⟨_, h.2⟩
      · refine ⟨if t > W.op then misuD else told (.int (W.given + 1)), _, TV.callW hc (TE.global hc (by kernel_rfl) rfl) (TEs.cons (TE.name rfl) (TEs.cons (TE.cell (.inl rfl) rfl (r4 c4)) TEs.nil)) (by kernel_rfl) (lticket_cv (by omega) W t (by omega)), (fun o C hb => ?_), fun o b hb => ?_⟩
        · obtain ⟨ow, _, hb⟩ := hb
          split at hb <;> cases hb.2
        obtain ⟨ow, rfl, hb⟩ := hb
        by_cases hk : t > W.op
        · have hk' : t > G.op := by rw [R.op]; exact hk
          rw [if_pos hk] at hb
          obtain ⟨rfl, hb⟩ := hb
          cases hb
          rcases h with ⟨v', h, _⟩ | ⟨h, _⟩ | ⟨h, rfl⟩ <;> simp only [PT, if_pos hk'] at h
          · cases h.2
          · cases h.2
          · obtain ⟨rfl, _⟩ := h
            exact ⟨by rw [if_pos hk], by rw [if_pos hk], by rw [if_pos hk]; exact nice_misu, G, W, R.mono (by omega), rfl, rfl, .refl _⟩
        · have hk' : ¬ t > G.op := by rw [R.op]; exact hk
          rw [if_neg hk] at hb
          obtain ⟨rfl, hb⟩ := hb
          cases hb
          rcases h with ⟨v', h, rfl⟩ | ⟨h, _⟩ | ⟨h, _⟩ <;> simp only [PT, if_neg hk'] at h
          · obtain ⟨rfl, h⟩ := h
            cases h
            exact ⟨by rw [if_neg hk], by rw [if_neg hk, R.nt], by rw [if_neg hk]; exact nice_told (Nice.int _ _), G1, W1, R.ticket t, rfl, rfl, .refl _⟩
          · cases h.2
          · cases h.2
    -- served
    let PV : Os → Oc → Prop := fun o a => a = .val (.d (.list (G.due.map .int))) ∧ ∃ D, o = GG.os { G with lt := D, tick := G.tick.filter fun t => decide (t.2 > G.la) }
    refine TS.last ((TX.deed (og := G.os) (RR := W.os ++ T) (Ψ := fun o => ∃ G' W', Rel G' W' (n + 1) ∧ G'.g = G.g ∧ W'.d = W.d ∧ o.Perm (ST G' W' T)) hc (by omega)
        (TV.tried (Φm := PV) (cl := [("groups", L + 1)]) hc (by omega) (TE.global hc (by kernel_rfl) rfl) rfl (codeK263 c.w) (mT (.head _)) rfl rfl rfl rfl (fun _ _ _ => rfl) (by decide +kernel) rfl rfl rfl
          (fun c' L' f cdv fa hc' => TV.callM0 (pl := _) (rest := (f, fa) :: (W.os ++ T)) hc' (TE.cell (.inr rfl) rfl (.tail _ (mT c1))) (.tail _ (List.mem_append_left _ G.in_os.1)) (.tail _ (List.mem_append_left _ G.in_os.2)) rfl (by kernel_rfl) (by kernel_rfl) (served_cv (by omega) G (by omega)) lam_perm lam_hp)
          (fun o a h => .inl ⟨_, h.1⟩)) (fun o' v h => ?_) (fun o h => by obtain ⟨G', W', hR, hg, hd, hp⟩ := h; exact fin_ST hR hg hd hp)).mono fun f r o h => h.2)
    refine ⟨told (.list (W.due.map .int)), _, TV.callW hc (TE.global hc (by kernel_rfl) rfl) (TEs.cons (TE.name rfl) TEs.nil) (by kernel_rfl) (lserved_cv (by omega) W (by omega)), (fun o C hb => ?_), fun o b hb => ?_⟩
    · obtain ⟨ow, _, hb, _⟩ := hb
      cases hb
    obtain ⟨ow, rfl, hb, D', rfl⟩ := hb
    cases hb
    rcases h with ⟨v', ⟨h, D, rfl⟩, rfl⟩ | ⟨⟨h, _⟩, _⟩ | ⟨⟨h, _⟩, _⟩
    · cases h
      refine ⟨rfl, by rw [R.due], Nice.le (n := 2) (nice_told (Nice.list fun d hd => ?_)) (by omega), _, _, (R.served D D').mono (by omega), rfl, rfl, .refl _⟩
      obtain ⟨i, _, rfl⟩ := List.mem_map.mp hd
      exact Nice.int i 0
    · cases h
    · cases h
  · have e : ST G W (CE L none none none G.g) = ST G W [(259, tabA qL)] ++ C4 L none none none G.g := by
      unfold ST CE
      simp only [List.append_assoc, List.cons_append, List.nil_append]
    rw [e]
    exact List.perm_append_comm
end Mine
set_option Elab.async false
set_option maxRecDepth 100000
set_option linter.unusedVariables false
namespace Mine
open PySem PySem.W PySem.Calls PyProof.Rows PySem.Spec PyProof.Rows.LCg

theorem rng_size (a : Int) : Builtin.Range.rangeSize a (a + 6) 1 = (6 : Nat) := by
  unfold Builtin.Range.rangeSize
  rw [if_pos (by omega), if_pos (by omega)]
  omega

theorem rng_small {a : Int} (h1 : -100 ≤ a) (h2 : a ≤ 1000) : Builtin.Range.small a (a + 6) 1 = true := by
  unfold Builtin.Range.small
  rw [rng_size]
  have f : ∀ i : Int, -200 ≤ i → i ≤ 2000 → Builtin.Range.rangeFitsLong i = true := fun i a b => by
    unfold Builtin.Range.rangeFitsLong
    simp only [Bool.and_eq_true, decide_eq_true_eq]
    constructor <;> omega
  rw [f a (by omega) (by omega), f (a + 6) (by omega) (by omega), f 1 (by omega) (by omega), f ((6 : Nat) : Int) (by omega) (by omega), if_pos (by omega), f _ (by omega) (by omega)]
  simp
section
variable {c : Cx} {env : Env} {ρ : Vs} {ω : Os} {lv : Nat}
/-- a comprehension over an owned list of pairs, of their seconds -/
theorem TE.compP {α : Type} {la : Addr} (l : List α) (p1 p2 : α → PyData) (b : α → Bool) {x y : Str} {px py pe tp pos : Pos} {k : Nat} {iter test : Expr} {scope : Scope} {cl : List (Str × Addr)} (hc : c.Ok lv) (hl : (la, AO.list (l.map fun t => .d (.tuple [p1 t, p2 t]))) ∈ ω) (ok : CompOk c env scope cl iter)
    (hi : ∀ ω', (∀ q ∈ ω, q.1 ≠ la → q ∈ ω') → TE c env ρ ω' iter ω' (vR la)) (hz : l.length ≤ 1000) (kx : ∀ C, (compEnvC scope cl C env).kindOf x = some .local) (ky : ∀ C, (compEnvC scope cl C env).kindOf y = some .local) (hd : (y == ("__debug__" : Str)) = false)
    (ht : ∀ ω', (∀ q ∈ ω, q.1 ≠ la → q ∈ ω') → ∀ C ρ' t, t ∈ l → TT c (compEnvC scope cl C env) ((y, .d (p2 t)) :: (x, .d (p1 t)) :: ρ') ω' test ω' (b t)) :
    TE c env ρ ω (.ListComp (.Name y pe) [⟨.Tuple [.Name x px, .Name y py] k tp, iter, [test], 0⟩] scope pos) ω (.d (.list ((l.filter b).map p2))) := by
  refine TE.exact hl fun o => ?_
  have tr : ∀ q ∈ ω, q.1 ≠ la → q ∈ updO la (.exact o (.list (l.map fun t => .d (.tuple [p1 t, p2 t])))) ω := fun q hq n => updO_in (show (q.1, q.2) ∈ ω from hq) n
  have at_ : ∀ {i : Nat} {a : AV}, (l.map fun t => AV.d (.tuple [p1 t, p2 t]))[i]? = some a → ∃ t, l[i]? = some t ∧ a = .d (.tuple [p1 t, p2 t]) := fun h => by
    rw [List.getElem?_map] at h
    obtain ⟨t, h1, h2⟩ := Option.map_eq_some_iff.mp h
    exact ⟨t, h1, h2.symm⟩
  refine TE.to (TE.comp cl (l.map fun t => if b t = true then some (p2 t) else none) (ρ2 x y) hc ok (hi _ tr) (SRC.own hc (updO_self hl)) (by simp) (by simpa using hz) (fun C ρ' a h => ?_) (fun C ρ' i a o' h1 h2 => ?_)) ?_
  · obtain ⟨t, _, rfl⟩ := List.mem_map.mp h
    exact TA.pair hc (kx C) (ky C)
  · obtain ⟨t, ht', rfl⟩ := at_ h1
    rw [List.getElem?_map, ht'] at h2
    cases h2
    refine ⟨b t, ht _ tr C ρ' t (List.mem_of_getElem? ht'), fun h => ?_, fun h => ⟨.d (p2 t), ?_, TE.name (by show List.lookup y ((y, _) :: _) = _; simp) hd⟩⟩
    · exact congrArg (Option.map AV.d) (if_neg (by rw [h]; decide))
    · exact congrArg (Option.map AV.d) (if_pos h)
  · have := fm_filter2 l (fun t => b t = true) p2
    rw [this]
    simp
theorem TX.compP {α : Type} {la : Addr} (l : List α) (p1 p2 : α → PyData) (b : α → Bool) {v x y : Str} {pv px py pe tp pos spos : Pos} {k : Nat} {iter test : Expr} {scope : Scope} {cl : List (Str × Addr)} (hc : c.Ok lv) (hl : (la, AO.list (l.map fun t => .d (.tuple [p1 t, p2 t]))) ∈ ω) (ok : CompOk c env scope cl iter)
    (hi : ∀ ω', (∀ q ∈ ω, q.1 ≠ la → q ∈ ω') → TE c env ρ ω' iter ω' (vR la)) (hz : l.length ≤ 1000) (kx : ∀ C, (compEnvC scope cl C env).kindOf x = some .local) (ky : ∀ C, (compEnvC scope cl C env).kindOf y = some .local) (hd : (y == ("__debug__" : Str)) = false)
    (ht : ∀ ω', (∀ q ∈ ω, q.1 ≠ la → q ∈ ω') → ∀ C ρ' t, t ∈ l → TT c (compEnvC scope cl C env) ((y, .d (p2 t)) :: (x, .d (p1 t)) :: ρ') ω' test ω' (b t))
    (hsw : swapsWith (.ListComp (.Name y pe) [⟨.Tuple [.Name x px, .Name y py] k tp, iter, [test], 0⟩] scope pos) (some (.Name v pv)) spos.line env = pure true) (hv : env.kindOf v = some .local) :
    TX c env ρ ω (.Assign [.Name v pv] (.ListComp (.Name y pe) [⟨.Tuple [.Name x px, .Name y py] k tp, iter, [test], 0⟩] scope pos) spos) (Nx ((v, .d (.list ((l.filter b).map p2))) :: ρ) ω) := by
  refine TX.exact hl fun o => ?_
  have tr : ∀ q ∈ ω, q.1 ≠ la → q ∈ updO la (.exact o (.list (l.map fun t => .d (.tuple [p1 t, p2 t])))) ω := fun q hq n => updO_in (show (q.1, q.2) ∈ ω from hq) n
  have at_ : ∀ {i : Nat} {a : AV}, (l.map fun t => AV.d (.tuple [p1 t, p2 t]))[i]? = some a → ∃ t, l[i]? = some t ∧ a = .d (.tuple [p1 t, p2 t]) := fun h => by
    rw [List.getElem?_map] at h
    obtain ⟨t, h1, h2⟩ := Option.map_eq_some_iff.mp h
    exact ⟨t, h1, h2.symm⟩
  refine (TX.assignComp cl (l.map fun t => if b t = true then some (p2 t) else none) (ρ2 x y) hc ok (hi _ tr) (SRC.own hc (updO_self hl)) (by simp) (by simpa using hz) hsw hv (fun C ρ' a h => ?_) (fun C ρ' i a o' h1 h2 => ?_)).mono fun f r o' h => ?_
  · obtain ⟨t, _, rfl⟩ := List.mem_map.mp h
    exact TA.pair hc (kx C) (ky C)
  · obtain ⟨t, ht', rfl⟩ := at_ h1
    rw [List.getElem?_map, ht'] at h2
    cases h2
    refine ⟨b t, ht _ tr C ρ' t (List.mem_of_getElem? ht'), fun h => ?_, fun h => ⟨.d (p2 t), ?_, TE.name (by show List.lookup y ((y, _) :: _) = _; simp) hd⟩⟩
    · exact congrArg (Option.map AV.d) (if_neg (by rw [h]; decide))
    · exact congrArg (Option.map AV.d) (if_pos h)
  · obtain ⟨rfl, rfl, rfl⟩ := h
    refine ⟨_, rfl, hl, rfl, ?_, rfl⟩
    have := fm_filter2 l (fun t => b t = true) p2
    rw [this]
    simp
end
end Mine
set_option Elab.async false
set_option maxRecDepth 100000
set_option linter.unusedVariables false
namespace Mine
open PySem PySem.W PySem.Calls PyProof.Rows PySem.Spec PyProof.Rows.LCg

noncomputable abbrev C5 (L : Addr) (lv tx la : Option AV) (d g : Addr) : Os := [(L + 5, .cell lv), (L + 4, .cell tx), (L + 3, .cell la), (L + 2, .cell (some (vR d))), (L + 1, .cell (some (vR g)))]
theorem up53 {L : Addr} {lv tx la : Option AV} {d g : Addr} (v : AO) : updO (L + 3) v (C5 L lv tx la d g) = [(L + 5, .cell lv), (L + 4, .cell tx), (L + 3, v), (L + 2, .cell (some (vR d))), (L + 1, .cell (some (vR g)))] := by
  have e5 : L + 5 ≠ L + 3 := fun e => by have := Nat.add_left_cancel e; omega
  have e4 : L + 4 ≠ L + 3 := fun e => by have := Nat.add_left_cancel e; omega
  have e2 : L + 2 ≠ L + 3 := fun e => by have := Nat.add_left_cancel e; omega
  have e1 : L + 1 ≠ L + 3 := fun e => by have := Nat.add_left_cancel e; omega
  rw [updO_cons_ne e5, updO_cons_ne e4, updO_cons_eq, updO_cons_ne e2, updO_cons_ne e1]; rfl
theorem up54 {L : Addr} {lv tx la : Option AV} {d g : Addr} (v : AO) : updO (L + 4) v (C5 L lv tx la d g) = [(L + 5, .cell lv), (L + 4, v), (L + 3, .cell la), (L + 2, .cell (some (vR d))), (L + 1, .cell (some (vR g)))] := by
  have e5 : L + 5 ≠ L + 4 := fun e => by have := Nat.add_left_cancel e; omega
  have e3 : L + 3 ≠ L + 4 := fun e => by have := Nat.add_left_cancel e; omega
  have e2 : L + 2 ≠ L + 4 := fun e => by have := Nat.add_left_cancel e; omega
  have e1 : L + 1 ≠ L + 4 := fun e => by have := Nat.add_left_cancel e; omega
  rw [updO_cons_ne e5, updO_cons_eq, updO_cons_ne e3, updO_cons_ne e2, updO_cons_ne e1]; rfl
theorem up55 {L : Addr} {lv tx la : Option AV} {d g : Addr} (v : AO) : updO (L + 5) v (C5 L lv tx la d g) = [(L + 5, v), (L + 4, .cell tx), (L + 3, .cell la), (L + 2, .cell (some (vR d))), (L + 1, .cell (some (vR g)))] := by
  have e4 : L + 4 ≠ L + 5 := fun e => by have := Nat.add_left_cancel e; omega
  have e3 : L + 3 ≠ L + 5 := fun e => by have := Nat.add_left_cancel e; omega
  have e2 : L + 2 ≠ L + 5 := fun e => by have := Nat.add_left_cancel e; omega
  have e1 : L + 1 ≠ L + 5 := fun e => by have := Nat.add_left_cancel e; omega
  rw [updO_cons_eq, updO_cons_ne e4, updO_cons_ne e3, updO_cons_ne e2, updO_cons_ne e1]; rfl
theorem word_ok (W : WW) (k : Int) : PyData.strOk (W.word k) = true := by
  unfold WW.word
  split
  · decide +kernel
  · split
    · decide +kernel
    · split
      · decide +kernel
      · split
        · decide +kernel
        · decide +kernel
theorem names_ok {G : GG} {W : WW} {n : Nat} (R : Rel G W n) (b : Int × Str → Bool) : ∀ d ∈ (srtS (dedup ((W.wn.filter b).map (·.2)))).map PyData.str, Nice d 0 := fun d hd => by
  obtain ⟨x, hx, rfl⟩ := List.mem_map.mp hd
  rw [(srtS_perm _).mem_iff, Rel.mem_dedup] at hx
  obtain ⟨p, hp, rfl⟩ := List.mem_map.mp hx
  exact Nice.str (R.ok p (List.mem_filter.mp hp).1) 0
theorem nice_list2 {l : List PyData} (h : ∀ d ∈ l, Nice d 1) : Nice (.list l) 2 := Nice.list h
theorem nice_cons {d : PyData} {l : List PyData} {n : Nat} (h : Nice d n) (t : ∀ x ∈ l, Nice x n) : ∀ x ∈ d :: l, Nice x n := fun x hx => (List.mem_cons.mp hx).elim (fun e => e ▸ h) (t x)
theorem nice_nil {n : Nat} : ∀ x ∈ ([] : List PyData), Nice x n := nofun

theorem no_ex {G : GG} {W : WW} {L : Addr} {lv tx la : Option AV} {d g : Addr} {b : Addr} {o : Obj} {a : AO} (h : (b, AO.exact o a) ∈ ST G W (C5 L lv tx la d g)) : False := by
  rcases List.mem_append.mp h with h | h
  · exact no_exact G h
  · rcases List.mem_append.mp h with h | h
    · simp [WW.os, os5] at h
    · simp at h

theorem oneF (v : Option Int) (h : v.isSome = false) : (v.map PyData.int).map AV.d = none := by
  cases v with
  | none => rfl
  | some x => cases h
theorem oneT {c : Cx} {env : Env} {ρ : Vs} {ω : Os} {x : Str} {p : Pos} (v : Option Int) (hd : (x == ("__debug__" : Str)) = false) (h : v.isSome = true) : ∃ av, (v.map PyData.int).map AV.d = some av ∧ TE c env ((x, .d (oI v)) :: ρ : Vs) ω (.Name x p) ω av := by
  cases v with
  | none => cases h
  | some k => exact ⟨dI k, rfl, TE.name (by show List.lookup x ((x, _) :: _) = _; simp; rfl) hd⟩
set_option maxHeartbeats 8000000 in
theorem is_same_cv {lv : Nat} (hlv : lv ≤ 6) (G : GG) (W : WW) (n : Nat) (hn : n ≤ 60) (R : Rel G W n) : CV lv 274 [vR G.g, vR W.d] (G.os ++ W.os) (Ph (G.os ++ W.os) (dB true)) := by
  refine CV.defC (xs := ["groups", "world"]) [] (fun n => C5 n none none none W.d G.g) (fun w => rfl) (fun w => by kernel_rfl) (fun vals h => ?_) (fun y av h => by cases h) (fun n => rfl) ?_ ?_ ?_ ?_ (by omega) rfl rfl rfl fun c L hc hL => ?_
  · match vals, h with
    | [a, b], _ => rfl
  · intro n y hy
    simp only [List.mem_cons, List.not_mem_nil, or_false] at hy
    rcases hy with rfl | rfl
    · exact .inr ⟨rfl, rfl⟩
    · exact .inr ⟨rfl, rfl⟩
  · decide +kernel
  · decide +kernel
  · decide +kernel
  refine TS.perm (ω' := ST G W (C5 L none none none W.d G.g)) ?_ (by unfold ST; rw [← List.append_assoc G.os]; exact List.perm_append_comm)
  refine TS.nd fun nd => ?_
  have nd : (keys G.os ++ (keys W.os ++ [L + 5, L + 4, L + 3, L + 2, L + 1])).Nodup := by
    have e : keys (ST G W (C5 L none none none W.d G.g)) = keys G.os ++ (keys W.os ++ [L + 5, L + 4, L + 3, L + 2, L + 1]) := by
      unfold ST; rw [keys_append, keys_append]; rfl
    rwa [e] at nd
  obtain ⟨nG, nWT, dG⟩ := List.nodup_append.mp nd
  obtain ⟨nW, nT, dW⟩ := List.nodup_append.mp nWT
  have oG : ∀ a ∈ [L + 5, L + 4, L + 3, L + 2, L + 1], a ∉ keys G.os := fun a ha hb => dG a hb a (List.mem_append_right _ ha) rfl
  have oW : ∀ a ∈ [L + 5, L + 4, L + 3, L + 2, L + 1], a ∉ keys W.os := fun a ha hb => dW a hb a ha rfl
  have N := nd5 nW
  have nW' : ∀ {a b : Addr}, a ∈ [L + 5, L + 4, L + 3, L + 2, L + 1] → b ∈ keys W.os → a ≠ b := fun ha hb e => oW _ ha (e ▸ hb)
  have i1 : L + 1 ∈ [L + 5, L + 4, L + 3, L + 2, L + 1] := by simp
  have i2 : L + 2 ∈ [L + 5, L + 4, L + 3, L + 2, L + 1] := by simp
  have i3 : L + 3 ∈ [L + 5, L + 4, L + 3, L + 2, L + 1] := by simp
  have i4 : L + 4 ∈ [L + 5, L + 4, L + 3, L + 2, L + 1] := by simp
  have i5 : L + 5 ∈ [L + 5, L + 4, L + 3, L + 2, L + 1] := by simp
  have mT : ∀ {q : Addr × AO} {T : Os}, q ∈ T → q ∈ ST G W T := fun h => List.mem_append_right _ (List.mem_append_right _ h)
  have mW : ∀ {q : Addr × AO} {T : Os}, q ∈ W.os → q ∈ ST G W T := fun h => List.mem_append_right _ (List.mem_append_left _ h)
  have mG : ∀ {q : Addr × AO} {T : Os}, q ∈ G.os → q ∈ ST G W T := fun h => List.mem_append_left _ h
  have m1 : ∀ {a b e : Option AV}, (L + 1, AO.cell (some (vR G.g))) ∈ ST G W (C5 L a b e W.d G.g) := mT (.tail _ (.tail _ (.tail _ (.tail _ (.head _)))))
  have m2 : ∀ {a b e : Option AV}, (L + 2, AO.cell (some (vR W.d))) ∈ ST G W (C5 L a b e W.d G.g) := mT (.tail _ (.tail _ (.tail _ (.head _))))
  have m3 : ∀ {a b : Option AV} {v : AV}, (L + 3, AO.cell (some v)) ∈ ST G W (C5 L a b (some v) W.d G.g) := mT (.tail _ (.tail _ (.head _)))
  have m4 : ∀ {a b : Option AV} {v : AV}, (L + 4, AO.cell (some v)) ∈ ST G W (C5 L a (some v) b W.d G.g) := mT (.tail _ (.head _))
  have m5 : ∀ {a b : Option AV} {v : AV}, (L + 5, AO.cell (some v)) ∈ ST G W (C5 L (some v) a b W.d G.g) := mT (.head _)
  have bd := R.bd
  have zh := R.zh
  have zn := R.zn
  have zs := R.zs
  have zt := R.zt
  have hlen : W.live.length ≤ 3 := by unfold WW.live; cases W.sy <;> cases W.cl <;> simp
  have zH : G.holds.length ≤ 3 := by rw [← List.length_map (f := (·.1)), R.kh]; exact hlen
  have zN : G.nm.length ≤ 3 := by rw [← List.length_map (f := (·.1)), R.kn]; exact hlen
  have zS : G.spent.length ≤ 3 := by rw [← List.length_map (f := (·.1)), R.ks]; exact hlen
  have hTk : G.tick.length ≤ n := by rw [R.tick]; exact zt
  have zD : ∀ k, (G.dirt k).length < 64 := fun k => by
    rw [R.names]
    have h1 := dedup_len ((W.wn.filter fun p => decide (p.1 = k) && decide (p.1 > W.la)).map (·.2))
    rw [List.length_map] at h1
    have h2 := List.length_filter_le (fun p : Int × Str => decide (p.1 = k) && decide (p.1 > W.la)) W.wn
    omega
  refine TS.seq (ρ₁ := []) (ω₁ := ST G W (C5 L none none (some (dI W.la)) W.d G.g)) (TX.to (TX.assignC (av := dI W.la) (W.f_last (TE.cell (.inl rfl) rfl m2) (mW W.m_d)) rfl rfl (mT (.tail _ (.tail _ (.head _))))) ?_) ?_
  · rw [updO_ST (oG _ i3) (oW _ i3), up53]
  -- the first loop
  have hrange : W.op + 2 = (W.op - 4) + 6 := by omega
  refine TS.cons (Ψ₁ := fun f ρ' ω' => f = .next ∧ ∃ tx, ω' = ST G W (C5 L none tx (some (dI W.la)) W.d G.g)) ((TX.forB (av := .fz (IsRng (W.op - 4) (W.op + 2))) (as := rngL (W.op - 4) 6) (fun i ρ' ω' => ∃ tx, ω' = ST G W (C5 L none tx (some (dI W.la)) W.d G.g)) hc
    (TV.e (TV.bt (T := "range") (TE.builtin hc (by kernel_rfl) (by kernel_rfl) (by decide) rfl) (TEs.cons (TE.sub (W.f_open (TE.cell (.inl rfl) rfl m2) (mW W.m_d)) (TE.const_int 4 _ _)) (TEs.cons (TE.add (W.f_open (TE.cell (.inl rfl) rfl m2) (mW W.m_d)) (TE.const_int 2 _ _)) TEs.nil)) (CB.range hc ⟨rfl, rfl⟩)))
    (SRC.range hc (by rw [hrange]; exact rng_small (by omega) (by omega)) (by rw [hrange]; exact rng_size _)) ⟨none, rfl⟩ (fun i ρ' ω' h b o a hx => ?_) (fun i a ρ' ω' ha h => ?_)).mono fun f r o h => ⟨h.1, h.2⟩) (fun r o h => ?_) (fun a r o h => nomatch h.1) (fun C r o h => nomatch h.1)
  · exact (no_ex hx).elim
  · obtain ⟨tx, rfl⟩ := h
    obtain ⟨k, rfl⟩ : ∃ k, a = dI k := by
      unfold rngL at ha
      rw [List.getElem?_map] at ha
      obtain ⟨j, _, rfl⟩ := Option.map_eq_some_iff.mp ha
      exact ⟨_, rfl⟩
    let S2 : Os := ST G W (C5 L none (some (dI k)) (some (dI W.la)) W.d G.g)
    refine ⟨ρ', S2, TB.to (TB.cell rfl rfl (mT (.tail _ (.head _)))) (by rw [updO_ST (oG _ i4) (oW _ i4), up54]), ?_⟩
    let bN : Int × Str → Bool := fun t => (t.1 == k) && decide (W.la < t.1)
    let nmL : List Str := srtS (dedup ((W.wn.filter bN).map (·.2)))
    have eD : G.dirt k = dedup ((W.wn.filter bN).map (·.2)) := R.names k
    have lnN : ((W.wn.filter bN).map (·.2)).length ≤ 60 := by rw [List.length_map]; exact Nat.le_trans (List.length_filter_le _ _) (by omega)
    refine TS.seq (TX.assign (a := .d (.list (nmL.map .str))) (TE.bf1 (TE.builtin hc (by kernel_rfl) (by kernel_rfl) (by decide) rfl)
      (TE.bt1 (T := "set") (a := .d (.list (((W.wn.filter bN).map (·.2)).map .str))) (TE.builtin hc (by kernel_rfl) (by kernel_rfl) (by decide) rfl)
        (TE.to (TE.compP (α := Int × Str) (la := W.ln) W.wn (fun t => .int t.1) (fun t => .str t.2) bN hc (mW W.m_ln) ⟨rfl, by decide +kernel, rfl, by decide +kernel, fun _ => rfl⟩
          (fun ω' tr => W.f_names (TE.cell (.inl rfl) rfl (tr _ m2 (nW' i2 (Wk_ln W)))) (tr _ (mW W.m_d) N.h0.2.1)) (by omega) (fun C => rfl) (fun C => rfl) (by decide)
          (fun ω' tr C ρ'' t ht => TT.and2 (TT.cmp (TE.name rfl) (TE.cell (.inl rfl) rfl (tr _ m4 (nW' i4 (Wk_ln W)))) (OpR.eqI _ _)) (fun _ => TT.cmp (TE.name rfl) (TE.cell (.inl rfl) rfl (tr _ m3 (nW' i3 (Wk_ln W)))) (OpR.gt _ _)))) (by rw [List.map_map]; rfl))
        (CB.set sS (ks := (W.wn.filter bN).map (·.2)) hc (by omega) ⟨rfl, rfl⟩))
      (CB.sorted sS (ks := dedup ((W.wn.filter bN).map (·.2))) hc (.inr (.inr ⟨_, rfl, fun o h => h⟩)) (Nat.lt_of_le_of_lt (dedup_len _) (by omega)) ⟨rfl, rfl⟩)) rfl) ?_
    let toldD : PyData := .list [.str (W.word k), .int (W.wh.count k : Int), .list (nmL.map .str), .bool (decide (k ≤ W.la))]
    have niceT : Nice toldD 3 := Nice.le (n := 2) (Nice.list (nice_cons (Nice.le (Nice.str (word_ok W k) 0) (by omega)) (nice_cons (Nice.int _ _) (nice_cons (Nice.list (names_ok R bN)) (nice_cons (Nice.bool _ _) nice_nil))))) (by omega)
    refine TS.seq (TX.assign (a := .d toldD) (TE.to (TE.list (ds := [.str (G.word k), .int (G.hat k), .list ((srtS (G.dirt k)).map .str), .bool (decide (k ≤ G.la))])
      (TEs.cons (TV.e (TV.callM (pl := _) (rest := (W.os ++ C5 L none (some (dI k)) (some (dI W.la)) W.d G.g)) hc (TE.cell (.inl rfl) rfl m1) (mG G.in_os.1) (mG G.in_os.2) rfl (by kernel_rfl) (by kernel_rfl) (TEs.cons (TE.cell (.inl rfl) rfl m4) TEs.nil) (state_cv (by omega) G k) (.refl _) (ph_to (.refl _))))
        (TEs.cons (TV.e (TV.callM (pl := _) (rest := (W.os ++ C5 L none (some (dI k)) (some (dI W.la)) W.d G.g)) hc (TE.cell (.inl rfl) rfl m1) (mG G.in_os.1) (mG G.in_os.2) rfl (by kernel_rfl) (by kernel_rfl) (TEs.cons (TE.cell (.inl rfl) rfl m4) TEs.nil) (held_cv (by omega) G k) (.refl _) (ph_to (.refl _))))
          (TEs.cons (TV.e (TV.callM (pl := _) (rest := (W.os ++ C5 L none (some (dI k)) (some (dI W.la)) W.d G.g)) hc (TE.cell (.inl rfl) rfl m1) (mG G.in_os.1) (mG G.in_os.2) rfl (by kernel_rfl) (by kernel_rfl) (TEs.cons (TE.cell (.inl rfl) rfl m4) TEs.nil) (dirty_cv (by omega) G k (zD k)) (.refl _) (ph_to (.refl _))))
            (TEs.cons (TV.e (TV.callM (pl := _) (rest := (W.os ++ C5 L none (some (dI k)) (some (dI W.la)) W.d G.g)) hc (TE.cell (.inl rfl) rfl m1) (mG G.in_os.1) (mG G.in_os.2) rfl (by kernel_rfl) (by kernel_rfl) (TEs.cons (TE.cell (.inl rfl) rfl m4) TEs.nil) (synced_cv (by omega) G k) (.refl _) (ph_to (.refl _)))) TEs.nil)))) (by simp)) (by rw [R.word, R.hat, eD, R.la])) rfl) ?_
    refine TS.last (TX.cond (x := false) (TT.conseq (TT.cmp (TE.name rfl) (TE.list (ds := [.str (W.word k), .int (W.wh.count k : Int), .list (nmL.map .str), .bool (decide (k ≤ W.la))])
      (TEs.cons (TV.e (TV.callF (rest := G.os ++ C5 L none (some (dI k)) (some (dI W.la)) W.d G.g) hc (TE.global hc (by kernel_rfl) rfl) (TEs.cons (TE.cell (.inl rfl) rfl m2) (TEs.cons (TE.cell (.inl rfl) rfl m4) TEs.nil)) (by kernel_rfl) (lword_cv (by omega) W k) (List.perm_append_comm_assoc _ _ _) (ph_to (List.perm_append_comm_assoc _ _ _))))
        (TEs.cons (TE.bm (W.f_holds (TE.cell (.inl rfl) rfl m2) (mW W.m_d)) (GM.list (.inl (mW W.m_lh)) PySem.F.slot_list_count ty_count) (TEs.cons (TE.cell (.inl rfl) rfl m4) TEs.nil) (CB.count (.inr ⟨_, rfl, .inl (mW W.m_lh)⟩) ⟨rfl, rfl⟩))
          (TEs.cons (TE.name rfl) (TEs.cons (TE.cmp (TE.cell (.inl rfl) rfl m4) (TE.cell (.inl rfl) rfl m3) (OpR.le _ _)) TEs.nil)))) (by simp)) (OpR.neD (n := 3) (m := 3) hc niceT niceT (by omega) (by omega) (by omega))) (by rw [niceT.refl]; rfl)) (fun h => nomatch h) (fun _ => TS.nil ⟨rfl, _, rfl⟩))
  · obtain ⟨_, tx, rfl⟩ := h
    let S : Os := ST G W (C5 L none tx (some (dI W.la)) W.d G.g)
    let bS : Int × Int → Bool := fun t => decide (W.la < t.1)
    let bO : Int × Int → Bool := fun t => t.1 == W.op
    let spL : List Int := (W.ws.filter bS).map (·.2)
    have eO : ((W.ws.filter bO).map (·.2)).sum = W.sumOf W.op := rfl
    refine TS.seq (ρ₁ := (("spent", .d (.list (spL.map .int))) :: r : Vs)) (ω₁ := S) ((TX.compP (α := Int × Int) (la := W.ls) W.ws (fun t => .int t.1) (fun t => .int t.2) bS hc (mW W.m_ls) ⟨rfl, by decide +kernel, rfl, by decide +kernel, fun _ => rfl⟩
      (fun ω' tr => W.f_spent (TE.cell (.inl rfl) rfl (tr _ m2 (nW' i2 (Wk_ls W)))) (tr _ (mW W.m_d) N.h0.2.2.1)) (by omega) (fun C => rfl) (fun C => rfl) (by decide)
      (fun ω' tr C ρ'' t ht => TT.cmp (TE.name rfl) (TE.cell (.inl rfl) rfl (tr _ m3 (nW' i3 (Wk_ls W)))) (OpR.gt _ _)) rfl rfl).mono fun f r' o h => by
        obtain ⟨rfl, rfl, rfl⟩ := h
        exact ⟨rfl, by rw [List.map_map]; rfl, rfl⟩) ?_
    refine TS.seq (ρ₁ := (("here", dI (W.sumOf W.op)) :: ("spent", .d (.list (spL.map .int))) :: r : Vs)) (ω₁ := S) (TX.assign (TE.bf1 (a := .d (.list (((W.ws.filter bO).map (·.2)).map .int))) (TE.builtin hc (by kernel_rfl) (by kernel_rfl) (by decide) rfl)
      (TE.to (TE.compP (α := Int × Int) (la := W.ls) W.ws (fun t => .int t.1) (fun t => .int t.2) bO hc (mW W.m_ls) ⟨rfl, by decide +kernel, rfl, by decide +kernel, fun _ => rfl⟩
        (fun ω' tr => W.f_spent (TE.cell (.inl rfl) rfl (tr _ m2 (nW' i2 (Wk_ls W)))) (tr _ (mW W.m_d) N.h0.2.2.1)) (by omega) (fun C => rfl) (fun C => rfl) (by decide)
        (fun ω' tr C ρ'' t ht => TT.cmp (TE.name rfl) (W.f_open (TE.cell (.inl rfl) rfl (tr _ m2 (nW' i2 (Wk_ls W)))) (tr _ (mW W.m_d) N.h0.2.2.1)) (OpR.eqI _ _))) (by rw [List.map_map]; rfl))
      (CB.sum (ns := (W.ws.filter bO).map (·.2)) hc (.inl ⟨_, rfl, by simp [Function.comp_def]⟩) ⟨rfl, rfl⟩)) rfl) ?_
    have hop : getP G.spent G.op = some (W.sumOf W.op) := by rw [R.op]; exact R.vs _ (Rel.op_live W)
    have hcl : ∀ k, G.cl = some k → (getP G.holds k).isSome = true := fun k hk => getP_isSome (by rw [R.kh]; unfold WW.live; rw [← R.cl, hk]; simp)
    have nS : (G.spent.map (·.1)).Nodup := by rw [R.ks]; exact R.nodup
    have nN : (G.nm.map (·.1)).Nodup := by rw [R.kn]; exact R.nodup
    let fl : Bool := match W.lim with | none => false | some l => decide (l ≤ W.sumOf W.op)
    let qu : Bool := match W.cl with | none => false | some k => !decide (k ∈ W.wh)
    let wtL : List Int := srtI (dedup (W.wt.map (·.2)))
    let dueL : List PyData := [.int W.la, .int spL.sum, .bool fl, .bool qu, .list (wtL.map .int)]
    refine TS.seq (ρ₁ := (("told", .d (.list dueL)) :: ("here", dI (W.sumOf W.op)) :: ("spent", .d (.list (spL.map .int))) :: r : Vs)) (ω₁ := S) (TX.assign (TE.to (TE.list (ds := [.int G.la, .int (G.spent.map (·.2)).sum, .bool (G.full (W.sumOf W.op)), .bool G.quiet, .list (G.wait.map .int)])
      (TEs.cons (GG.f_last G hc (TE.cell (.inl rfl) rfl m1) ⟨mG G.in_os.1, mG G.in_os.2⟩) (TEs.cons (TV.e (TV.callM0 (pl := _) (rest := W.os ++ (C5 L none tx (some (dI W.la)) W.d G.g)) hc (TE.cell (.inl rfl) rfl m1) (mG G.in_os.1) (mG G.in_os.2) rfl (by kernel_rfl) (by kernel_rfl) (allspent_cv (by omega) G nS (by omega)) (.refl _) (ph_to (.refl _)))) (TEs.cons (TV.e (TV.callM0 (pl := _) (rest := W.os ++ (C5 L none tx (some (dI W.la)) W.d G.g)) hc (TE.cell (.inl rfl) rfl m1) (mG G.in_os.1) (mG G.in_os.2) rfl (by kernel_rfl) (by kernel_rfl) (full_cv (by omega) G _ hop) (.refl _) (ph_to (.refl _)))) (TEs.cons (TV.e (TV.callM0 (pl := _) (rest := W.os ++ (C5 L none tx (some (dI W.la)) W.d G.g)) hc (TE.cell (.inl rfl) rfl m1) (mG G.in_os.1) (mG G.in_os.2) rfl (by kernel_rfl) (by kernel_rfl) (quiet_cv (by omega) G hcl) (.refl _) (ph_to (.refl _)))) (TEs.cons (TV.e (TV.callM0 (pl := _) (rest := W.os ++ (C5 L none tx (some (dI W.la)) W.d G.g)) hc (TE.cell (.inl rfl) rfl m1) (mG G.in_os.1) (mG G.in_os.2) rfl (by kernel_rfl) (by kernel_rfl) (waiting_cv (by omega) G (by omega)) (.refl _) (ph_to (.refl _)))) TEs.nil))))) (by simp)) (by first | (rw [R.la, R.all_spent, R.full, R.quiet, R.wait]; done) | (rw [R.la, R.all_spent, R.full, R.quiet, R.wait]; first | rfl | (simp [dueL, fl, qu, spL, wtL, bS])))) rfl) ?_
    have eF : fl = (W.lim.isSome && fl) := by show _ = _; cases e : W.lim <;> simp [fl, e]
    have eQ : qu = (W.cl.isSome && qu) := by show _ = _; cases e : W.cl <;> simp [qu, e]
    refine TS.cons (Ψ₁ := fun f r' o => f = .next ∧ ∃ D, D ∉ keys S ∧ r' = (("due", vR D) :: ("told", .d (.list dueL)) :: ("here", dI (W.sumOf W.op)) :: ("spent", .d (.list (spL.map .int))) :: r : Vs) ∧ o = (D, AO.list [dI W.la, dI spL.sum, dB fl]) :: S)
      (TX.assignV (Φ := fun o a => ∃ D, D ∉ keys S ∧ o = (D, AO.list [dI W.la, dI spL.sum, dB fl]) :: S ∧ a = .val (vR D)) (TV.listN hc (TEs.cons (TE.cell (.inl rfl) rfl m3) (TEs.cons (TE.bf1 (TE.builtin hc (by kernel_rfl) (by kernel_rfl) (by decide) rfl) (TE.name rfl) (CB.sum (ns := spL) hc (.inl ⟨_, rfl, by simp [Function.comp_def]⟩) ⟨rfl, rfl⟩))
        (TEs.cons (TE.to (TE.and2 (b₂ := fl) (TE.cmp (W.f_limit (TE.cell (.inl rfl) rfl m2) (mW W.m_d)) (TE.const_none _ _) (OpR.isNotN W.lim)) (fun h => ?_)) (by rw [← eF])) TEs.nil))) (by simp) fun D hD => ⟨D, hD, rfl, rfl⟩) rfl (fun o a h => ?_) (fun o C h => by obtain ⟨_, _, _, h⟩ := h; cases h)) (fun r' o h => ?_) (fun a r' o h => nomatch h.1) (fun C r' o h => nomatch h.1)
    · obtain ⟨l, hl⟩ := Option.isSome_iff_exists.mp h
      refine TE.to (TE.cmp (TE.name rfl) (TE.to (W.f_limit (TE.cell (.inl rfl) rfl m2) (mW W.m_d)) (b := dI l) (by rw [hl]; rfl)) (OpR.ge _ _)) ?_
      show _ = dB fl
      simp only [fl, hl]
    · obtain ⟨D, hD, rfl, h⟩ := h
      cases h
      exact ⟨rfl, D, hD, rfl, rfl⟩
    obtain ⟨_, D, hD, rfl, rfl⟩ := h
    have nD : ∀ {b : Addr}, b ∈ keys S → D ≠ b := fun hb e => hD (e ▸ hb)
    have appD : ∀ {l : List AV} (x : AV), updO D (.list (l ++ [x])) ((D, AO.list l) :: S) = (D, AO.list (l ++ [x])) :: S := fun x => by rw [updO_cons_eq, updO_no _ hD]
    refine TS.seq (TX.to (TX.expr (TE.bm (TE.name rfl) (GM.list (.inl (.head _)) PySem.F.slot_list_append ty_app) (TEs.cons (TE.to (TE.and2 (b₂ := qu) (TE.cmp (W.f_closing (TE.cell (.inl rfl) rfl (.tail _ m2)) (.tail _ (mW W.m_d))) (TE.const_none _ _) (OpR.isNotN W.cl)) (fun h => ?_)) (by rw [← eQ])) TEs.nil) (CB.append (.head _) (by simp) ⟨rfl, rfl⟩))) (appD _)) ?_
    · obtain ⟨k, hk⟩ := Option.isSome_iff_exists.mp h
      refine TE.to (TE.cmp (TE.to (W.f_closing (TE.cell (.inl rfl) rfl (.tail _ m2)) (.tail _ (mW W.m_d))) (b := dI k) (by rw [hk]; rfl)) (W.f_holds (TE.cell (.inl rfl) rfl (.tail _ m2)) (.tail _ (mW W.m_d))) (OpR.notinI (.inr ⟨_, rfl, .inl (.tail _ (mW W.m_lh))⟩))) ?_
      show _ = dB qu
      simp only [qu, hk, Rel.any_in]
    have dlen : (dedup (W.wt.map (·.2))).length < 64 := Nat.lt_of_le_of_lt (dedup_len _) (by rw [List.length_map]; omega)
    have kS : ∀ {q : Addr × AO}, q ∈ S → q.1 ∈ keys S := fun h => List.mem_map_of_mem (f := Prod.fst) h
    refine TS.seq (ω₁ := (D, AO.list (dueL.map .d)) :: S) (TX.to (TX.expr (TE.bm (TE.name rfl) (GM.list (.inl (.head _)) PySem.F.slot_list_append ty_app) (TEs.cons (TE.bf1 (a := .fz fun o => SetX (sI.knd c.w) o (dedup (W.wt.map (·.2)))) (TE.builtin hc (by kernel_rfl) (by kernel_rfl) (by decide) rfl)
      (TE.bt1 (T := "set") (a := .d (.list ((W.wt.map (·.2)).map .int))) (TE.builtin hc (by kernel_rfl) (by kernel_rfl) (by decide) rfl) (TE.exact (.tail _ (mW W.m_lw)) fun o => ?_) (CB.set sI (ks := W.wt.map (·.2)) hc (by rw [List.length_map]; omega) ⟨rfl, rfl⟩))
      (CB.sorted sI (ks := dedup (W.wt.map (·.2))) hc (.inr (.inr ⟨_, rfl, fun o h => h⟩)) dlen ⟨rfl, rfl⟩)) TEs.nil) (CB.append (.head _) (by simp) ⟨rfl, rfl⟩))) (appD _)) ?_
    · have tr : ∀ q ∈ ((D, AO.list [dI W.la, dI spL.sum, dB fl, dB qu]) :: S), q.1 ≠ W.lw → q ∈ updO W.lw (.exact o (.list (W.wt.map fun t => .d (pI t)))) ((D, AO.list [dI W.la, dI spL.sum, dB fl, dB qu]) :: S) := fun q hq n => updO_in (show (q.1, q.2) ∈ _ from hq) n
      refine TE.to (TE.comp _ (W.wt.map fun t => some (.int t.2)) (fun a => [("row", a)]) hc ⟨rfl, by decide +kernel, rfl, by decide +kernel, fun _ => rfl⟩ (W.f_tickets (TE.cell (.inl rfl) rfl (tr _ (.tail _ m2) (nW' i2 (Wk_lw W)))) (tr _ (.tail _ (mW W.m_d)) N.h0.2.2.2)) (SRC.own hc (updO_self (.tail _ (mW W.m_lw)))) (by simp) (by simp; omega) (fun C ρ' a h => TA.name rfl) (fun C ρ' i a o' h1 h2 => ?_)) ?_
      · rw [List.getElem?_map] at h1 h2
        obtain ⟨t, ht, rfl⟩ := Option.map_eq_some_iff.mp h1
        rw [ht] at h2
        cases h2
        exact ⟨_, rfl, TE.itemT (k := 1) (TE.name rfl) (TE.const_int 1 _ _) rfl (by omega)⟩
      · rw [List.filterMap_map]
        simp [Function.comp_def]
    -- live, rows
    let bL : Int × Str → Bool := fun t => decide (W.la < t.1)
    let lvL : List Str := (W.wn.filter bL).map (·.2)
    let dA : AO := .list (dueL.map .d)
    refine TS.cons (Ψ₁ := fun f r' o => f = .next ∧ ∃ Rw, Rw ∉ keys ((D, dA) :: S) ∧ r' = (("rows", vR Rw) :: ("due", vR D) :: ("told", .d (.list dueL)) :: ("here", dI (W.sumOf W.op)) :: ("spent", .d (.list (spL.map .int))) :: r : Vs) ∧ o = (Rw, AO.list []) :: (D, dA) :: ST G W (C5 L (some (.d (.list (lvL.map .str)))) tx (some (dI W.la)) W.d G.g))
      (TX.assign2 (Φ := fun o a => ∃ Rw, Rw ∉ keys ((D, dA) :: S) ∧ o = (Rw, AO.list []) :: (D, dA) :: S ∧ a = .val (vR Rw)) (a₁ := .d (.list (lvL.map .str))) hc
        (TE.to (TE.compP (α := Int × Str) (la := W.ln) W.wn (fun t => .int t.1) (fun t => .str t.2) bL hc (.tail _ (mW W.m_ln)) ⟨rfl, by decide +kernel, rfl, by decide +kernel, fun _ => rfl⟩
          (fun ω' tr => W.f_names (TE.cell (.inl rfl) rfl (tr _ (.tail _ m2) (nW' i2 (Wk_ln W)))) (tr _ (.tail _ (mW W.m_d)) N.h0.2.1)) (by omega) (fun C => rfl) (fun C => rfl) (by decide)
          (fun ω' tr C ρ'' t ht => TT.cmp (TE.name rfl) (TE.cell (.inl rfl) rfl (tr _ (.tail _ m3) (nW' i3 (Wk_ln W)))) (OpR.gt _ _))) (by rw [List.map_map]; rfl))
        (TV.list0 hc fun Rw hR => ⟨Rw, hR, rfl, rfl⟩) (fun o C h => by obtain ⟨_, _, _, h⟩ := h; cases h) (fun o a h => ?_)) (fun r' o h => ?_) (fun a r' o h => nomatch h.1) (fun C r' o h => nomatch h.1)
    · obtain ⟨Rw, hR, rfl, h⟩ := h
      cases h
      refine ⟨_, _, _, _, TB.to (TB.cell rfl rfl (.tail _ (.tail _ (mT (.head _))))) ?_, TB.name rfl, rfl, Rw, hR, rfl, rfl⟩
      have n1 : Rw ≠ L + 5 := fun e => hR (e ▸ List.mem_cons_of_mem _ (kS (mT (.head _) : (L + 5, AO.cell none) ∈ S)))
      have n2 : D ≠ L + 5 := nD (kS (mT (.head _) : (L + 5, AO.cell none) ∈ S))
      rw [updO_cons_ne n1, updO_cons_ne n2, updO_ST (oG _ i5) (oW _ i5), up55]
    obtain ⟨_, Rw, hR, rfl, rfl⟩ := h
    let SL : Option AV → Os := fun tx => ST G W (C5 L (some (.d (.list (lvL.map .str)))) tx (some (dI W.la)) W.d G.g)
    have kR : ∀ {tx'} {q : Addr × AO}, q ∈ SL tx' → q.1 ∈ keys S := fun {tx'} {q} h => by
      have e : keys (SL tx') = keys S := by show keys (ST _ _ _) = keys (ST _ _ _); unfold ST; rw [keys_append, keys_append, keys_append, keys_append]; rfl
      exact e ▸ List.mem_map_of_mem (f := Prod.fst) h
    have nR : ∀ {b : Addr}, b ∈ keys S → Rw ≠ b := fun hb e => hR (e ▸ List.mem_cons_of_mem _ hb)
    have nRD : Rw ≠ D := fun e => hR (e ▸ .head _)
    let bK : Int → Int × Str → Bool := fun k t => t.1 == k
    let bM : Int → Int × Int → Bool := fun k t => t.1 == k
    refine TS.cons (Ψ₁ := fun f ρ' ω' => f = .next ∧ ∃ tx', ω' = (Rw, AO.list ((W.live.map (Rel.rowW W)).map .d)) :: (D, dA) :: SL tx' ∧ ρ'.lookup ("rows" : Str) = some (vR Rw) ∧ ρ'.lookup ("told" : Str) = some (.d (.list dueL)) ∧ ρ'.lookup ("due" : Str) = some (vR D))
      ((TX.forB (av := .d (.list (W.live.map .int))) (as := (W.live.map .int).map .d) (fun i ρ' ω' => ∃ tx', ω' = (Rw, AO.list (((W.live.take i).map (Rel.rowW W)).map .d)) :: (D, dA) :: SL tx' ∧ ρ'.lookup ("rows" : Str) = some (vR Rw) ∧ ρ'.lookup ("told" : Str) = some (.d (.list dueL)) ∧ ρ'.lookup ("due" : Str) = some (vR D)) hc
        (TE.to (TE.comp _ [W.sy.map .int, W.cl.map .int, some (.int W.op)] (fun a => [("one", a)]) hc ⟨rfl, by decide +kernel, rfl, by decide +kernel, fun _ => rfl⟩
          (TE.tuple (ds := [oI W.sy, oI W.cl, .int W.op]) (TEs.cons (W.f_syncing (TE.cell (.inl rfl) rfl (.tail _ (.tail _ m2))) (.tail _ (.tail _ (mW W.m_d)))) (TEs.cons (W.f_closing (TE.cell (.inl rfl) rfl (.tail _ (.tail _ m2))) (.tail _ (.tail _ (mW W.m_d)))) (TEs.cons (W.f_open (TE.cell (.inl rfl) rfl (.tail _ (.tail _ m2))) (.tail _ (.tail _ (mW W.m_d)))) TEs.nil))) (by simp))
          (SRC.dtuple hc) rfl (by simp) (fun C ρ' a h => TA.name rfl) (fun C ρ' i a o' h1 h2 => ?_)) ?_)
        (SRC.dlist hc) ⟨tx, rfl, rfl, rfl, rfl⟩ (fun i ρ' ω' h b o a hx => ?_) (fun i a ρ' ω' ha h => ?_)).mono fun f r o h => ⟨h.1, ?_⟩) (fun r2 o h => ?_) (fun a r o h => nomatch h.1) (fun C r o h => nomatch h.1)
    · match i, h1, h2 with
      | 0, h1, h2 => cases h1; cases h2; exact ⟨W.sy.isSome, TT.cmp (TE.name rfl) (TE.const_none _ _) (OpR.isNotN W.sy), oneF W.sy, oneT W.sy (by decide)⟩
      | 1, h1, h2 => cases h1; cases h2; exact ⟨W.cl.isSome, TT.cmp (TE.name rfl) (TE.const_none _ _) (OpR.isNotN W.cl), oneF W.cl, oneT W.cl (by decide)⟩
      | 2, h1, h2 => cases h1; cases h2; exact ⟨(some W.op).isSome, TT.cmp (TE.name rfl) (TE.const_none _ _) (OpR.isNotN (some W.op)), oneF (some W.op), oneT (some W.op) (by decide)⟩
      | n + 3, h1, h2 => cases h1
    · unfold WW.live
      cases W.sy <;> cases W.cl <;> rfl
    · rcases List.mem_cons.mp hx with h | hx
      · cases h
      · rcases List.mem_cons.mp hx with h | hx
        · injection h with _ h2
          exact nomatch (show AO.exact o a = AO.list _ from h2)
        · exact (no_ex hx).elim
    · obtain ⟨tx', rfl, l1, l2, l3⟩ := h
      rw [List.map_map, List.getElem?_map] at ha
      obtain ⟨k, hk, rfl⟩ := Option.map_eq_some_iff.mp ha
      let RW : Os := (Rw, AO.list (((W.live.take i).map (Rel.rowW W)).map .d)) :: (D, dA) :: SL (some (dI k))
      refine ⟨ρ', RW, TB.to (TB.cell rfl rfl (.tail _ (.tail _ (mT (.tail _ (.head _)))))) ?_, ?_⟩
      · have n1 : Rw ≠ L + 4 := nR (kS (mT (.tail _ (.head _)) : (L + 4, AO.cell tx) ∈ S))
        have n2 : D ≠ L + 4 := nD (kS (mT (.tail _ (.head _)) : (L + 4, AO.cell tx) ∈ S))
        rw [updO_cons_ne n1, updO_cons_ne n2, updO_ST (oG _ i4) (oW _ i4), up54]
        rfl
      have lnN : ((W.wn.filter (bK k)).map (·.2)).length ≤ 60 := by rw [List.length_map]; exact Nat.le_trans (List.length_filter_le _ _) (by omega)
      let nmL : List Str := srtS (dedup (W.namesOf k))
      have lnL : (nmL.map PyData.str).length ≤ 1000 := by
        rw [List.length_map, (srtS_perm _).length_eq]
        have := dedup_len (W.namesOf k)
        unfold WW.namesOf at this
        rw [List.length_map] at this
        have := List.length_filter_le (fun p : Int × Str => decide (p.1 = k)) W.wn
        show (dedup (W.namesOf k)).length ≤ 1000
        unfold WW.namesOf
        omega
      refine TS.seq (ρ₁ := (("names", .d (.tuple (nmL.map .str))) :: ρ' : Vs)) (ω₁ := RW) (TX.assign (TE.bt1 (T := "tuple") (a := .d (.list (nmL.map .str))) (TE.builtin hc (by kernel_rfl) (by kernel_rfl) (by decide) rfl) (TE.bf1 (TE.builtin hc (by kernel_rfl) (by kernel_rfl) (by decide) rfl)
        (TE.bt1 (T := "set") (a := .d (.list (((W.wn.filter (bK k)).map (·.2)).map .str))) (TE.builtin hc (by kernel_rfl) (by kernel_rfl) (by decide) rfl)
          (TE.to (TE.compP (α := Int × Str) (la := W.ln) W.wn (fun t => .int t.1) (fun t => .str t.2) (bK k) hc (.tail _ (.tail _ (mW W.m_ln))) ⟨rfl, by decide +kernel, rfl, by decide +kernel, fun _ => rfl⟩
            (fun ω' tr => W.f_names (TE.cell (.inl rfl) rfl (tr _ (.tail _ (.tail _ m2)) (nW' i2 (Wk_ln W)))) (tr _ (.tail _ (.tail _ (mW W.m_d))) N.h0.2.1)) (by omega) (fun C => rfl) (fun C => rfl) (by decide)
            (fun ω' tr C ρ'' t ht => TT.cmp (TE.name rfl) (TE.cell (.inl rfl) rfl (tr _ (.tail _ (.tail _ m4)) (nW' i4 (Wk_ln W)))) (OpR.eqI _ _))) (by rw [List.map_map]; rfl))
          (CB.set sS (ks := (W.wn.filter (bK k)).map (·.2)) hc (by omega) ⟨rfl, rfl⟩))
        (CB.sorted sS (ks := dedup ((W.wn.filter (bK k)).map (·.2))) hc (.inr (.inr ⟨_, rfl, fun o h => h⟩)) (Nat.lt_of_le_of_lt (dedup_len _) (by omega)) ⟨rfl, rfl⟩))
        (CB.tuple (ds := nmL.map .str) (.inl ⟨_, rfl, rfl⟩) lnL ⟨rfl, rfl⟩)) rfl) ?_
      refine TS.seq (ρ₁ := (("many", dI (W.sumOf k)) :: ("names", .d (.tuple (nmL.map .str))) :: ρ' : Vs)) (ω₁ := RW) (TX.assign (TE.bf1 (a := .d (.list (((W.ws.filter (bM k)).map (·.2)).map .int))) (TE.builtin hc (by kernel_rfl) (by kernel_rfl) (by decide) rfl)
        (TE.to (TE.compP (α := Int × Int) (la := W.ls) W.ws (fun t => .int t.1) (fun t => .int t.2) (bM k) hc (.tail _ (.tail _ (mW W.m_ls))) ⟨rfl, by decide +kernel, rfl, by decide +kernel, fun _ => rfl⟩
          (fun ω' tr => W.f_spent (TE.cell (.inl rfl) rfl (tr _ (.tail _ (.tail _ m2)) (nW' i2 (Wk_ls W)))) (tr _ (.tail _ (.tail _ (mW W.m_d))) N.h0.2.2.1)) (by omega) (fun C => rfl) (fun C => rfl) (by decide)
          (fun ω' tr C ρ'' t ht => TT.cmp (TE.name rfl) (TE.cell (.inl rfl) rfl (tr _ (.tail _ (.tail _ m4)) (nW' i4 (Wk_ls W)))) (OpR.eqI _ _))) (by rw [List.map_map]; rfl))
        (CB.sum (ns := (W.ws.filter (bM k)).map (·.2)) hc (.inl ⟨_, rfl, by simp [Function.comp_def]⟩) ⟨rfl, rfl⟩)) rfl) ?_
      refine TS.last ((TX.expr (a := dN) (TE.bm (TE.name (by show ρ'.lookup ("rows" : Str) = _; exact l1)) (GM.list (.inl (.head _)) PySem.F.slot_list_append ty_app) (TEs.cons (TE.tuple (ds := [.int k, .int (W.wh.count k : Int), .tuple (nmL.map .str), .int (W.sumOf k)]) (TEs.cons (TE.cell (.inl rfl) rfl (.tail _ (.tail _ m4)))
        (TEs.cons (TE.bm (W.f_holds (TE.cell (.inl rfl) rfl (.tail _ (.tail _ m2))) (.tail _ (.tail _ (mW W.m_d)))) (GM.list (.inl (.tail _ (.tail _ (mW W.m_lh)))) PySem.F.slot_list_count ty_count) (TEs.cons (TE.cell (.inl rfl) rfl (.tail _ (.tail _ m4))) TEs.nil) (CB.count (.inr ⟨_, rfl, .inl (.tail _ (.tail _ (mW W.m_lh)))⟩) ⟨rfl, rfl⟩))
          (TEs.cons (TE.name rfl) (TEs.cons (TE.name rfl) TEs.nil)))) (by simp)) TEs.nil) (CB.append (.head _) (by simp; omega) ⟨rfl, rfl⟩))).mono fun f r o h => ?_)
      obtain ⟨rfl, rfl, rfl⟩ := h
      refine ⟨rfl, some (dI k), ?_, l1, l2, l3⟩
      rw [updO_cons_eq, updO_cons_ne (Ne.symm nRD), updO_no _ (fun hm => by
        obtain ⟨q, hq, e⟩ := List.mem_map.mp hm
        exact hR (e ▸ List.mem_cons_of_mem _ (kR hq)))]
      have e : W.live.take (i + 1) = W.live.take i ++ [k] := by rw [List.take_succ, hk]; rfl
      rw [e, List.map_append, List.map_append]
      rfl
    · obtain ⟨_, tx', e, l1, l2, l3⟩ := h
      refine ⟨tx', ?_, l1, l2, l3⟩
      rw [List.length_map, List.length_map, List.take_length] at e
      exact e
    obtain ⟨_, tx', rfl, l1, l2, l3⟩ := h
    let wholeD : PyData := .tuple [.int W.la, oI W.sy, oI W.cl, .int W.op, .tuple (W.live.map (Rel.rowW W)), .tuple (W.wt.map pI)]
    let q1 : Addr × AO := (Rw, AO.list ((W.live.map (Rel.rowW W)).map .d))
    let q2 : Addr × AO := (D, dA)
    refine TS.seq (ρ₁ := (("whole", .d wholeD) :: r2 : Vs)) (ω₁ := q1 :: q2 :: SL tx') (TX.assign (TE.tuple (ds := [.int W.la, oI W.sy, oI W.cl, .int W.op, .tuple (W.live.map (Rel.rowW W)), .tuple (W.wt.map pI)]) (TEs.cons (TE.cell (.inl rfl) rfl (.tail _ (.tail _ m3))) (TEs.cons (W.f_syncing (TE.cell (.inl rfl) rfl (.tail _ (.tail _ m2))) (.tail _ (.tail _ (mW W.m_d)))) (TEs.cons (W.f_closing (TE.cell (.inl rfl) rfl (.tail _ (.tail _ m2))) (.tail _ (.tail _ (mW W.m_d)))) (TEs.cons (W.f_open (TE.cell (.inl rfl) rfl (.tail _ (.tail _ m2))) (.tail _ (.tail _ (mW W.m_d))))
      (TEs.cons (TE.bt1 (T := "tuple") (a := vR Rw) (TE.builtin hc (by kernel_rfl) (by kernel_rfl) (by decide) rfl) (TE.name l1) (CB.tuple (ds := W.live.map (Rel.rowW W)) (.inr ⟨Rw, rfl, .inl (.head _)⟩) (by simp; omega) ⟨rfl, rfl⟩))
        (TEs.cons (TE.bt1 (T := "tuple") (a := vR W.lw) (TE.builtin hc (by kernel_rfl) (by kernel_rfl) (by decide) rfl) (W.f_tickets (TE.cell (.inl rfl) rfl (.tail _ (.tail _ m2))) (.tail _ (.tail _ (mW W.m_d)))) (CB.tuple (ds := W.wt.map pI) (.inr ⟨W.lw, rfl, .inl (.tail _ (.tail _ (mW (by rw [List.map_map]; exact W.m_lw))))⟩) (by simp; omega) ⟨rfl, rfl⟩)) TEs.nil)))))) (by simp)) rfl) ?_
    have niceR : ∀ k, Nice (Rel.rowW W k) 2 := fun k => Nice.tuple (nice_cons (Nice.int _ _) (nice_cons (Nice.int _ _) (nice_cons (Nice.tuple (names_ok R fun p => decide (p.1 = k))) (nice_cons (Nice.int _ _) nice_nil))))
    have niceW : Nice wholeD 4 := Nice.tuple (nice_cons (Nice.int _ _) (nice_cons (Nice.oI _ _) (nice_cons (Nice.oI _ _) (nice_cons (Nice.int _ _) (nice_cons (Nice.tuple fun d hd => by
      obtain ⟨k, _, rfl⟩ := List.mem_map.mp hd
      exact niceR k) (nice_cons (Nice.le (n := 2) (Nice.tuple fun d hd => by
      obtain ⟨t, _, rfl⟩ := List.mem_map.mp hd
      exact Nice.tuple (nice_cons (Nice.int _ _) (nice_cons (Nice.int _ _) nice_nil))) (by omega)) nice_nil))))))
    have niceD : Nice (.list dueL) 2 := Nice.list (nice_cons (Nice.int _ _) (nice_cons (Nice.int _ _) (nice_cons (Nice.bool _ _) (nice_cons (Nice.bool _ _) (nice_cons (Nice.list fun d hd => by
      obtain ⟨k, _, rfl⟩ := List.mem_map.mp hd
      exact Nice.int _ _) nice_nil)))))
    have hks : ∀ k, (getP G.holds k).isSome = true → (getP G.spent k).isSome = true := fun k h => getP_isSome (by
      rw [R.ks, ← R.kh]
      exact Classical.byContradiction fun hn => by rw [getP_out hn] at h; cases h)
    have pG : ([q1, q2] ++ (G.os ++ (W.os ++ (C5 L (some (.d (.list (lvL.map .str)))) tx' (some (dI W.la)) W.d G.g)))).Perm (G.os ++ ([q1, q2] ++ (W.os ++ (C5 L (some (.d (.list (lvL.map .str)))) tx' (some (dI W.la)) W.d G.g)))) := List.perm_append_comm_assoc _ _ _
    refine TS.seq (ρ₁ := (("whole", .d wholeD) :: r2 : Vs)) (ω₁ := q1 :: q2 :: SL tx') (TX.cond (x := false) (TT.conseq (TT.cmp (TE.to (TV.e (TV.callM0 (pl := _) (rest := [q1, q2] ++ (W.os ++ (C5 L (some (.d (.list (lvL.map .str)))) tx' (some (dI W.la)) W.d G.g))) hc (TE.cell (.inl rfl) rfl (.tail _ (.tail _ m1))) (.tail _ (.tail _ (mG G.in_os.1))) (.tail _ (.tail _ (mG G.in_os.2))) rfl (by kernel_rfl) (by kernel_rfl) (plain_cv (by omega) G (by omega) hks zD (by omega)) pG (ph_to pG.symm))) (b := .d wholeD) (by rw [R.plain])) (TE.name rfl) (OpR.neD (n := 4) (m := 4) hc niceW niceW (by omega) (by omega) (by omega))) (by rw [niceW.refl]; rfl)) (fun h => nomatch h) (fun _ => TS.nil ⟨rfl, rfl, rfl⟩)) ?_
    let inL : Str → Bool := fun x => lvL.any (· == x)
    let ansL : List PyData := ("abcd" : Str).cps.toList.map fun ch => .bool (inL ⟨#[ch]⟩)
    have niceA : Nice (.list ansL) 1 := Nice.list fun d hd => by
      obtain ⟨ch, _, rfl⟩ := List.mem_map.mp hd
      exact Nice.bool _ _
    have eA : (("abcd" : Str).cps.toList.map fun ch => some (PyData.bool (inL ⟨#[ch]⟩))).filterMap _root_.id = ansL := by
      rw [List.filterMap_map]
      simp [Function.comp_def, ansL]
    have p1 : (G.os ++ (W.os ++ (C5 L (some (.d (.list (lvL.map .str)))) tx' (some (dI W.la)) W.d G.g))).Perm ((C5 L (some (.d (.list (lvL.map .str)))) tx' (some (dI W.la)) W.d G.g) ++ (G.os ++ W.os)) := by
      rw [← List.append_assoc]
      exact List.perm_append_comm
    refine TS.last (TX.ret (a := dB true) (TE.and2 (b₁ := true) (b₂ := true) (TE.to (TE.cmp (TE.name (by show r2.lookup ("told" : Str) = _; exact l2)) (TE.name (by show r2.lookup ("due" : Str) = _; exact l3)) (OpR.eqX (n := 2) (m := 2) hc (.inl rfl) (DataOf.own (ds := dueL) (.inl (.tail _ (.head _)))) niceD niceD (by omega) (by omega) (by omega))) (by rw [niceD.refl]))
      (fun _ => TE.to (TE.cmp (a := .d (.list ansL)) (b := .d (.list ansL))
        (TE.to (TE.comp _ (("abcd" : Str).cps.toList.map fun ch => some (PyData.bool (inL ⟨#[ch]⟩))) (fun a => [("name", a)]) hc ⟨rfl, by decide +kernel, rfl, by decide +kernel, fun _ => rfl⟩ (TE.const_str _ _ _) (SRC.str hc) (by simp) (by decide +kernel) (fun C ρ' a h => TA.name rfl) (fun C ρ' i a o' h1 h2 => ?_)) (by rw [eA]))
        (TE.to (TE.comp _ (("abcd" : Str).cps.toList.map fun ch => some (PyData.bool (inL ⟨#[ch]⟩))) (fun a => [("name", a)]) hc ⟨rfl, by decide +kernel, rfl, by decide +kernel, fun _ => rfl⟩ (TE.const_str _ _ _) (SRC.str hc) (by simp) (by decide +kernel) (fun C ρ' a h => TA.name rfl) (fun C ρ' i a o' h1 h2 => ?_)) (by rw [eA]))
        (OpR.eqD (n := 1) (m := 1) hc niceA niceA (by omega) (by omega) (by omega))) (by rw [niceA.refl]))) (Fin.perm (q1 :: q2 :: (C5 L (some (.d (.list (lvL.map .str)))) tx' (some (dI W.la)) W.d G.g)) ⟨rfl, rfl⟩ (p1.append_left [q1, q2])))
    · rw [List.getElem?_map] at h1 h2
      obtain ⟨ch, hch, rfl⟩ := Option.map_eq_some_iff.mp h1
      rw [hch] at h2
      cases h2
      exact ⟨_, rfl, TE.to (TV.e (TV.callM (pl := _) (ωf := G.os) (rest := [q1, q2] ++ (W.os ++ (C5 L (some (.d (.list (lvL.map .str)))) tx' (some (dI W.la)) W.d G.g))) hc (TE.cell (.inl rfl) rfl (.tail _ (.tail _ m1))) (.tail _ (.tail _ (mG G.in_os.1))) (.tail _ (.tail _ (mG G.in_os.2))) rfl (by kernel_rfl) (by kernel_rfl) (TEs.cons (TE.name rfl) TEs.nil) (isdirty_cv (by omega) G _ nN (by omega)) pG (ph_to pG.symm))) (congrArg dB (R.is_dirty _))⟩
    · rw [List.getElem?_map] at h1 h2
      obtain ⟨ch, hch, rfl⟩ := Option.map_eq_some_iff.mp h1
      rw [hch] at h2
      cases h2
      exact ⟨_, rfl, TE.cmp (TE.name rfl) (TE.cell (.inl rfl) rfl (.tail _ (.tail _ m5))) (OpR.inS (.inl ⟨_, rfl, by simp [Function.comp_def]⟩))⟩
end Mine
set_option Elab.async false
set_option maxRecDepth 100000
set_option linter.unusedVariables false
namespace Mine
open PySem PySem.W PySem.Calls PyProof.Rows PySem.Spec PyProof.Rows.LCg
/-- a test after which the owned things are one of many -/
noncomputable def TTX (c : Cx) (env : Env) (ρ : Vs) (ω : Os) (e : Expr) (Ω : Os → Prop) (b : Bool) : Prop :=
  ∀ (I : Heap) (mu : Led) (s : Shared) (Q : Bool → Shared → Prop) (E : Value → Shared → Prop), S c I mu s → Wd c env I ρ ω mu →
    (∀ ω' s' I' mu', Ω ω' → Go c env ρ ω ω' I mu I' mu' s' → Q b s') → wpAny (model prg c.w) c.A (isTrue e env (eval e env)) Q E s
section
variable {c : Cx} {env : Env} {ρ : Vs} {ω ω₁ : Os} {Ω Ω₁ Ω₂ : Os → Prop} {Φ Φ₁ : Os → Oc → Prop} {Ψ : Fl → Vs → Os → Prop}
theorem TTX.of {e : Expr} {b : Bool} (h : TT c env ρ ω e ω₁ b) (hΩ : Ω ω₁) : TTX c env ρ ω e Ω b := fun I mu s Q E X W k => h I mu s Q E X W fun s' I' mu' g => k _ _ _ _ hΩ g
theorem TTX.not {e : Expr} {p : Pos} {b : Bool} (h : TTX c env ρ ω e Ω b) : TTX c env ρ ω (.UnaryOp .Not e p) Ω (!b) := fun I mu s Q E X W k =>
  isTrue_not (h I mu s _ _ X W fun ω' s' I' mu' o g => k _ _ _ _ o g)
theorem TTX.val {e : Expr} {b : Bool} (h : TV c env ρ ω e Φ) (hp : ∀ o a, Φ o a → a = .val (dB b) ∧ Ω o) (he : ∀ whole, isTrue e env whole = (do let v ← whole; standAt e.pos; holding [v] (truthy v)) := by intro _; rfl) : TTX c env ρ ω e Ω b := fun I mu s Q E X W k =>
  isTrue_plain (h I mu s _ _ X W ⟨fun v a o s' I' mu' g r p => by
    obtain ⟨e, ho⟩ := hp _ _ p
    cases e
    cases r.bool
    exact wpAny_truthy_bool (k _ _ _ _ ho g), fun e C o s₂ I₂ mu₂ g₂ x p => nomatch (hp _ _ p).1⟩) (he _)
theorem TTX.or2 {e₁ e₂ : Expr} {p : Pos} {b₂ : Bool} (h1 : TTX c env ρ ω e₁ Ω₁ false) (h2 : ∀ o, Ω₁ o → TTX c env ρ o e₂ Ω₂ b₂) : TTX c env ρ ω (.BoolOp .Or [e₁, e₂] p) Ω₂ b₂ := fun I mu s Q E X W k => by
  refine isTrue_or (h1 I mu s _ _ X W fun ω' s' I' mu' o g => ?_)
  exact isTrue_or (h2 _ o _ _ _ _ _ g.st g.wd fun ω'' s'' I'' mu'' o' g' => by
      cases b₂ with
      | true => exact k _ _ _ _ o' (g.trans g')
      | false => exact isTrue_or_nil (k _ _ _ _ o' (g.trans g')))
theorem TX.condX {t : Expr} {b o : List Stmt} {p : Pos} (ht : TTX c env ρ ω t Ω false) (h : ∀ ω', Ω ω' → TS c env ρ ω' o Ψ) : TX c env ρ ω (.If t b o p) Ψ := fun I mu s Q E X W k => by
  refine wpAny_If (ht I mu s _ _ X W fun ω' s' I' mu' o g => ?_)
  exact h _ o _ _ _ _ _ g.st g.wd (k.after g.toS)
theorem TV.attr {e : Expr} {x : Str} {p : Pos} {C lv : Nat} (hc : c.Ok lv) (h : TV c env ρ ω e Φ₁) (hx : ∀ o E, ¬ Φ₁ o (.exc E)) (hg : ∀ o a, Φ₁ o (.val a) → ∃ (g dx n : Nat) (fs : List (Str × AV)) (av : AV), a = vR g ∧ (g, AO.raw (instObj C dx)) ∈ o ∧ (dx, AO.ns n fs) ∈ o ∧ fs.lookup x = some av ∧ (∀ y, av = .v y → handedIn y = true) ∧ Φ o (.val av))
    (hk : fldIn (KK c.w) C x = true) (hb : ∀ whole, attributeBase e x env whole = whole := by intro _; rfl) : TV c env ρ ω (.Attribute e x p) Φ := fun I mu s Q E X W q => by
  rw [arm_eval_Attribute, hb]
  refine wpAny_bind (h I mu s _ _ X W ⟨fun o a o₁ s₁ I₁ mu₁ g₁ r₁ p₁ => ?_, fun e C o s₂ I₂ mu₂ g₂ x p => (hx _ _ p).elim⟩)
  obtain ⟨g, dx, n, fs, av, rfl, hg', hd, hl, hv, pp⟩ := hg _ _ p₁
  have r₁ : o = .ref g := r₁
  subst r₁
  obtain ⟨es, ep, IA, -, -, k4, k5⟩ := inst_at g₁.st g₁.wd hg' hd
  have z := k5 x
  rw [hl] at z
  obtain ⟨v, hv1, hv2⟩ := z
  obtain ⟨hk, hk3⟩ := Bool.and_eq_true_iff.mp hk
  obtain ⟨hk1, hk2⟩ := Bool.and_eq_true_iff.mp hk
  split at hk3
  · rename_i attr ha
    refine wpAny_bind (wpAny_standAt (wpAny_bind (wpAny_holding ?_)))
    refine get_value (K := KK c.w) (g₁.st.kin hc) IA (plainGet_of hk1).1 (findObj_own hk2 ha hk3 ((nsFind_lookIn rfl k4).trans (congrArg some hv1))) (handed_of hv2 hv) ?_
    exact wpAny_bind (letgo (wpAny_pure (q.on _ _ _ _ _ _ (g₁.trans (Go.toks g₁.st g₁.wd)) hv2 pp)))
  · cases hk3
theorem TTX.neI {l : Expr} {i : Int} {k : Nat} {p p' : Pos} (hl : TV c env ρ ω l Φ) (hp : ∀ o a, Φ o a → a = .val (dI i) ∧ Ω o) (hm : behindInMarks .NotEq (.Constant (.int i) k p') = false := by rfl) :
    TTX c env ρ ω (.Compare l [.NotEq] [.Constant (.int i) k p'] p) Ω false := fun I mu s Q E X W h =>
  wpAny_isTrue_Compare1 (hl I mu s _ _ X W ⟨fun u a o s₁ I₁ mu₁ g₁ r₁ p₁ => by
    obtain ⟨e, ho⟩ := hp _ _ p₁
    cases e
    exact TE.const_int i k p' I₁ mu₁ s₁ _ _ g₁.st g₁.wd fun v s₂ I₂ mu₂ g₂ r₂ =>
      OpR.neI i i _ _ _ _ _ _ _ g₂.st g₂.wd (r₁.mono g₂.le) r₂ fun s₃ I₃ mu₃ g₃ => wpAny_truthy_bool (by
        have := h _ _ _ _ ho ((g₁.trans g₂).trans g₃)
        simpa using this), fun e C o s₂ I₂ mu₂ g₂ x p => nomatch (hp _ _ p).1⟩) hm
end
theorem rel0 (g dx dh dn ds lt b d lh ln ls lw : Addr) (first : Int) (lim : Option Int) (h1 : 0 ≤ first) (h2 : first ≤ 10) :
    Rel (GG.init g dx dh dn ds lt b first lim) ⟨d, lh, ln, ls, lw, first, none, none, first - 1, lim, 0, [], [], [], []⟩ 0 := by
  have one : ∀ k ∈ WW.live ⟨d, lh, ln, ls, lw, first, none, none, first - 1, lim, 0, [], [], [], []⟩, k = first := fun k hk => List.mem_singleton.mp hk
  refine { op := rfl, cl := rfl, sy := rfl, la := rfl, lim := rfl, nt := rfl, tick := rfl, kh := rfl, kn := rfl, ks := rfl, vh := fun k hk => ?_, vn := fun k hk => ?_, vs := fun k hk => ?_, up := List.pairwise_singleton _ _, lo := fun k hk => ?_, hw := nofun, nw := nofun, sw := nofun, zh := Nat.le_refl _, zn := Nat.le_refl _, zs := Nat.le_refl _, zt := Nat.le_refl _, bd := ⟨h1, by show first ≤ 10 + ((0 : Nat) : Int); omega⟩, ok := nofun }
  · rw [one k hk]; simp [GG.init, getP]
  · rw [one k hk]; exact ⟨b, by simp [GG.init, getP]; rfl⟩
  · rw [one k hk]; simp [GG.init, getP, WW.sumOf]
  · rw [one k hk]; show first - 1 < first; omega
end Mine
set_option Elab.async false
set_option maxRecDepth 100000
set_option linter.unusedVariables false
namespace Mine
open PySem PySem.W PySem.Calls PyProof.Rows PySem.Spec PyProof.Rows.LCg
noncomputable def limOf (k : Int) : Option Int := if k = 0 then none else if k = 1 then some 0 else if k = 2 then some 6 else some 13
noncomputable def keys4 : List Str := ["holds", "names", "spent", "tickets"]
noncomputable def fsL (first : Int) (lim : Option Int) (ls : List Addr) : List (Str × AV) := ([("open", dI first), ("closing", dN), ("syncing", dN), ("last", dI (first - 1)), ("limit", .d (oI lim)), ("given", dI 0)] : List (Str × AV)) ++ keys4.zip (ls.map vR)
theorem fsL_step (first : Int) (lim : Option Int) (ls : List Addr) (l : Addr) (k : Str) (h : keys4[ls.length]? = some k) : storedA (fsL first lim ls) k (vR l) = fsL first lim (ls ++ [l]) := by
  match ls, h with
  | [], h => cases h; rfl
  | [a], h => cases h; rfl
  | [a, b], h => cases h; rfl
  | [a, b, d], h => cases h; rfl
  | a :: b :: d :: e :: r, h => simp [keys4] at h
noncomputable def preL (ls : List Addr) : Os := ls.map fun l => (l, AO.list [])
theorem upL {d : Addr} {v w : AO} {P B : Os} (n : (keys (P ++ (d, w) :: B)).Nodup) : updO d v (P ++ (d, w) :: B) = P ++ (d, v) :: B := by
  rw [keys_append] at n
  obtain ⟨-, n2, n3⟩ := List.nodup_append.mp n
  rw [updO_app, updO_cons_eq, updO_no _ (fun h => n3 _ h _ (.head _) rfl), updO_no _ (List.nodup_cons.mp n2).1]
theorem noE (G : GG) (W : WW) (X : GG) {b : Addr} {o : Obj} {a : AO} (h : (b, AO.exact o a) ∈ ST G W ((259, tabA qL) :: X.os)) : False := by
  rcases List.mem_append.mp h with h | h
  · exact no_exact G h
  · rcases List.mem_append.mp h with h | h
    · simp [WW.os, os5] at h
    · rcases List.mem_cons.mp h with h | h
      · injection h with _ h
        cases h
      · exact no_exact X h
noncomputable abbrev lawScope : Scope := match topS 17 with | .FunctionDef _ _ _ _ _ _ scope _ _ _ => scope | _ => default
noncomputable abbrev lawBody : List Stmt := match topS 17 with | .FunctionDef _ _ body _ _ _ _ _ _ _ => body | _ => []
set_option maxHeartbeats 8000000 in
theorem law_body {c : Cx} {lv : Nat} {L : Addr} (hlv : lv ≤ 5) (hc : c.Ok (lv + 1)) (ns : List Int) (hn : ns.length ≤ 1000) :
    TS c (envX "law" lawScope L 281 (.ref 280) []) ([("script", .d (.list (ns.map .int)))] : Vs) [(259, tabA qL)] lawBody (Fin (fun o a => a = .val (dB true) ∧ (259, tabA qL) ∈ o)) := by
  let m : List Int := ns.take 63
  have hm : m.length ≤ 63 := by show (ns.take 63).length ≤ 63; rw [List.length_take]; omega
  let T : Os := [(259, tabA qL)]
  let first : Int := 1 + Int.fmod m.sum 4
  let k4 : Int := Int.fmod (m.length : Int) 4
  have e4 : k4 = (m.length : Int) % 4 := Int.fmod_eq_emod_of_nonneg _ (by decide)
  have e1 : first = 1 + m.sum % 4 := congrArg (1 + ·) (Int.fmod_eq_emod_of_nonneg _ (by decide))
  let lim : Option Int := limOf k4
  refine TS.seq (ρ₁ := (("script", .d (.list (m.map .int))) :: (("script" : Str), AV.d (.list (ns.map .int))) :: [] : Vs)) (ω₁ := T) (TX.assign (TE.sliceI (TE.name rfl) (by omega) hn) rfl) ?_
  have hk4 : k4 = 0 ∨ k4 = 1 ∨ k4 = 2 ∨ k4 = 3 := by omega
  let ρ0 : Vs := (("first", dI first) :: ("limit", .d (oI lim)) :: ("script", .d (.list (m.map .int))) :: (("script" : Str), AV.d (.list (ns.map .int))) :: [] : Vs)
  refine TS.seq (ρ₁ := ρ0) (ω₁ := T) (TX.assign2s (a₁ := dI first) (a₂ := .d (oI lim)) hc (TE.add (TE.const_int 1 _ _) (TE.mod (TE.bf1 (TE.builtin hc (by kernel_rfl) (by kernel_rfl) (by decide) rfl) (TE.name rfl) (CB.sum (ns := m) hc (.inl ⟨_, rfl, by simp [Function.comp_def]⟩) ⟨rfl, rfl⟩)) (TE.const_int 4 _ _) (by decide)))
    (TE.itemL (k := k4) (TE.list (ds := [.none, .int 0, .int 6, .int 13]) (TEs.cons (TE.const_none _ _) (TEs.cons (TE.const_int 0 _ _) (TEs.cons (TE.const_int 6 _ _) (TEs.cons (TE.const_int 13 _ _) TEs.nil)))) (by simp)) (TE.mod (TE.bf1 (TE.builtin hc (by kernel_rfl) (by kernel_rfl) (by decide) rfl) (TE.name rfl) (CB.len (lv := lv + 1) (xs := m.map dI) (.inl ⟨_, rfl, by simp [Function.comp_def]⟩) (by rw [List.length_map]; omega) ⟨rfl, by rw [List.length_map]⟩)) (TE.const_int 4 _ _) (by decide)) (by omega) ?_ (by omega)) rfl rfl) ?_
  · rcases hk4 with h | h | h | h <;> simp only [lim, h] <;> rfl
  have f1 : 0 ≤ first := by omega
  have f2 : first ≤ 10 := by omega
  refine TS.cons (Ψ₁ := fun f r o => f = .next ∧ ∃ g dx dh dn ds lt b, r = (("groups", vR g) :: ρ0 : Vs) ∧ o = (GG.init g dx dh dn ds lt b first lim).os ++ T)
    (TX.assignV (Φ := fun o a => ∃ g dx dh dn ds lt b, a = .val (vR g) ∧ o = (GG.init g dx dh dn ds lt b first lim).os ++ T) (TV.cls (Φ₀ := fun x dx => PhI x dx first lim) hc (TE.global hc (by kernel_rfl) rfl) (TEs.cons (TE.name rfl) (TEs.cons (TE.name rfl) TEs.nil)) (by kernel_rfl) (by kernel_rfl) (by kernel_rfl) (by kernel_rfl) (fun x dx h => init_cv (by omega) x dx h first lim)
      (fun x dx o a h => by
        obtain ⟨rfl, dh, dn, ds, lt, b, rfl⟩ := h
        exact ⟨rfl, x, dx, dh, dn, ds, lt, b, rfl, rfl⟩)) rfl (fun o a h => by
        obtain ⟨g, dx, dh, dn, ds, lt, b, h, rfl⟩ := h
        cases h
        exact ⟨rfl, g, dx, dh, dn, ds, lt, b, rfl, rfl⟩) (fun o C h => by obtain ⟨_, _, _, _, _, _, _, h, _⟩ := h; cases h)) (fun r o h => ?_) (fun a r o h => nomatch h.1) (fun C r o h => nomatch h.1)
  obtain ⟨_, g, dx, dh, dn, ds, lt, b, rfl, rfl⟩ := h
  let G : GG := GG.init g dx dh dn ds lt b first lim
  refine TS.cons (Ψ₁ := fun f r o => f = .next ∧ ∃ d, d ∉ keys (G.os ++ T) ∧ r = (("world", vR d) :: ("groups", vR g) :: ρ0 : Vs) ∧ o = (d, AO.sdict (fsL first lim [])) :: (G.os ++ T))
    (TX.assignV (Φ := fun o a => ∃ d, d ∉ keys (G.os ++ T) ∧ a = .val (vR d) ∧ o = (d, AO.sdict (fsL first lim [])) :: (G.os ++ T)) (TV.dictN kS hc rfl rfl (by simp) (by simp) fun d hd =>
      TP.cons1 (key := ("open" : Str)) (TE.const_str _ _ _) (TE.name rfl) (TP.cons1 (key := ("closing" : Str)) (TE.const_str _ _ _) (TE.const_none _ _) (TP.cons1 (key := ("syncing" : Str)) (TE.const_str _ _ _) (TE.const_none _ _) (TP.cons1 (key := ("last" : Str)) (TE.const_str _ _ _) (TE.sub (TE.name rfl) (TE.const_int 1 _ _)) (TP.cons1 (key := ("limit" : Str)) (TE.const_str _ _ _) (TE.name rfl) (TP.cons1 (key := ("given" : Str)) (TE.const_str _ _ _) (TE.const_int 0 _ _)
        (TP.nil ⟨.head _, d, hd, rfl, by rw [updO_cons_eq, updO_no _ hd]; rfl⟩))))))) rfl (fun o a h => by
        obtain ⟨d, hd, h, rfl⟩ := h
        cases h
        exact ⟨rfl, d, hd, rfl, rfl⟩) (fun o C h => by obtain ⟨_, _, h, _⟩ := h; cases h)) (fun r o h => ?_) (fun a r o h => nomatch h.1) (fun C r o h => nomatch h.1)
  obtain ⟨_, d, hd, rfl, rfl⟩ := h
  refine TS.cons (Ψ₁ := fun f ρ' ω' => f = .next ∧ ∃ ls : List Addr, ls.length = 4 ∧ ω' = preL ls.reverse ++ (d, AO.sdict (fsL first lim ls)) :: (G.os ++ T) ∧ ρ'.lookup ("world" : Str) = some (vR d) ∧ ρ'.lookup ("groups" : Str) = some (vR g) ∧ ρ'.lookup ("script" : Str) = some (.d (.list (m.map .int))))
    ((TX.forB (av := .d (.tuple (keys4.map .str))) (as := (keys4.map PyData.str).map .d) (fun i ρ' ω' => ∃ ls : List Addr, ls.length = i ∧ ω' = preL ls.reverse ++ (d, AO.sdict (fsL first lim ls)) :: (G.os ++ T) ∧ ρ'.lookup ("world" : Str) = some (vR d) ∧ ρ'.lookup ("groups" : Str) = some (vR g) ∧ ρ'.lookup ("script" : Str) = some (.d (.list (m.map .int)))) hc
      (TE.tuple (ds := keys4.map .str) (TEs.cons (TE.const_str _ _ _) (TEs.cons (TE.const_str _ _ _) (TEs.cons (TE.const_str _ _ _) (TEs.cons (TE.const_str _ _ _) TEs.nil)))) (by simp [keys4])) (SRC.dtuple hc) ⟨[], rfl, rfl, rfl, rfl, rfl⟩ (fun i ρ' ω' h b o a hx => ?_) (fun i a ρ' ω' ha h => ?_)).mono fun f r o h => h) (fun r o h => ?_) (fun a r o h => nomatch h.1) (fun C r o h => nomatch h.1)
  · rcases List.mem_cons.mp hx with h | hx
    · injection h with _ h
      cases h
    · rcases List.mem_append.mp hx with h | h
      · exact (no_exact G h).elim
      · rcases List.mem_singleton.mp h with h
        injection h with _ h
        cases h
  · obtain ⟨ls, hl, rfl, l1, l2, l3⟩ := h
    rw [List.map_map, List.getElem?_map] at ha
    obtain ⟨k, hk, rfl⟩ := Option.map_eq_some_iff.mp ha
    rw [← hl] at hk
    refine ⟨_, _, TB.name rfl, TS.nd fun nd => ?_⟩
    refine TS.last (TX.setsubV (Φ := fun o a => ∃ l, l ∉ keys (preL ls.reverse ++ (d, AO.sdict (fsL first lim ls)) :: (G.os ++ T)) ∧ o = (l, AO.list []) :: (preL ls.reverse ++ (d, AO.sdict (fsL first lim ls)) :: (G.os ++ T)) ∧ a = .val (vR l)) kS (TV.list0 hc fun l hl => ⟨l, hl, rfl, rfl⟩) (fun o C h => by obtain ⟨_, _, _, h⟩ := h; cases h) (fun o a h => ?_))
    obtain ⟨l, hl2, rfl, h⟩ := h
    cases h
    refine ⟨d, fsL first lim ls, k, _, _, TE.name (by show ρ'.lookup ("world" : Str) = _; exact l1), TE.name rfl, .tail _ (List.mem_append_right _ (.head _)), ?_, rfl, ls ++ [l], by rw [List.length_append, hl]; rfl, ?_, l1, l2, l3⟩
    · show (_ ++ _ : List (Str × AV)).length ≤ 1000
      rw [List.length_append, List.length_zip]
      show 6 + min 4 _ ≤ 1000
      omega
    · rw [fsL_step _ _ _ _ _ hk]
      have := upL (v := .sdict (fsL first lim (ls ++ [l]))) (P := (l, AO.list []) :: preL ls.reverse) (List.nodup_cons.mpr ⟨hl2, nd⟩)
      refine this.trans ?_
      rw [List.reverse_append]
      rfl
  obtain ⟨_, ls, hl, rfl, l1, l2, l3⟩ := h
  obtain ⟨la, lb, lc, le, rfl⟩ : ∃ a b c e, ls = [a, b, c, e] := by
    match ls, hl with
    | [a, b, c, e], _ => exact ⟨a, b, c, e, rfl⟩
  let W : WW := ⟨d, la, lb, lc, le, first, none, none, first - 1, lim, 0, [], [], [], []⟩
  have R : Rel G W 0 := rel0 g dx dh dn ds lt b d la lb lc le first lim f1 f2
  have pA : ∀ (G : GG) (W : WW) (Y : Os), (ST G W Y).Perm ((G.os ++ W.os) ++ Y) := fun G W Y => by
    unfold ST
    rw [List.append_assoc]
  refine TS.perm (ω' := ST G W T) ?_ ?_
  · refine TS.cons (Ψ₁ := fun f r' o => f = .next ∧ r' = r ∧ ∃ X : GG, o = X.os ++ ST G W T) (TX.condX (Ω := fun o => ∃ X : GG, o = X.os ++ ST G W T) (TTX.or2 (Ω₁ := fun o => o = ST G W T) (TTX.not (b := true) (TTX.val (Φ := Ph (ST G W T) (dB true)) (TV.callF (rest := T) hc (TE.global hc (by kernel_rfl) rfl) (TEs.cons (TE.name l2) (TEs.cons (TE.name l1) TEs.nil)) (by kernel_rfl) (is_same_cv (lv := lv + 1) (by omega) G W 0 (by omega) R) (pA G W T) (ph_to (pA G W T).symm)) (fun o a h => ⟨h.2, h.1⟩))) (fun o ho => ?_)) (fun ω' h => TS.nil ⟨rfl, rfl, h⟩)) (fun r' o h => ?_) (fun a r o h => nomatch h.1) (fun C r o h => nomatch h.1)
    · subst ho
      refine TTX.neI (i := 1) (Φ := fun o a => a = .val (dI 1) ∧ ∃ X : GG, o = X.os ++ ST G W T) (TV.attr (C := 206) (Φ₁ := fun o a => ∃ X : GG, X.op = 1 ∧ a = .val (vR X.g) ∧ o = X.os ++ ST G W T) hc (TV.cls0 (Φ₀ := fun x dx => PhI x dx 1 none) hc (TE.global hc (by kernel_rfl) rfl) (by kernel_rfl) (by kernel_rfl) (by kernel_rfl) (by kernel_rfl) (fun x dx h => init_cv0 (by omega) x dx h)
        (fun x dx o a h => ?_)) (fun o E h => by obtain ⟨_, _, h, _⟩ := h; cases h) (fun o a h => ?_) (fl_open _)) (fun o a h => h)
      · obtain ⟨rfl, dh, dn, ds, lt, b, rfl⟩ := h
        exact ⟨rfl, GG.init x dx dh dn ds lt b 1 none, rfl, rfl, rfl⟩
      · obtain ⟨X, h1, h2, rfl⟩ := h
        cases h2
        exact ⟨X.g, X.dx, _, X.fs, dI 1, rfl, List.mem_append_left _ X.in_os.1, List.mem_append_left _ X.in_os.2, by rw [← h1]; rfl, nofun, rfl, X, rfl⟩
    obtain ⟨_, rfl, X, rfl⟩ := h
    refine TS.perm (ω' := ST G W ((259, tabA qL) :: X.os)) ?_ ?_
    · refine TS.cons (Ψ₁ := fun f _ o => f = .next ∧ (259, tabA qL) ∈ o) ((TX.forB (av := .d (.list ((m.take 60).map .int))) (as := ((m.take 60).map .int).map .d) (fun i ρ' ω' => ρ'.lookup ("world" : Str) = some (vR d) ∧ ρ'.lookup ("groups" : Str) = some (vR g) ∧ ∃ G' W', Rel G' W' i ∧ G'.g = g ∧ W'.d = d ∧ ω' = ST G' W' ((259, tabA qL) :: X.os)) hc
        (TE.sliceI (ns := m) (TE.name l3) (by omega) (by omega)) (SRC.dlist hc) ⟨l1, l2, G, W, R, rfl, rfl, rfl⟩ (fun i ρ' ω' h b o a hx => (noE _ _ _ hx).elim) (fun i a ρ' ω' ha h => ?_)).mono fun f r o h => ⟨h.1, by
          obtain ⟨_, _, _, G1, W1, _, _, _, rfl⟩ := h
          exact List.mem_append_right _ (List.mem_append_right _ (.head _))⟩) (fun r o h => TS.last (TX.ret (TE.const_bool true _ _) (Fin.same ⟨rfl, h.2⟩))) (fun a r o h => nomatch h.1) (fun C r o h => nomatch h.1)
      obtain ⟨l1, l2, G', W', R', hg, hd', rfl⟩ := h
      rw [List.map_map, List.getElem?_map] at ha
      obtain ⟨k, hk, rfl⟩ := Option.map_eq_some_iff.mp ha
      have hi : i < 60 := by
        have := (List.getElem?_eq_some_iff.mp hk).1
        rw [List.length_take] at this
        omega
      refine ⟨_, _, TB.name rfl, ?_⟩
      have PD : ∀ (G' : GG) (W' : WW), (ST G' W' ((259, tabA qL) :: X.os)).Perm (ST G' W' [(259, tabA qL)] ++ X.os) := fun G' W' => by
        unfold ST
        simp only [List.append_assoc, List.cons_append, List.nil_append]
        exact .refl _
      refine TS.last (TX.condX (Ω := fun o => ∃ G1 W1, Rel G1 W1 (i + 1) ∧ G1.g = g ∧ W1.d = d ∧ o = ST G1 W1 ((259, tabA qL) :: X.os)) (TTX.or2 (Ω₁ := fun o => ∃ G1 W1, Rel G1 W1 (i + 1) ∧ G1.g = g ∧ W1.d = d ∧ o = ST G1 W1 ((259, tabA qL) :: X.os)) (TTX.not (b := true) (TTX.val (Φ := fun o a => a = .val (dB true) ∧ ∃ G1 W1, Rel G1 W1 (i + 1) ∧ G1.g = g ∧ W1.d = d ∧ o = ST G1 W1 ((259, tabA qL) :: X.os)) (TV.callF (rest := X.os) hc (TE.global hc (by kernel_rfl) rfl) (TEs.cons (TE.name (by show ρ'.lookup ("groups" : Str) = _; rw [hg]; exact l2)) (TEs.cons (TE.name (by show ρ'.lookup ("world" : Str) = _; rw [hd']; exact l1)) (TEs.cons (TE.name rfl) TEs.nil))) (by kernel_rfl) (done_right_cv (lv := lv + 1) (by omega) G' W' i (by omega) R' k) (PD G' W') (fun o a h => ?_)) (fun o a h => h))) (fun o ho => ?_)) (fun ω' h => TS.nil ⟨rfl, l1, l2, h⟩))
      · obtain ⟨ha, G1, W1, R1, e1, e2, rfl⟩ := h
        exact ⟨_, (PD G1 W1).symm, ha, G1, W1, R1, e1.trans hg, e2.trans hd', rfl⟩
      · obtain ⟨G1, W1, R1, e1, e2, rfl⟩ := ho
        exact TTX.not (b := true) (TTX.val (Φ := Ph (ST G1 W1 ((259, tabA qL) :: X.os)) (dB true)) (TV.callF (rest := (259, tabA qL) :: X.os) hc (TE.global hc (by kernel_rfl) rfl) (TEs.cons (TE.name (by show ρ'.lookup ("groups" : Str) = _; rw [e1]; exact l2)) (TEs.cons (TE.name (by show ρ'.lookup ("world" : Str) = _; rw [e2]; exact l1)) TEs.nil)) (by kernel_rfl) (is_same_cv (lv := lv + 1) (by omega) G1 W1 (i + 1) (by omega) R1) (pA G1 W1 _) (ph_to (pA G1 W1 _).symm)) (fun o a h => ⟨h.2, G1, W1, R1, e1, e2, h.1⟩))
    · refine List.perm_append_comm.trans ?_
      unfold ST
      simp only [List.append_assoc]
      exact .refl _
  · show (W.os.reverse ++ (G.os ++ T)).Perm (G.os ++ (W.os ++ T))
    exact (List.perm_append_comm_assoc W.os.reverse G.os T).trans ((List.Perm.append_right T (List.reverse_perm W.os)).append_left G.os)
end Mine
set_option Elab.async false
set_option maxRecDepth 100000
set_option linter.unusedVariables false
namespace Mine
open PySem PySem.W PySem.Calls PyProof.Rows PySem.Spec PyProof.Rows.LCg
theorem top_call {w : World} {s₁ : Shared} {f : Addr} {name qual : Str} {params : Arguments} {body : List Stmt} {scope : Scope} {dV kV doc pm cdv ct oc : Value} {an od : Option Addr} {osl : Array (Option Value)} {xs : List Str} {vals : List Value} {args : List AV}
    {mg mb : Str → Option Value} {R : Result → Shared → Prop} (KX : (KK w).In s₁.heap) (tp : Tp mg mb s₁.heap) (h259 : s₁.heap.get? 259 = some (tabO #[])) (k259 : (KK w).lookup 259 = none) (hg : s₁.gens = #[])
    (ho : (KK w).lookup f = some ⟨oc, od, .func (fnX name qual params body scope [] dV kV doc pm an cdv ct), osl⟩) (hcd : codeIn (KK w) cdv qual = true)
    (hbind : bindArgs (fnX name qual params body scope [] dV kV doc pm an cdv ct) ⟨vals, []⟩ = pure (xs.zip vals))
    (hloc : ∀ x ∈ xs, scope.names.lookup x = some .local) (hnd : xs.Nodup) (hcell : ∀ x ∈ scope.names, x.2 ≠ .cell) (hco : scope.isCoroutine = false) (hgen : scope.isGenerator = false) (hk : scope.kind = .function)
    (ra : All2 (Rv (hideAll s₁.heap [259])) vals args)
    (h : ∀ (c : Cx) (L : Addr), c.Ok 1 → TS c (envX qual scope L f cdv []) (xs.zip args) [(259, tabA qL)] body (Fin (fun o a => a = .val (dB true) ∧ (259, tabA qL) ∈ o)))
    (hR : ∀ s' : Shared, OldK s₁.heap s'.heap → s'.os = s₁.os → s'.gens = #[] → R (.ok (.ret (.bool true))) s') :
    codeAny (model prg w) callerA (.call (.ref f) ⟨vals, []⟩) R s₁ := by
  have hP : ∀ b o, s₁.heap.get? b = some o → b ≠ 259 → (hideAll s₁.heap [259]).get? b = some o := fun b o e n => hideAll_get _ e fun h => n (List.mem_singleton.mp h)
  have KG : (KK w).In (hideAll s₁.heap [259]) := fun a o e => hP _ _ (KX a o e) fun h => by rw [h, k259] at e; cases e
  have nsG : ∀ a m, a ≠ 259 → s₁.heap.Ns a m → (hideAll s₁.heap [259]).Ns a m := fun a m n ⟨o, es, ep, e, r⟩ => ⟨o, es, ep, hP _ _ e n, r⟩
  have tG : Tp mg mb (hideAll s₁.heap [259]) := ⟨nsG _ _ (by decide) tp.g, nsG _ _ (by decide) tp.b, let ⟨mc, a, b⟩ := tp.nolimit; ⟨mc, nsG _ _ (by decide) a, b⟩, tp.builtins, let ⟨bm, ob, a, b, c, d, e, f⟩ := tp.bmain
    ⟨bm, ob, a, b, hP _ _ c (fun h => by subst h; rw [h259] at c; cases c; cases d), d, e, f⟩⟩
  refine codeAny_call_def (fd := fnX name qual params body scope [] dV kV doc pm an cdv ct) (body := body) (binds := xs.zip vals) (by decide) (KX f _ ho) rfl tp.nolimit (codeRec_of KX hcd) rfl (BindsTo.of_eq hbind) hcell (fun y hy => hloc _ (List.of_mem_zip hy).1) (fun h₁ hns hk₁ => ?_) hco hgen hk
  have hfr : s₁.heap.get? s₁.heap.objs.size = none := Heap.get?_none_of_le (Nat.le_refl _)
  obtain ⟨oN, hN, nN⟩ := ns_obj hns
  have dN' : isDict oN := let ⟨es, ep, h, _⟩ := nN; ⟨es, ep, h⟩
  obtain ⟨L, eL⟩ : ∃ L, L = s₁.heap.objs.size := ⟨_, rfl⟩
  rw [← eL] at hfr hN
  have nL : L ≠ 259 := fun e => by rw [e, h259] at hfr; cases hfr
  let env : Env := envX qual scope L f cdv []
  let c : Cx := ⟨w, callerA.deeper env, env, [], [], hideAll s₁.heap [259], s₁.os, L⟩
  have big : 1 < L := by rw [eL]; exact modules_low tp.nolimit
  have X : S c (hideAll s₁.heap [259]) [(L, oN), (259, tabO #[])] { s₁ with heap := h₁, toks := s₁.toks + (xs.zip vals).length } := by
    refine ⟨HLe.refl _, fun b o e => hk₁ _ _ (of_hideAll _ e), fun p hp => ?_, fun p hp => ?_, ?_, ⟨oN, .head _, dN'⟩, fun p hp => (List.not_mem_nil (show p ∈ ([] : Led) from hp)).elim, hg, rfl, fun p hp => ?_⟩
    · rcases List.mem_cons.mp hp with rfl | hp
      · exact hN
      · rcases List.mem_singleton.mp hp with rfl
        exact hk₁ _ _ h259
    · rcases List.mem_cons.mp hp with rfl | hp
      · cases e : (hideAll s₁.heap [259]).get? L with
        | none => rfl
        | some o => rw [of_hideAll _ e] at hfr; cases hfr
      · rcases List.mem_singleton.mp hp with rfl
        exact hideAll_none _ (.head _)
    · exact List.nodup_cons.mpr ⟨fun h => nL (List.mem_singleton.mp h), List.nodup_cons.mpr ⟨nofun, List.nodup_nil⟩⟩
    · rcases List.mem_cons.mp hp with rfl | hp
      · exact big
      · rcases List.mem_singleton.mp hp with rfl
        decide
  have hc : c.Ok 1 := ⟨⟨KG, (), (), (), mg, mb, tG⟩, rfl, rfl, by show callerA.depth + 1 ≤ _; decide, by show callerA.units + 3 ≤ _; decide, hk, rfl, rfl, rfl, .nil⟩
  have W : Wd c env (hideAll s₁.heap [259]) (xs.zip args) [(259, tabA qL)] [(L, oN), (259, tabO #[])] := by
    refine ⟨⟨hk, rfl, rfl, rfl⟩, fun x av e => ?_, ⟨oN, _, .head _, nN⟩, fun q hq => ?_, fun q hq => ?_, by simp [keys]⟩
    · obtain ⟨v, h1, h2⟩ := lookup_rev hnd ra x av e
      refine ⟨v, ⟨hloc x ?_, oN, _, .head _, nN, h1⟩, h2⟩
      obtain ⟨b, hb⟩ : ∃ b, (x, b) ∈ xs.zip args := ⟨_, mem_of_lookup e⟩
      exact (List.of_mem_zip hb).1
    · rcases List.mem_singleton.mp hq with rfl
      exact ⟨_, .tail _ (.head _), #[], rfl, by trivial, fun _ _ h => by cases h⟩
    · rcases List.mem_singleton.mp hq with rfl
      exact ⟨Ne.symm nL, Ne.symm nL⟩
  rw [← eL]
  refine h c L hc _ _ _ _ _ X W ⟨fun f fl ρ' ω' s' I' mu' g hf hΨ => ?_, fun e C ρ' ω' s' I' mu' g x hΨ => ?_⟩
  · obtain ⟨ω2, ωr, hp, hΦ⟩ := hΨ
    match fl, hf, hΦ with
    | .next, hf, hΦ => exact nomatch hΦ.1
    | .exc C, hf, hΦ => exact nomatch hΦ.1
    | .ret a, hf, hΦ =>
      obtain ⟨ha, h2⟩ := hΦ
      cases ha
      obtain ⟨o, m, ps, rfl, -, -⟩ := g.wd.own (259, tabA qL) (hp.symm.subset (List.mem_append_right _ h2))
      have e259 : s'.heap.get? 259 = some (tabO ps) := g.st.ow _ m
      have kept : ∀ b o, s₁.heap.get? b = some o → b ≠ 259 → s'.heap.get? b = some o := fun b o e n => g.st.im _ _ (g.st.gi _ _ (hP b o e n))
      match f, hf with
      | .ret v', hf =>
        obtain ⟨as, rd⟩ := hf
        cases rd
        refine hR s' ⟨fun b o e => ?_, fun b o e => ?_⟩ g.st.os g.st.gens
        · by_cases n : b = 259
          · subst n
            rw [h259] at e
            cases e
            obtain ⟨oc, vs, file, tf, flags, tg, inF, text, tt, k1, k2, k3, k4, -⟩ := codeK263 w
            exact .inr (.inl ⟨⟨263, oc, vs, KX _ _ k1, k2, k3, k4⟩, rfl, #[], ps, rfl, by rw [e259, Array.empty_append]⟩)
          · exact .inl (kept b o e n)
        · by_cases n : b = 259
          · subst n
            exact ⟨_, e259⟩
          · exact ⟨o, kept b o e n⟩
  · obtain ⟨ω2, ωr, hp, hΦ⟩ := hΨ
    exact nomatch hΦ.1
end Mine
set_option Elab.async false
set_option maxRecDepth 100000
set_option linter.unusedVariables false
namespace Mine
open PySem PySem.W PySem.Calls PyProof.Rows PySem.Spec PyProof.Rows.LCg
theorem law_top {w : World} {s₁ : Shared} {v : Value} {mg mb : Str → Option Value} {R : Result → Shared → Prop}
    (KX : (KK w).In s₁.heap) (tp : Tp mg mb s₁.heap) (h259 : s₁.heap.get? 259 = some (tabO #[])) (hg : s₁.gens = #[]) (ns : List Int) (hn : ns.length ≤ 1000) (hr : Rv (hideAll s₁.heap [259]) v (.d (.list (ns.map .int))))
    (hR : ∀ s' : Shared, OldK s₁.heap s'.heap → s'.os = s₁.os → s'.gens = #[] → R (.ok (.ret (.bool true))) s') :
    codeAny (model prg w) callerA (.call (.ref 281) ⟨[v], []⟩) R s₁ := by
  refine top_call (xs := ["script"]) (args := [.d (.list (ns.map .int))]) KX tp h259 (by kernel_rfl) hg rfl (by kernel_rfl) rfl ?_ ?_ ?_ rfl rfl rfl (.cons hr .nil) (fun c L hc => law_body (by decide) hc ns hn) hR
  · decide +kernel
  · decide +kernel
  · decide +kernel

theorem law_row {q : Program} {loose : List Str} {mean : ExcName → Option Value} {mg mb : Str → Option Value} {w : World} {s₁ : Shared} {fa a : Addr} {vs : List Value} {ns : List Int} {d : DefRec} {R : Result → Shared → Prop}
    (T : Top q loose mean mg mb s₁.heap) (KX : (KK w).In s₁.heap) (hg : s₁.gens = #[]) (hmg : mg "law" = some (.ref fa)) (hd : (recsOf q).find? (fun e => e.name == ("_law_done_right" : Str)) = some d) (hL : s₁.heap.IsList a vs.toArray) (hI : IntsAre vs ns) (hn : ns.length ≤ 1000)
    (hR : ∀ s' : Shared, OldK s₁.heap s'.heap → s'.os = s₁.os → s'.gens = #[] → R (.ok (.ret (.bool true))) s') :
    codeAny (model prg w) callerA (.call (.ref fa) ⟨[.ref a], []⟩) R s₁ := by
  have tp : Tp mg mb s₁.heap := ⟨T.g, T.b, T.nolimit, T.builtins, T.bmain⟩
  have e1 : mg "law" = some (.ref 281) := mg_of KX T.g (by kernel_rfl)
  rw [e1] at hmg
  cases hmg
  have h259 : s₁.heap.get? 259 = some (tabO #[]) := by
    have hn : d.name = ("_law_done_right" : Str) := beq_iff_eq.mp (List.find?_some (p := fun e : DefRec => e.name == ("_law_done_right" : Str)) hd)
    obtain ⟨a', o', fd', c, P, h1, h2, h3, h4, h5, h6⟩ := T.tab d (List.mem_of_find?_eq_some hd)
    have e2 : mg "_law_done_right" = some (.ref 264) := mg_of KX T.g (by kernel_rfl)
    rw [hn, e2] at h1
    cases h1
    obtain ⟨o4, e3, e4⟩ : ∃ o4, s₁.heap.get? 264 = some o4 ∧ ∃ fd, o4.data = .func fd ∧ fd.code = .ref 263 := ⟨_, KX 264 _ rfl, _, rfl, rfl⟩
    obtain ⟨fd, e4, e5⟩ := e4
    rw [e3] at h2
    cases h2
    rw [e4] at h3
    cases h3
    rw [e5] at h4
    cases h4
    obtain ⟨oc, vs, file, tf, flags, tg, inF, text, tt, k1, k2, k3, k4, -⟩ := codeK263 w
    obtain ⟨⟨oc', vs', k1', k2', k3', k4'⟩, h7⟩ := h6
    rw [KX _ _ k1] at k1'
    cases k1'
    rw [k3] at k3'
    cases k3'
    rw [k4] at k4'
    cases k4'
    exact h7
  obtain ⟨ol, l1, l2, n, l3⟩ := hL
  refine law_top KX tp h259 hg ns hn ⟨_, Reads.list (hideAll_get _ l1 fun h => ?_) l2 l3 (IntsAre.reads _ hI)⟩ hR
  obtain rfl := List.mem_singleton.mp h
  rw [h259] at l1
  cases l1
  cases l2
end Mine
set_option Elab.async false
set_option maxRecDepth 100000
set_option linter.unusedVariables false
namespace Mine
open PySem PySem.W PySem.Calls PyProof.Rows PySem.Spec
/-! # the whole heap behind the text's top: printed by a program -/
noncomputable def kO (P : Params) (a : Addr) : Obj := ((KKf P).lookup a).getD default
noncomputable def tuO (l : List Value) : Obj := { cls := .type "tuple", data := .seq ⟨l⟩ }
noncomputable def flO (c : Value) (l : List Value) : Obj := { cls := c, data := .fields ⟨l⟩ }
noncomputable def slO (c : Value) (l : List (Option Value)) : Obj := { cls := c, slots := ⟨l⟩ }
noncomputable def fnT (q : Str) (s : Stmt) : Obj := match s with
  | .FunctionDef name args body _ _ _ scope _ _ _ => { cls := .none, data := .func { name, qualname := q, params := args, body := .stmts body, scope, globals := 0, closure := [], defaults := .none, kwdefaults := .none } }
  | _ => default
noncomputable def ob12 (P : Params) : Obj := flO .none [.int 2 0, .int 0 0, .ref 20, .int 7 0, .int 0 0, .ref 40, .int 9 0, .int 0 0, .ref 52, .int 12 0, .int 0 0, .ref 64, .int 125 0, .int 0 0, .ref 216, .int 132 0, .int 0 0, .ref 223, .int 138 0, .int 0 0, .ref 230, .int 147 0, .int 0 0, .ref 237, .int 152 0, .int 0 0, .ref 244, .int 157 0, .int 0 0, .ref 251, .int 163 0, .int 0 0, .ref 256, .int 167 0, .int 0 0, .ref 263, .int 192 0, .int 0 0, .ref 268, .int 197 0, .int 0 0, .ref 273, .int 219 0, .int 0 0, .ref 280]
noncomputable def ob13 (P : Params) : Obj := flO (.type "code") [.str "<module>" 182, .str "<module>" 183, .str "/claim/cut.py" 184, .int 1 0, .int 0 0, .int 0 0, .int 0 0, .int 0 0, .ref 11, .bool false, .int 181 0, .ref 12, .none, .none, .none, .none, .int 185 0, .int 1 0, .str "/claim/cut.py" 186]
noncomputable def ob14 (P : Params) : Obj := slO (.type "frame") [some (.ref 13), some (.ref 3), some (.ref 3), none, some (.str "__main__" 164), none, some (.ref 0)]
noncomputable def ob16 (P : Params) : Obj := flO (.type "builtin_function_or_method") [.builtin "type.__prepare__", .type "type"]
noncomputable def ob17 (P : Params) : Obj := nsOb P (.type "dict") [("__module__", 196, .str "treepool.faults" 187), ("__qualname__", 198, .str "PoolFault" 197), ("__firstlineno__", 200, .int 2 199), ("__init__", 208, .ref 28), ("__static_attributes__", 210, .ref 29)] 5
noncomputable def ob20 (P : Params) : Obj := flO (.type "code") [.str "PoolFault" 191, .str "PoolFault" 192, .str "/claim/cut.py" 193, .int 2 0, .int 0 0, .int 0 0, .int 0 0, .int 0 0, .ref 18, .bool false, .int 181 0, .ref 19, .none, .none, .none, .none, .int 194 0, .int 2 0, .str "/claim/cut.py" 195]
noncomputable def ob21 (P : Params) : Obj := slO (.type "frame") [some (.ref 20), some (.ref 3), some (.ref 17), none, some (.str "treepool.faults" 187), none, some (.ref 0)]
noncomputable def ob34 (P : Params) : Obj := flO (.type "builtin_function_or_method") [.builtin "object.__init_subclass__", .ref 31]
noncomputable def ob36 (P : Params) : Obj := flO (.type "builtin_function_or_method") [.builtin "type.__prepare__", .type "type"]
noncomputable def ob37 (P : Params) : Obj := nsOb P (.type "dict") [("__module__", 225, .str "treepool.faults" 187), ("__qualname__", 227, .str "Busy" 226), ("__firstlineno__", 229, .int 7 228), ("__static_attributes__", 230, .ref 42)] 4
noncomputable def ob40 (P : Params) : Obj := flO (.type "code") [.str "Busy" 220, .str "Busy" 221, .str "/claim/cut.py" 222, .int 7 0, .int 0 0, .int 0 0, .int 0 0, .int 0 0, .ref 38, .bool false, .int 181 0, .ref 39, .none, .none, .none, .none, .int 223 0, .int 7 0, .str "/claim/cut.py" 224]
noncomputable def ob41 (P : Params) : Obj := slO (.type "frame") [some (.ref 40), some (.ref 3), some (.ref 37), none, some (.str "treepool.faults" 187), none, some (.ref 0)]
noncomputable def ob46 (P : Params) : Obj := flO (.type "builtin_function_or_method") [.builtin "object.__init_subclass__", .ref 44]
noncomputable def ob48 (P : Params) : Obj := flO (.type "builtin_function_or_method") [.builtin "type.__prepare__", .type "type"]
noncomputable def ob49 (P : Params) : Obj := nsOb P (.type "dict") [("__module__", 241, .str "treepool.faults" 187), ("__qualname__", 243, .str "Misused" 242), ("__firstlineno__", 245, .int 9 244), ("__static_attributes__", 246, .ref 54)] 4
noncomputable def ob52 (P : Params) : Obj := flO (.type "code") [.str "Misused" 236, .str "Misused" 237, .str "/claim/cut.py" 238, .int 9 0, .int 0 0, .int 0 0, .int 0 0, .int 0 0, .ref 50, .bool false, .int 181 0, .ref 51, .none, .none, .none, .none, .int 239 0, .int 9 0, .str "/claim/cut.py" 240]
noncomputable def ob53 (P : Params) : Obj := slO (.type "frame") [some (.ref 52), some (.ref 3), some (.ref 49), none, some (.str "treepool.faults" 187), none, some (.ref 0)]
noncomputable def ob58 (P : Params) : Obj := flO (.type "builtin_function_or_method") [.builtin "object.__init_subclass__", .ref 56]
noncomputable def ob60 (P : Params) : Obj := flO (.type "builtin_function_or_method") [.builtin "type.__prepare__", .type "type"]
noncomputable def ob61 (P : Params) : Obj := nsOb P (.type "dict") [("__module__", 259, .str "treepool.groups" 250), ("__qualname__", 261, .str "Groups" 260), ("__firstlineno__", 263, .int 12 262), ("__init__", 273, .ref 73), ("begin", 280, .ref 80), ("end", 288, .ref 87), ("want_held", 296, .ref 94), ("held", 304, .ref 101), ("mark", 313, .ref 108), ("dirty", 321, .ref 115), ("is_dirty", 327, .ref 120), ("spend", 336, .ref 127), ("is_full", 343, .ref 134), ("all_spent", 349, .ref 139), ("quiesce", 356, .ref 146), ("is_quiet", 363, .ref 153), ("close", 370, .ref 160), ("done", 379, .ref 167), ("is_synced", 387, .ref 174), ("state", 395, .ref 181), ("ticket", 404, .ref 188), ("served", 410, .ref 193), ("waiting", 416, .ref 198), ("plain", 422, .ref 203), ("__static_attributes__", 433, .ref 204)] 25
noncomputable def ob63 (P : Params) : Obj := flO .none [.int 14 0, .int 4 0, .ref 72, .int 26 0, .int 4 0, .ref 79, .int 30 0, .int 4 0, .ref 86, .int 34 0, .int 4 0, .ref 93, .int 38 0, .int 4 0, .ref 100, .int 41 0, .int 4 0, .ref 107, .int 45 0, .int 4 0, .ref 114, .int 48 0, .int 4 0, .ref 119, .int 51 0, .int 4 0, .ref 126, .int 55 0, .int 4 0, .ref 133, .int 58 0, .int 4 0, .ref 138, .int 61 0, .int 4 0, .ref 145, .int 71 0, .int 4 0, .ref 152, .int 74 0, .int 4 0, .ref 159, .int 85 0, .int 4 0, .ref 166, .int 93 0, .int 4 0, .ref 173, .int 96 0, .int 4 0, .ref 180, .int 105 0, .int 4 0, .ref 187, .int 113 0, .int 4 0, .ref 192, .int 118 0, .int 4 0, .ref 197, .int 121 0, .int 4 0, .ref 202]
noncomputable def ob64 (P : Params) : Obj := flO (.type "code") [.str "Groups" 254, .str "Groups" 255, .str "/claim/cut.py" 256, .int 12 0, .int 0 0, .int 0 0, .int 0 0, .int 0 0, .ref 62, .bool false, .int 181 0, .ref 63, .none, .none, .none, .none, .int 257 0, .int 12 0, .str "/claim/cut.py" 258]
noncomputable def ob65 (P : Params) : Obj := slO (.type "frame") [some (.ref 64), some (.ref 3), some (.ref 61), none, some (.str "treepool.groups" 250), none, some (.ref 0)]
noncomputable def ob204 (P : Params) : Obj := tuO [.str "closing" 423, .str "holds" 424, .str "last" 425, .str "limit" 426, .str "names" 427, .str "next_ticket" 428, .str "open" 429, .str "spent" 430, .str "syncing" 431, .str "tickets" 432]
noncomputable def ob210 (P : Params) : Obj := flO (.type "builtin_function_or_method") [.builtin "object.__init_subclass__", .ref 206]
noncomputable def ob234 (P : Params) : Obj := tuO [.str "world" 467, .str "txg" 468, .str "some" 469, .str "row" 470]
noncomputable def ob260 (P : Params) : Obj := tuO [.str "groups" 499, .str "world" 500, .str "x" 501, .str "way" 502, .str "due" 503]
noncomputable def ob261 (P : Params) : Obj := tuO [.str "groups" 504, .str "a" 505, .str "name" 506, .str "txg" 507]
noncomputable def ob277 (P : Params) : Obj := tuO [.str "script" 526, .str "first" 527, .str "limit" 528, .str "groups" 529, .str "world" 530, .str "some" 531, .str "x" 532]
noncomputable def hep15 (P : Params) : Heap := ⟨⟨[boot_o_0 P, boot_o_1 P, boot_o_2 P, boot_o_3 P, boot_o_4 P, boot_o_5 P, boot_o_6 P, boot_o_7 P, boot_o_8 P, boot_o_9 P, boot_o_10 P, tuO [], flO .none [], ob13 P, ob14 P]⟩, {}⟩
noncomputable def hep35 (P : Params) : Heap := ⟨⟨[boot_o_0 P, boot_o_1 P, kO P 2, nsOb P (.type "dict") [("__name__", 165, .str "treepool.faults" 187), ("__doc__", 166, .none), ("__package__", 167, .none), ("__loader__", 168, .builtin "__main__.__loader__#opaque"), ("__spec__", 169, .none), ("__annotations__", 170, .ref 6), ("__builtins__", 171, .ref 4), ("__file__", 173, .str "/claim/cut.py" 172), ("__cached__", 174, .none), ("PoolFault", 217, .ref 31)] 10, boot_o_4 P, boot_o_5 P, boot_o_6 P, boot_o_7 P, boot_o_8 P, boot_o_9 P, boot_o_10 P, tuO [], flO .none [.int 2 0, .int 0 0, .ref 20], ob13 P, ob14 P, tuO [.type "Exception"], ob16 P, ob17 P, tuO [], flO .none [.int 4 0, .int 4 0, .ref 27], ob20 P, ob21 P, tuO [], flO .none [], tuO [.str "self" 204, .str "why" 205], tuO [], fnT "PoolFault.__init__" (inS (topS 1) 0), kO P 27, kO P 28, tuO [.str "why" 209], kO P 30, { cls := (.type "type"), data := .cls { name := "PoolFault", bases := [.type "Exception"], mro := [.ref 31, .type "Exception", .type "BaseException", .type "object"], ns := 30, qualname := "PoolFault" }, slots := #[some (.ref 15), none, some (.str ("PoolFault") 189), some (.str ("PoolFault") 197), some (.builtin "Exception.__new__"), some (.bool true)] }, kO P 32, flO (.type "super") [.ref 31, .ref 31, .ref 31], ob34 P]⟩, {}⟩
noncomputable def hep47 (P : Params) : Heap := ⟨⟨[boot_o_0 P, boot_o_1 P, kO P 2, nsOb P (.type "dict") [("__name__", 165, .str "treepool.faults" 187), ("__doc__", 166, .none), ("__package__", 167, .none), ("__loader__", 168, .builtin "__main__.__loader__#opaque"), ("__spec__", 169, .none), ("__annotations__", 170, .ref 6), ("__builtins__", 171, .ref 4), ("__file__", 173, .str "/claim/cut.py" 172), ("__cached__", 174, .none), ("PoolFault", 217, .ref 31), ("Busy", 233, .ref 44)] 11, boot_o_4 P, boot_o_5 P, boot_o_6 P, boot_o_7 P, boot_o_8 P, boot_o_9 P, boot_o_10 P, tuO [], flO .none [.int 2 0, .int 0 0, .ref 20, .int 7 0, .int 0 0, .ref 40], ob13 P, ob14 P, tuO [.type "Exception"], ob16 P, ob17 P, tuO [], flO .none [.int 4 0, .int 4 0, .ref 27], ob20 P, ob21 P, tuO [], flO .none [], tuO [.str "self" 204, .str "why" 205], tuO [], fnT "PoolFault.__init__" (inS (topS 1) 0), kO P 27, kO P 28, tuO [.str "why" 209], kO P 30, { cls := (.type "type"), data := .cls { name := "PoolFault", bases := [.type "Exception"], mro := [.ref 31, .type "Exception", .type "BaseException", .type "object"], ns := 30, qualname := "PoolFault", subclasses := [.ref 44] }, slots := #[some (.ref 15), none, some (.str ("PoolFault") 189), some (.str ("PoolFault") 197), some (.builtin "Exception.__new__"), some (.bool true)] }, kO P 32, flO (.type "super") [.ref 31, .ref 31, .ref 31], ob34 P, tuO [.ref 31], ob36 P, ob37 P, tuO [], flO .none [], ob40 P, ob41 P, tuO [], kO P 43, kO P 44, flO (.type "super") [.ref 44, .ref 44, .ref 44], ob46 P]⟩, {}⟩
noncomputable def hep59 (P : Params) : Heap := ⟨⟨[boot_o_0 P, boot_o_1 P, kO P 2, nsOb P (.type "dict") [("__name__", 165, .str "treepool.groups" 250), ("__doc__", 166, .none), ("__package__", 167, .none), ("__loader__", 168, .builtin "__main__.__loader__#opaque"), ("__spec__", 169, .none), ("__annotations__", 170, .ref 6), ("__builtins__", 171, .ref 4), ("__file__", 173, .str "/claim/cut.py" 172), ("__cached__", 174, .none), ("PoolFault", 217, .ref 31), ("Busy", 233, .ref 44), ("Misused", 249, .ref 56)] 12, boot_o_4 P, boot_o_5 P, boot_o_6 P, boot_o_7 P, boot_o_8 P, boot_o_9 P, boot_o_10 P, tuO [], flO .none [.int 2 0, .int 0 0, .ref 20, .int 7 0, .int 0 0, .ref 40, .int 9 0, .int 0 0, .ref 52], ob13 P, ob14 P, tuO [.type "Exception"], ob16 P, ob17 P, tuO [], flO .none [.int 4 0, .int 4 0, .ref 27], ob20 P, ob21 P, tuO [], flO .none [], tuO [.str "self" 204, .str "why" 205], tuO [], fnT "PoolFault.__init__" (inS (topS 1) 0), kO P 27, kO P 28, tuO [.str "why" 209], kO P 30, kO P 31, kO P 32, flO (.type "super") [.ref 31, .ref 31, .ref 31], ob34 P, tuO [.ref 31], ob36 P, ob37 P, tuO [], flO .none [], ob40 P, ob41 P, tuO [], kO P 43, kO P 44, flO (.type "super") [.ref 44, .ref 44, .ref 44], ob46 P, tuO [.ref 31], ob48 P, ob49 P, tuO [], flO .none [], ob52 P, ob53 P, tuO [], kO P 55, kO P 56, flO (.type "super") [.ref 56, .ref 56, .ref 56], ob58 P]⟩, {}⟩
noncomputable def hep211 (P : Params) : Heap := ⟨⟨[boot_o_0 P, boot_o_1 P, kO P 2, nsOb P (.type "dict") [("__name__", 165, .str "treepool.groups" 250), ("__doc__", 166, .none), ("__package__", 167, .none), ("__loader__", 168, .builtin "__main__.__loader__#opaque"), ("__spec__", 169, .none), ("__annotations__", 170, .ref 6), ("__builtins__", 171, .ref 4), ("__file__", 173, .str "/claim/cut.py" 172), ("__cached__", 174, .none), ("PoolFault", 217, .ref 31), ("Busy", 233, .ref 44), ("Misused", 249, .ref 56), ("Groups", 440, .ref 206)] 13, boot_o_4 P, boot_o_5 P, boot_o_6 P, boot_o_7 P, boot_o_8 P, boot_o_9 P, boot_o_10 P, tuO [], flO .none [.int 2 0, .int 0 0, .ref 20, .int 7 0, .int 0 0, .ref 40, .int 9 0, .int 0 0, .ref 52, .int 12 0, .int 0 0, .ref 64], ob13 P, ob14 P, tuO [.type "Exception"], ob16 P, ob17 P, tuO [], flO .none [.int 4 0, .int 4 0, .ref 27], ob20 P, ob21 P, tuO [], flO .none [], tuO [.str "self" 204, .str "why" 205], tuO [], fnT "PoolFault.__init__" (inS (topS 1) 0), kO P 27, kO P 28, tuO [.str "why" 209], kO P 30, kO P 31, kO P 32, flO (.type "super") [.ref 31, .ref 31, .ref 31], ob34 P, tuO [.ref 31], ob36 P, ob37 P, tuO [], flO .none [], ob40 P, ob41 P, tuO [], kO P 43, kO P 44, flO (.type "super") [.ref 44, .ref 44, .ref 44], ob46 P, tuO [.ref 31], ob48 P, ob49 P, tuO [], flO .none [], ob52 P, ob53 P, tuO [], kO P 55, kO P 56, flO (.type "super") [.ref 56, .ref 56, .ref 56], ob58 P, tuO [], ob60 P, ob61 P, tuO [], ob63 P, ob64 P, ob65 P, kO P 66, tuO [], flO .none [], tuO [.str "self" 268, .str "first" 269, .str "limit" 270], tuO [], fnT "Groups.__init__" (inS (topS 5) 0), kO P 72, kO P 73, tuO [], flO .none [], tuO [.str "self" 277], tuO [], fnT "Groups.begin" (inS (topS 5) 1), kO P 79, kO P 80, tuO [], flO .none [], tuO [.str "self" 284, .str "txg" 285], tuO [], fnT "Groups.end" (inS (topS 5) 2), kO P 86, kO P 87, tuO [], flO .none [], tuO [.str "self" 292, .str "txg" 293], tuO [], fnT "Groups.want_held" (inS (topS 5) 3), kO P 93, kO P 94, tuO [], flO .none [], tuO [.str "self" 300, .str "txg" 301], tuO [], fnT "Groups.held" (inS (topS 5) 4), kO P 100, kO P 101, tuO [], flO .none [], tuO [.str "self" 308, .str "txg" 309, .str "name" 310], tuO [], fnT "Groups.mark" (inS (topS 5) 5), kO P 107, kO P 108, tuO [], flO .none [], tuO [.str "self" 317, .str "txg" 318], tuO [], fnT "Groups.dirty" (inS (topS 5) 6), kO P 114, kO P 115, tuO [], flO .none [], fnT "Groups.is_dirty" (inS (topS 5) 7), kO P 119, kO P 120, tuO [], flO .none [], tuO [.str "self" 331, .str "txg" 332, .str "many" 333], tuO [], fnT "Groups.spend" (inS (topS 5) 8), kO P 126, kO P 127, tuO [], flO .none [], tuO [.str "self" 340], tuO [], fnT "Groups.is_full" (inS (topS 5) 9), kO P 133, kO P 134, tuO [], flO .none [], fnT "Groups.all_spent" (inS (topS 5) 10), kO P 138, kO P 139, tuO [], flO .none [], tuO [.str "self" 353], tuO [], fnT "Groups.quiesce" (inS (topS 5) 11), kO P 145, kO P 146, tuO [], flO .none [], tuO [.str "self" 360], tuO [], fnT "Groups.is_quiet" (inS (topS 5) 12), kO P 152, kO P 153, tuO [], flO .none [], tuO [.str "self" 367], tuO [], fnT "Groups.close" (inS (topS 5) 13), kO P 159, kO P 160, tuO [], flO .none [], tuO [.str "self" 374, .str "txg" 375, .str "some" 376], tuO [], fnT "Groups.done" (inS (topS 5) 14), kO P 166, kO P 167, tuO [], flO .none [], tuO [.str "self" 383, .str "txg" 384], tuO [], fnT "Groups.is_synced" (inS (topS 5) 15), kO P 173, kO P 174, tuO [], flO .none [], tuO [.str "self" 391, .str "txg" 392], tuO [], fnT "Groups.state" (inS (topS 5) 16), kO P 180, kO P 181, tuO [], flO .none [], tuO [.str "self" 399, .str "txg" 400, .str "number" 401], tuO [], fnT "Groups.ticket" (inS (topS 5) 17), kO P 187, kO P 188, tuO [], flO .none [], fnT "Groups.served" (inS (topS 5) 18), kO P 192, kO P 193, tuO [], flO .none [], fnT "Groups.waiting" (inS (topS 5) 19), kO P 197, kO P 198, tuO [], flO .none [], fnT "Groups.plain" (inS (topS 5) 20), kO P 202, kO P 203, ob204 P, kO P 205, kO P 206, kO P 207, kO P 208, flO (.type "super") [.ref 206, .ref 206, .ref 206], ob210 P]⟩, {}⟩
noncomputable def hep282 (P : Params) : Heap := ⟨⟨[boot_o_0 P, boot_o_1 P, kO P 2, kO P 3, boot_o_4 P, boot_o_5 P, boot_o_6 P, boot_o_7 P, boot_o_8 P, boot_o_9 P, boot_o_10 P, tuO [], ob12 P, ob13 P, ob14 P, tuO [.type "Exception"], ob16 P, ob17 P, tuO [], flO .none [.int 4 0, .int 4 0, .ref 27], ob20 P, ob21 P, tuO [], flO .none [], tuO [.str "self" 204, .str "why" 205], tuO [], fnT "PoolFault.__init__" (inS (topS 1) 0), kO P 27, kO P 28, tuO [.str "why" 209], kO P 30, kO P 31, kO P 32, flO (.type "super") [.ref 31, .ref 31, .ref 31], ob34 P, tuO [.ref 31], ob36 P, ob37 P, tuO [], flO .none [], ob40 P, ob41 P, tuO [], kO P 43, kO P 44, flO (.type "super") [.ref 44, .ref 44, .ref 44], ob46 P, tuO [.ref 31], ob48 P, ob49 P, tuO [], flO .none [], ob52 P, ob53 P, tuO [], kO P 55, kO P 56, flO (.type "super") [.ref 56, .ref 56, .ref 56], ob58 P, tuO [], ob60 P, ob61 P, tuO [], ob63 P, ob64 P, ob65 P, kO P 66, tuO [], flO .none [], tuO [.str "self" 268, .str "first" 269, .str "limit" 270], tuO [], fnT "Groups.__init__" (inS (topS 5) 0), kO P 72, kO P 73, tuO [], flO .none [], tuO [.str "self" 277], tuO [], fnT "Groups.begin" (inS (topS 5) 1), kO P 79, kO P 80, tuO [], flO .none [], tuO [.str "self" 284, .str "txg" 285], tuO [], fnT "Groups.end" (inS (topS 5) 2), kO P 86, kO P 87, tuO [], flO .none [], tuO [.str "self" 292, .str "txg" 293], tuO [], fnT "Groups.want_held" (inS (topS 5) 3), kO P 93, kO P 94, tuO [], flO .none [], tuO [.str "self" 300, .str "txg" 301], tuO [], fnT "Groups.held" (inS (topS 5) 4), kO P 100, kO P 101, tuO [], flO .none [], tuO [.str "self" 308, .str "txg" 309, .str "name" 310], tuO [], fnT "Groups.mark" (inS (topS 5) 5), kO P 107, kO P 108, tuO [], flO .none [], tuO [.str "self" 317, .str "txg" 318], tuO [], fnT "Groups.dirty" (inS (topS 5) 6), kO P 114, kO P 115, tuO [], flO .none [], fnT "Groups.is_dirty" (inS (topS 5) 7), kO P 119, kO P 120, tuO [], flO .none [], tuO [.str "self" 331, .str "txg" 332, .str "many" 333], tuO [], fnT "Groups.spend" (inS (topS 5) 8), kO P 126, kO P 127, tuO [], flO .none [], tuO [.str "self" 340], tuO [], fnT "Groups.is_full" (inS (topS 5) 9), kO P 133, kO P 134, tuO [], flO .none [], fnT "Groups.all_spent" (inS (topS 5) 10), kO P 138, kO P 139, tuO [], flO .none [], tuO [.str "self" 353], tuO [], fnT "Groups.quiesce" (inS (topS 5) 11), kO P 145, kO P 146, tuO [], flO .none [], tuO [.str "self" 360], tuO [], fnT "Groups.is_quiet" (inS (topS 5) 12), kO P 152, kO P 153, tuO [], flO .none [], tuO [.str "self" 367], tuO [], fnT "Groups.close" (inS (topS 5) 13), kO P 159, kO P 160, tuO [], flO .none [], tuO [.str "self" 374, .str "txg" 375, .str "some" 376], tuO [], fnT "Groups.done" (inS (topS 5) 14), kO P 166, kO P 167, tuO [], flO .none [], tuO [.str "self" 383, .str "txg" 384], tuO [], fnT "Groups.is_synced" (inS (topS 5) 15), kO P 173, kO P 174, tuO [], flO .none [], tuO [.str "self" 391, .str "txg" 392], tuO [], fnT "Groups.state" (inS (topS 5) 16), kO P 180, kO P 181, tuO [], flO .none [], tuO [.str "self" 399, .str "txg" 400, .str "number" 401], tuO [], fnT "Groups.ticket" (inS (topS 5) 17), kO P 187, kO P 188, tuO [], flO .none [], fnT "Groups.served" (inS (topS 5) 18), kO P 192, kO P 193, tuO [], flO .none [], fnT "Groups.waiting" (inS (topS 5) 19), kO P 197, kO P 198, tuO [], flO .none [], fnT "Groups.plain" (inS (topS 5) 20), kO P 202, kO P 203, ob204 P, kO P 205, kO P 206, kO P 207, kO P 208, flO (.type "super") [.ref 206, .ref 206, .ref 206], ob210 P, tuO [], flO .none [], tuO [.str "call" 446], tuO [], fnT "_law_tried" (topS 7), kO P 216, kO P 217, tuO [], flO .none [], tuO [.str "world" 453], tuO [], fnT "_law_quiesce" (topS 8), kO P 223, kO P 224, tuO [], flO .none [], tuO [.str "world" 460], tuO [], fnT "_law_close" (topS 9), kO P 230, kO P 231, tuO [], flO .none [], ob234 P, tuO [], fnT "_law_held" (topS 10), kO P 237, kO P 238, tuO [], flO .none [], tuO [.str "world" 477, .str "txg" 478], tuO [], fnT "_law_done" (topS 11), kO P 244, kO P 245, tuO [], flO .none [], tuO [.str "world" 485, .str "txg" 486], tuO [], fnT "_law_ticket" (topS 12), kO P 251, kO P 252, tuO [], flO .none [], fnT "_law_served" (topS 13), kO P 256, kO P 257, tuO [], flO .none [], ob260 P, ob261 P, fnT "_law_done_right" (topS 14), kO P 263, kO P 264, tuO [], flO .none [], fnT "_law_word" (topS 15), kO P 268, kO P 269, tuO [], flO .none [], fnT "_law_is_same" (topS 16), kO P 273, kO P 274, tuO [], flO .none [], ob277 P, tuO [], fnT "law" (topS 17), kO P 280, kO P 281]⟩, {}⟩
end Mine
set_option Elab.async false
set_option maxRecDepth 100000
set_option linter.unusedVariables false
namespace Mine
open PySem PySem.W PySem.Calls PyProof.Rows PySem.Spec
/-! # the head, piece by piece: the run of the text's top -/
noncomputable abbrev envT : Env := { scope := prg.main.scope, locals := mainNs, globals := mainNs, cells := [], code := .ref 13, frame := some 14 }
noncomputable abbrev bodT : List Stmt := behindTheImports prg
noncomputable abbrev codT : Code := .body bodT envT
noncomputable abbrev q0 : Pos := ⟨0, 0, 0, 0⟩
noncomputable abbrev BT0 : List Frame := [topFrame q0]
noncomputable abbrev ann0 : Option Value := some (.ref 6)
noncomputable abbrev st (h : Heap) (k : Nat) (os : OsState) : Shared := ⟨h, #[], {}, k, os⟩
theorem run_pre (w : World) (os : OsState) : topGo treeTable prg w 11 ann0 12 ⟨boot_heap w.params, #[], boot_drawn, boot_toks, os⟩ (topStub prg) = some (st (hep15 w.params) 187 os, ⟨denote treeTable codT, codT, q0, BT0⟩) := by kernel_rfl
theorem run_block (w : World) (os : OsState) : segRun treeTable prg w 11 ann0 1 1 (st (hep15 w.params) 187 os) (blockOf bodT envT codT q0 BT0) = some (.next, st (hep15 w.params) 187 os, codT, q0) := by kernel_rfl
theorem run1 (w : World) (os : OsState) : segRun treeTable prg w 11 ann0 1 300 (st (hep15 w.params) 187 os) (piecesOf (bodT.take 2) envT codT q0 BT0) = some (.next, st (hep35 w.params) 218 os, codT, ⟨2, 0, 6, 22⟩) := by
  rw [PySem.W.Fast.te14374325043358763698, PySem.W.Fast.te14364793385576792824]
  kernel_rfl
theorem run2 (w : World) (os : OsState) : segRun treeTable prg w 11 ann0 1 300 (st (hep35 w.params) 218 os) (piecesOf ((bodT.drop 2).take 1) envT codT ⟨2, 0, 6, 22⟩ BT0) = some (.next, st (hep47 w.params) 234 os, codT, ⟨7, 0, 8, 8⟩) := by
  rw [PySem.W.Fast.te14374325043358763698, PySem.W.Fast.te14364793385576792824]
  kernel_rfl
theorem run3 (w : World) (os : OsState) : segRun treeTable prg w 11 ann0 1 300 (st (hep47 w.params) 234 os) (piecesOf ((bodT.drop 3).take 2) envT codT ⟨7, 0, 8, 8⟩ BT0) = some (.next, st (hep59 w.params) 252 os, codT, ⟨11, 0, 11, 8⟩) := by
  rw [PySem.W.Fast.te14374325043358763698, PySem.W.Fast.te14364793385576792824]
  kernel_rfl
theorem run4 (w : World) (os : OsState) : segRun treeTable prg w 11 ann0 1 900 (st (hep59 w.params) 252 os) (piecesOf ((bodT.drop 5).take 1) envT codT ⟨11, 0, 11, 8⟩ BT0) = some (.next, st (hep211 w.params) 441 os, codT, ⟨12, 0, 123, 99⟩) := by
  rw [PySem.W.Fast.te14374325043358763698, PySem.W.Fast.te14364793385576792824]
  kernel_rfl
theorem run5 (w : World) (os : OsState) : segRun treeTable prg w 11 ann0 1 400 (st (hep211 w.params) 441 os) (piecesOf (bodT.drop 6) envT codT ⟨12, 0, 123, 99⟩ BT0) = some (.next, st (hep282 w.params) 536 os, codT, ⟨219, 0, 231, 15⟩) := by
  rw [PySem.W.Fast.te14374325043358763698, PySem.W.Fast.te14364793385576792824]
  kernel_rfl
theorem run_fin (w : World) (os : OsState) : topRun treeTable prg w 11 ann0 2 (st (hep282 w.params) 536 os) ⟨doneF .next, codT, ⟨219, 0, 231, 15⟩, BT0⟩ = some (st (hep282 w.params) 536 os) := by kernel_rfl
theorem bod_cut : bodT = bodT.take 2 ++ ((bodT.drop 2).take 1 ++ ((bodT.drop 3).take 2 ++ ((bodT.drop 5).take 1 ++ (bodT.drop 6 ++ [])))) := by kernel_rfl
theorem run_rest (w : World) (os : OsState) : topRun treeTable prg w 11 ann0 (300 + (300 + (300 + (900 + (400 + 2))))) (st (hep15 w.params) 187 os) (restOf (bodT.take 2 ++ ((bodT.drop 2).take 1 ++ ((bodT.drop 3).take 2 ++ ((bodT.drop 5).take 1 ++ (bodT.drop 6 ++ []))))) envT codT q0 BT0) = some (st (hep282 w.params) 536 os) :=
  piece_app (run1 w os) (piece_app (run2 w os) (piece_app (run3 w os) (piece_app (run4 w os) (piece_app (run5 w os) (piece_nil (run_fin w os))))))
theorem run_body (w : World) (os : OsState) : topRun treeTable prg w 11 ann0 (300 + (300 + (300 + (900 + (400 + 2))))) (st (hep15 w.params) 187 os) (restOf bodT envT codT q0 BT0) = some (st (hep282 w.params) 536 os) :=
  (congrArg (fun l => topRun treeTable prg w 11 ann0 (300 + (300 + (300 + (900 + (400 + 2))))) (st (hep15 w.params) 187 os) (restOf l envT codT q0 BT0)) bod_cut).trans (run_rest w os)
theorem run_top (w : World) (os : OsState) : topRun treeTable prg w 11 ann0 (12 + (1 + (300 + (300 + (300 + (900 + (400 + 2))))))) ⟨boot_heap w.params, #[], boot_drawn, boot_toks, os⟩ (topStub prg) = some (st (hep282 w.params) 536 os) :=
  go_top (run_pre w os) (piece_block (run_block w os) (run_body w os))
end Mine
set_option Elab.async false
set_option maxRecDepth 100000
set_option linter.unusedVariables false
namespace Mine
open PySem PySem.W PySem.Calls PyProof.Rows PySem.Spec
/-! # the head, piece by piece: what is seen behind the text's top -/
noncomputable abbrev rowT : OpenRow := PySem.Challenge.rw_np0183_01.row
noncomputable def vw : Program := view prg [1, 2, 3, 5, 7, 8, 9, 10, 11, 12, 13, 14, 15, 16, 17]
noncomputable abbrev XtT : Shared → Bool := fun s => xlAt vw [] s && recOk (RowW.records (OpenRow.toRowW rowT)) s
noncomputable abbrev hookT : Hook := kHook KKf asL (fun _ => by kernel_rfl)
noncomputable abbrev modT : List Str := importedModules prg.main.body
noncomputable abbrev stE (w : World) (os : OsState) : Shared := st (hep282 w.params) 536 os
theorem look0 (w : World) (os : OsState) : (staticsOk modT (boot_heap w.params) (hep282 w.params) && namesBound prg (hep282 w.params) && gensDone (stE w os) && laidKept (boot_heap w.params) (hep282 w.params)) = true := by kernel_rfl
theorem look1 (w : World) (os : OsState) : seen ((recsOf vw).map (·.name)) (ownsOf vw) [] { stE w os with gens := #[] } = expectedOf vw := by kernel_rfl
theorem look2 (w : World) (os : OsState) : (stE w os).heap.bltView = bltViewBooted := by kernel_rfl
theorem look3 (w : World) (os : OsState) : ((stE w os).heap.keysOk (looseW vw []) ((recsOf vw).map (·.name)) ((litsOf vw).map (·.1)) ((clssOf vw (looseW vw [])).map (·.name)) && (stE w os).heap.accountedOkI modT && (stE w os).heap.isNs mainGlobals && (stE w os).heap.isNs builtinsNs && tablesOk vw (stE w os).heap && XtT (stE w os) && (if true then (stE w os).gens.size == 0 else !leftWithCleanup (stE w os).gens)) = true := by kernel_rfl
theorem look4 (w : World) (os : OsState) : tabsOk vw (stE w os) = true := by kernel_rfl
theorem look5 (w : World) (os : OsState) : pinSeenD vw (drecsOf vw) (stE w os) = pinGoodD (drecsOf vw) := by kernel_rfl
theorem look6 (w : World) (os : OsState) : plainSeenE vw (looseW vw []) (stE w os) = plainGoodE vw (looseW vw []) := by kernel_rfl
theorem look7 (w : World) (os : OsState) : plainSeenD vw [] (stE w os) = plainGoodD vw [] := by kernel_rfl
theorem look8 (w : World) (os : OsState) : wideSeen vw (stE w os) = wideGood vw := by kernel_rfl
theorem look9 (w : World) (os : OsState) : clsSeenW vw [] (stE w os) = clsGoodW vw [] := by kernel_rfl
theorem look10 (w : World) (os : OsState) : Hook.obs hookT (stE w os) = Hook.val hookT w := by kernel_rfl
theorem size_top (w : World) : ((boot_heap w.params).isNs mainGlobals && (#[] : Array GenState).size == 0, (boot_heap w.params).objs.size, (boot_heap w.params).nsMap mainGlobals "__annotations__") = (true, 11, ann0) := by kernel_rfl
theorem tup9 {a b c d e f g h i : Type} {x1 y1 : a} {x2 y2 : b} {x3 y3 : c} {x4 y4 : d} {x5 y5 : e} {x6 y6 : f} {x7 y7 : g} {x8 y8 : h} {x9 y9 : i} (h1 : x1 = y1) (h2 : x2 = y2) (h3 : x3 = y3) (h4 : x4 = y4) (h5 : x5 = y5) (h6 : x6 = y6) (h7 : x7 = y7) (h8 : x8 = y8) (h9 : x9 = y9) :
    (x1, x2, x3, x4, x5, x6, x7, x8, x9) = (y1, y2, y3, y4, y5, y6, y7, y8, y9) := by subst h1 h2 h3 h4 h5 h6 h7 h8 h9; rfl
theorem seen_top (w : World) (os : OsState) : openSeen vw [] modT XtT true (stE w os) = openGood vw [] := by
  unfold openSeen openGood
  exact tup9 (look1 w os) (look2 w os) (look3 w os) (look4 w os) (look5 w os) (look6 w os) (look7 w os) (look8 w os) (look9 w os)
theorem tup3 {a b c : Type} {x1 y1 : a} {x2 y2 : b} {x3 y3 : c} (h1 : x1 = y1) (h2 : x2 = y2) (h3 : x3 = y3) : (x1, x2, x3) = (y1, y2, y3) := by subst h1 h2 h3; rfl
theorem left_top : LeftO prg vw [] XtT (Hook.obs hookT) (Hook.val hookT) 3852 :=
  LeftO.of_pieces (H₀ := boot_heap) (H₁ := hep282) (gs₀ := #[]) (gs₁ := #[]) (d₀ := boot_drawn) (d₁ := {}) (k₀ := boot_toks) (k₁ := 536) (m₀ := 11) (ann := ann0) (M := 12 + (1 + (300 + (300 + (300 + (900 + (400 + 2)))))))
    (boot_open (by kernel_rfl) (by decide +kernel) (fun s => by kernel_rfl)) size_top run_top (by decide +kernel) (fun w => funext fun os => tup3 (look0 w os) (seen_top w os) (look10 w os))
end Mine
open PySem PySem.W PyProof.Rows
set_option Elab.async false
set_option maxRecDepth 100000 in
set_option maxHeartbeats 8000000 in
theorem PySem.Challenge.cw_np0183_01_holds : PySem.Challenge.rw_np0183_01.Holds := by
  w_on
  o_law
  refine holds_open (q := Mine.vw) (loose := []) (Xt := Mine.XtT) (XP := XL Mine.vw []) (Yf := Hook.obs Mine.hookT) (Ya := Hook.val Mine.hookT) (YP := Hook.says Mine.hookT) (N := 3852) Mine.left_top (Hook.of Mine.hookT) (Hook.keeps Mine.hookT)
    (fun s e => xl_of s (Bool.and_eq_true_iff.mp e).1) XL.keeps (by rfl) (by rfl) (by rfl) (fun s e => recFacts_of (Bool.and_eq_true_iff.mp e).2) (by rfl) (by first | assumption | decide +kernel) (by decide +kernel) ⟨rfl, rfl, rfl, rfl, rfl, by decide +kernel⟩ ?hw ?hc
  (case hw => w_witness2)
  intro w s₀ s₁ mg mb G Y fa o pm cd doc dV kV ho hd hcd hD hmg hg args vals as hpre hlay hrd hwl hlo
  have KX := kIn_of Y
  have T := Ground.T G
  change mg "law" = some (.ref fa) at hmg
  clear hcd hd hD
  wrow_args hpre hlay hrd hwl hlo
  all_goals refine enter_call ?_
  refine Mine.law_row T KX hg hmg rfl (by assumption) (by assumption) (by omega) fun s' k1 k2 k3 => ?_
  refine ⟨.inl ⟨_, _, _, rfl, raisesW_false (by wrow_none_raised), ReadsW.bool true, postW_of (by wrow_shape) (by wtm_val) (by str_meet; first | done | w_fin), unshared_nil⟩, k1, k2, ?_⟩
  rw [k3]
  exact fun y h => absurd h (Array.not_mem_empty y)
