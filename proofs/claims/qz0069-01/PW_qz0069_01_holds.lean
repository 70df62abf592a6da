import PyProof.Rows.All
import PyProof.ExcClass3
import PyProof.InstStoreFacts
import KE.KPop
import KE.KDictAnyGet
import KE.KDictNew
import KE.KTryDeep
import Wide.FinOn
import OpenK.AllK
import Wide.All
import PySem.Challenge.RW_qz0069_01
set_option Elab.async false
set_option maxRecDepth 100000
set_option maxHeartbeats 8000000
set_option linter.all false
set_option genSizeOf false
set_option genInjectivity false
set_option bootstrap.genMatcherCode false
open PySem PySem.W PyProof.Rows PySem.Spec PySem.Calls
set_option hygiene false in
local macro_rules | `(tactic| walk_at "o") => `(tactic| first | lia | omega)
section
namespace Mine.H
noncomputable section
noncomputable abbrev P0:Program:=PySem.Challenge.rw_qz0069_01.row.toRowW.prog
noncomputable def st (i:Nat):Stmt:=PySem.Challenge.pw_qz0069_01.main.body.getD i (.Pass ⟨0,0,0,0⟩)
noncomputable def op (x:Stmt)(j:Nat)(f:Str→Arguments→List Stmt→Scope→FuncData):FuncData × Stmt:=match x with
 | .FunctionDef n p b _ _ _ s ..=>(f n p b s,x)
 | .ClassDef _ _ _ b ..=>(default,b.getD j (.Pass ⟨0,0,0,0⟩))
 | s=>(default,s)
noncomputable def ms (i j:Nat):Stmt:=(op (st i) j fun _ _ _ _=>default).2
noncomputable abbrev fd (x:Stmt)(q:Str)(g:Addr)(cl:List (Str × Addr))(dv kv dc pm:Value)(an:Option Addr)(cd ct:Value)(bi:Addr):FuncData :=
 (op x 0 fun n p b s=>⟨n,q,p,.stmts b,s,g,cl,dv,kv,dc,pm,an,cd,ct,bi⟩).1
abbrev O:=Params→Obj
abbrev E:=Params→DictEntry
noncomputable abbrev en (s:Str)(n:Nat)(v:Value):E:=fun P=>⟨PyData.keyHash P s,.str s n,v⟩
noncomputable abbrev i (a:Int):Value:=.int a 0
noncomputable abbrev r (a:Nat):Value:=.ref a
noncomputable abbrev j (a:Int)(c:Int)(f:Nat)(x:List Value):List Value:=.int a 0::.int c 0::.ref f::x
noncomputable abbrev cd (a b:Str)(n:Nat)(l k:Int)(m:Int)(f:Nat)(g:Bool)(h:Nat)(x y z:Value)(q:Int)(e:Nat):O:=fun _=>⟨.type "code",none,.fields #[.str a n,.str b (n+1),.str "/claim/cut.py" (n+2),.int l 0,.int k 0,.int 0 0,.int 0 0,.int m 0,.ref f,.bool g,.int 181 0,.ref h,.none,x,y,z,.int q 0,.int l 0,.str "/claim/cut.py" e],#[]⟩
noncomputable abbrev ff (x:Stmt)(q:Str):O:=fun _=>⟨.none,none,.func (fd x q 0 [] .none .none .none .none none .none .none 0),#[]⟩
noncomputable abbrev fg (x:Stmt)(q:Str)(a:Nat)(d v:Value)(m:Str)(k:Nat)(b:Nat):O:=fun _=>⟨.type "function",none,.func (fd x q a [] d v .none (.str m k) none (.ref b) .none 0),#[]⟩
noncomputable abbrev tu (x:List Value):O:=fun _=>⟨.type "tuple",none,.seq x.toArray 0,#[]⟩
noncomputable abbrev di (k:Nat)(x:Params→List DictEntry):O:=fun P=>⟨.type "dict",none,.dict (x P).toArray k,#[]⟩
noncomputable abbrev c (e:E)(x:Params→List DictEntry):Params→List DictEntry:=fun P=>e P::x P
noncomputable abbrev z:Params→List DictEntry:=fun _=>[]
noncomputable abbrev fi (x:List Value):O:=fun _=>⟨.none,none,.fields x.toArray,#[]⟩
noncomputable abbrev n:Params→BT:=fun _=>.nil
noncomputable abbrev l (o:O):Params→BT:=fun P=>.node (o P) .nil .nil
noncomputable abbrev b (o:O)(x y:Params→BT):Params→BT:=fun P=>.node (o P) (x P) (y P)
abbrev e0:=en "BOX_GRAIN" 1158 (.int 64 1157)
abbrev e1:=en "DIGITS" 309 (.str "0123456789" 308)
abbrev e2:=en "Element" 1291 (r 752)
abbrev e3:=en "Ellipse" 757 (r 404)
abbrev e4:=en "Flattener" 1037 (r 583)
abbrev e5:=en "HALF_RIGHT" 579 (r 287)
abbrev e6:=en "HUNDRED" 1307 (r 764)
abbrev e7:=en "LEAST_GRAINS" 1161 (r 666)
abbrev e8:=en "LimitFault" 299 (r 94)
abbrev e9:=en "MORE" 569 (.int 65536 568)
abbrev e10:=en "MOST_BOTTOM" 573 (.int 10000000000000000000000000000000000000000 572)
abbrev e11:=en "MOST_DEEP" 1334 (.int 12 1333)
abbrev e12:=en "MOST_EXPONENT" 311 (.int 300 310)
abbrev e13:=en "MOST_FIGURES" 313 (.int 60 312)
abbrev e14:=en "MOST_LEVELS" 1336 (.int 60 1335)
abbrev e15:=en "MOST_MADE" 1338 (.int 20000 1337)
abbrev e16:=en "MOST_VALUE" 317 (.int 1000000000000000000000000000000000000000000000000000000000000 316)
noncomputable abbrev e17 (P:Params):DictEntry:=⟨(PyData.keyHash P "MOST_WRITTEN"),(.str "MOST_WRITTEN" 321),(.int 10000000000000000000000000000000000000000000000000000000000000000000000000000000000000000000000000000000000000000000000000000000000000000000000000000000000000000000000000000000000000000000000000000000000000000000000000000000000000000000000000000000000000000000000000000000000000000000000000000000000000000000000000000000000000000000000000000000000000000000000000000000000000000000000000000000000000000000000000000000000000000000000000000000000000000000000000000000000000000000000000000000000000000000000000000000000000000000000000000000000000000000000000000000000000000000000000000000000000000000000000000000000000000000000000000000000000000000000000000000000000000000000000000000000000000000000000000000000000000000000000000000000000000000000000000000000000000000000000000000000000000000000000000000000000000000000000000000000000000000000000000000000000000000000000000000000000000000000000000000000000000000000000000000000000000000000000000000000000000000000000000000000000000000000000000000000000000000000000000000000000000000000000000000000000000000000000000000000000000000000000000000000000000000000000000000000000000000000000000000000000000000000000000000000000000000000000000000000000000000000000000000000000000000000000000000000000000000000000000000000000000000000000000000000000000000000000000000000000000000000000000000000000000000000000000000000000000000000000000000000000000000000000000000000000000000000000000000000000000000000000000000000000000000000000000000000000000000000000000000000000000000000000000000000000000000000000000000000000000000000000000000000000000000000000000000000000000000000000000000000000000000000000000000000000000000000000000000000000000000000000000000000000000000000000000000000000000000000000000000000000000000000000000000000000000000000000000000000000000000000000000000000000000000000000000000000000000000000000000000000000000000000000000000000000000000000000000000000000000000000000000000000000000000000000000000000000000000000000000000000000000000000000000000000000000000000000000000000000000000000000000000000000000000000000000000000000000000000000000000000000000000000000000000000000000000000000000000000000000000000000000000000000000000000000000000000000000000000000000000000000000000000000000000000000000000000000000000000000000000000000000000000000000000000000000000000000000000000000000000000000000000000000000000000000000000000000000000000000000000000000000000000000000000000000000000000000000000000000000000000000000000000000000000000000000000000000000000000000000000000000000000000000000000000000000000000000000000000000000000000000000000000000000000000000000000000000000000000000000000000000000000000000000000000000000000000000000000000000000000000000000000000000000000000000000000000000000000000000000000000000000000000000000000000000000000000000000000000000000000000000000000000000000000000000000000000000000000000000000000000000000000000000000000000000000000000000000000000000000000000000000000000000000000000000000000000000000000000000000000000000000000000000000000000000000000000000000000000000000000000000000000000000000000000000000000000000000000000000000000000000000000000000000000000000000000000000000000000000000000000000000000000000000000000000000000000000000000000000000000000000000000000000000000000000000000000000000000000000000000000000000000000000000000000000000000000000000000000000000000000000000000000000000000000000000000000000000000000000000000000000000000000000000000000000000000000000000000000000000000000000000000000000000000000000000000000000000000000000000000000000000000000000000000000000000000000000000000000000000000000000000000000000000000000000000000000000000000000000000000000000000000000000000000000000000000000000000000000000000000000000000000000000000000000000000000000000000000000000000000000000000000000000000000000000000000000000000000000000000000000000000000000000000000000000000000000000000000000000000000000000000000000000000000000000000000000000000000000000000000000000000000000000000000000000000000000000000 320)⟩
abbrev e18:=en "Matrix" 1148 (r 654)
abbrev e19:=en "MillError" 224 (r 38)
abbrev e20:=en "NumberFault" 240 (r 51)
abbrev e21:=en "NumberText" 497 (r 242)
abbrev e22:=en "ONE" 307 (r 98)
abbrev e23:=en "OWN_WORDS" 1349 (r 781)
abbrev e24:=en "PARTS" 658 (.int 1152921504606846976 657)
abbrev e25:=en "PI_BOTTOM" 565 (.int 100000000000000000000000000000000000000000000000000 564)
abbrev e26:=en "PI_TOP" 561 (.int 314159265358979323846264338327950288419716939937510 560)
abbrev e27:=en "PLACES" 1340 (.int 20 1339)
abbrev e28:=en "PathFault" 267 (r 70)
abbrev e29:=en "RIGHT" 576 (r 286)
abbrev e30:=en "ShapeBox" 1210 (r 697)
abbrev e31:=en "SheetFault" 283 (r 82)
abbrev e32:=en "TOLD" 660 (.int 1048576 659)
abbrev e33:=en "Uses" 1411 (r 820)
abbrev e34:=en "ZERO" 304 (r 97)
abbrev e35:=en "__annotations__" 170 (r 6)
abbrev e36:=en "__builtins__" 171 (r 4)
abbrev e37:=en "__cached__" 174 .none
abbrev e38:=en "__doc__" 166 .none
abbrev e39:=en "__file__" 173 (.str "/claim/cut.py" 172)
abbrev e40:=en "__firstlineno__" 1066 (.int 426 1065)
abbrev e41:=en "__firstlineno__" 1173 (.int 463 1172)
abbrev e42:=en "__firstlineno__" 1261 (.int 504 1260)
abbrev e43:=en "__firstlineno__" 1372 (.int 552 1371)
abbrev e44:=en "__firstlineno__" 207 (.int 5 206)
abbrev e45:=en "__firstlineno__" 236 (.int 9 235)
abbrev e46:=en "__firstlineno__" 252 (.int 11 251)
abbrev e47:=en "__firstlineno__" 279 (.int 16 278)
abbrev e48:=en "__firstlineno__" 295 (.int 18 294)
abbrev e49:=en "__firstlineno__" 455 (.int 91 454)
abbrev e50:=en "__firstlineno__" 713 (.int 223 712)
abbrev e51:=en "__firstlineno__" 949 (.int 355 948)
abbrev e52:=en "__init__" 1079 (r 609)
abbrev e53:=en "__init__" 1184 (r 680)
abbrev e54:=en "__init__" 1270 (r 741)
abbrev e55:=en "__init__" 1381 (r 803)
abbrev e56:=en "__init__" 215 (r 35)
abbrev e57:=en "__init__" 261 (r 67)
abbrev e58:=en "__init__" 463 (r 218)
abbrev e59:=en "__init__" 725 (r 387)
abbrev e60:=en "__init__" 960 (r 535)
abbrev e61:=en "__loader__" 168 (.builtin "__main__.__loader__#opaque")
abbrev e62:=en "__module__" 1062 (.str "outlinemill.matrix" 1053)
abbrev e63:=en "__module__" 1169 (.str "outlinemill.shape_box" 1155)
abbrev e64:=en "__module__" 1257 (.str "outlinemill.markup" 1248)
abbrev e65:=en "__module__" 1368 (.str "outlinemill.uses" 1331)
abbrev e66:=en "__module__" 203 (.str "outlinemill.errors" 194)
abbrev e67:=en "__module__" 232 (.str "outlinemill.errors" 194)
abbrev e68:=en "__module__" 248 (.str "outlinemill.errors" 194)
abbrev e69:=en "__module__" 275 (.str "outlinemill.errors" 194)
abbrev e70:=en "__module__" 291 (.str "outlinemill.errors" 194)
abbrev e71:=en "__module__" 451 (.str "outlinemill.exact" 300)
abbrev e72:=en "__module__" 709 (.str "outlinemill.arcs" 655)
abbrev e73:=en "__module__" 945 (.str "outlinemill.flatten" 864)
abbrev e74:=en "__name__" 165 (.str "outlinemill.arcs" 655)
abbrev e75:=en "__name__" 165 (.str "outlinemill.errors" 194)
abbrev e76:=en "__name__" 165 (.str "outlinemill.exact" 300)
abbrev e77:=en "__name__" 165 (.str "outlinemill.flatten" 864)
abbrev e78:=en "__name__" 165 (.str "outlinemill.matrix" 1053)
abbrev e79:=en "__name__" 165 (.str "outlinemill.uses" 1331)
abbrev e80:=en "__package__" 167 .none
abbrev e81:=en "__spec__" 169 .none
abbrev e82:=en "__static_attributes__" 1030 (r 581)
abbrev e83:=en "__static_attributes__" 1141 (r 652)
abbrev e84:=en "__static_attributes__" 1203 (r 695)
abbrev e85:=en "__static_attributes__" 1284 (r 750)
abbrev e86:=en "__static_attributes__" 1404 (r 818)
abbrev e87:=en "__static_attributes__" 217 (r 36)
abbrev e88:=en "__static_attributes__" 237 (r 49)
abbrev e89:=en "__static_attributes__" 264 (r 68)
abbrev e90:=en "__static_attributes__" 280 (r 80)
abbrev e91:=en "__static_attributes__" 296 (r 92)
abbrev e92:=en "__static_attributes__" 490 (r 240)
abbrev e93:=en "__static_attributes__" 750 (r 402)
abbrev e94:=en "_wall" 193 (r 21)
abbrev e95:=en "absolute" 387 (r 155)
abbrev e96:=en "arc" 1020 (r 580)
abbrev e97:=en "arc_cubics" 850 (r 467)
abbrev e98:=en "back" 745 (r 401)
abbrev e99:=en "begin" 976 (r 549)
abbrev e100:=en "box_grain" 1223 (r 713)
abbrev e101:=en "box_of" 551 (r 280)
abbrev e102:=en "centre_of" 773 (r 415)
abbrev e103:=en "close" 995 (r 566)
abbrev e104:=en "common_divisor" 331 (r 105)
abbrev e105:=en "compare" 402 (r 169)
abbrev e106:=en "cross" 701 (r 373)
abbrev e107:=en "determinant" 1127 (r 644)
abbrev e108:=en "digits" 487 (r 239)
abbrev e109:=en "divided" 373 (r 141)
abbrev e110:=en "dot" 693 (r 366)
abbrev e111:=en "element_of" 1360 (r 788)
abbrev e112:=en "end" 982 (r 554)
abbrev e113:=en "fine" 968 (r 542)
abbrev e114:=en "flat_spots" 920 (r 507)
abbrev e115:=en "flattened" 1052 (r 595)
abbrev e116:=en "floor_of" 427 (r 190)
abbrev e117:=en "fraction" 341 (r 113)
abbrev e118:=en "framed" 1440 (r 845)
abbrev e119:=en "get" 1279 (r 749)
abbrev e120:=en "go" 988 (r 559)
abbrev e121:=en "greatest" 420 (r 183)
abbrev e122:=en "group_of" 1400 (r 817)
abbrev e123:=en "group_words" 1421 (r 831)
abbrev e124:=en "halves" 905 (r 500)
abbrev e125:=en "handle_share" 802 (r 436)
abbrev e126:=en "identity" 1154 (r 665)
abbrev e127:=en "in_parts" 668 (r 345)
abbrev e128:=en "inverse" 1134 (r 651)
abbrev e129:=en "is_flat" 1191 (r 687)
abbrev e130:=en "is_flat" 891 (r 488)
abbrev e131:=en "is_near" 882 (r 481)
abbrev e132:=en "is_one_of" 471 (r 225)
abbrev e133:=en "is_within_quarter" 783 (r 422)
abbrev e134:=en "least" 411 (r 176)
abbrev e135:=en "led" 735 (r 394)
abbrev e136:=en "length" 1330 (r 780)
abbrev e137:=en "link_of" 1302 (r 763)
abbrev e138:=en "matrix" 1198 (r 694)
abbrev e139:=en "middle" 899 (r 495)
abbrev e140:=en "minus" 357 (r 127)
abbrev e141:=en "near" 629 (r 322)
abbrev e142:=en "negated" 380 (r 148)
abbrev e143:=en "piece_of" 815 (r 443)
abbrev e144:=en "place_told" 1430 (r 838)
abbrev e145:=en "plus" 349 (r 120)
abbrev e146:=en "point" 1106 (r 630)
abbrev e147:=en "point_box" 557 (r 285)
abbrev e148:=en "point_told" 844 (r 462)
abbrev e149:=en "put_out" 1388 (r 810)
abbrev e150:=en "quarter_on" 791 (r 429)
abbrev e151:=en "quarter_turn" 640 (r 329)
abbrev e152:=en "read_decimal" 529 (r 267)
abbrev e153:=en "read_exponent" 515 (r 260)
abbrev e154:=en "root_floor" 443 (r 204)
abbrev e155:=en "rounded" 434 (r 197)
abbrev e156:=en "rounded_spot" 928 (r 514)
abbrev e157:=en "row" 1086 (r 616)
abbrev e158:=en "scaled_radians" 594 (r 301)
abbrev e159:=en "segment_points" 1217 (r 708)
abbrev e160:=en "series" 607 (r 308)
abbrev e161:=en "shape_box" 1236 (r 720)
abbrev e162:=en "sign_of" 394 (r 162)
abbrev e163:=en "skip" 479 (r 232)
abbrev e164:=en "small_turn" 620 (r 315)
abbrev e165:=en "spot_of" 863 (r 474)
abbrev e166:=en "straight" 838 (r 457)
abbrev e167:=en "stretch_of" 1247 (r 727)
abbrev e168:=en "take" 1004 (r 573)
abbrev e169:=en "then" 1120 (r 637)
abbrev e170:=en "times" 365 (r 134)
abbrev e171:=en "told_parts" 678 (r 352)
abbrev e172:=en "turn_of" 654 (r 337)
abbrev e173:=en "turned" 685 (r 359)
abbrev e174:=en "unit_of" 1315 (r 771)
abbrev e175:=en "unlike_neighbours" 937 (r 521)
abbrev e176:=en "vector" 1096 (r 623)
abbrev e177:=en "vectors_of" 826 (r 450)
abbrev e178:=en "want_bottom" 586 (r 294)
abbrev e179:=en "whole_of" 506 (r 253)
abbrev e180:=en "write_decimal" 543 (r 275)
abbrev o43:=tu []
abbrev o44:O:=fun _=>⟨.none,none,(.fields #[]),#[]⟩
abbrev o45:=cd "<module>" "<module>" 182 1 0 0 11 false 12 .none .none .none 185 186
abbrev o46:O:=fun _=>⟨(.type "frame"),none,.plain,#[(some (.ref 13)),(some (.ref 3)),(some (.ref 3)),none,(some (.str "__main__" 164)),none,(some (.ref 0))]⟩
abbrev o49:O:=fun P=>⟨.none,none,(.dict #[⟨(PyData.keyHash P "type.__subclasses__.Exception.0"),(.str "type.__subclasses__.Exception.0" 221),(.int 38 0)⟩,⟨(PyData.keyHash P "type.__subclasses__.Exception.n"),(.str "type.__subclasses__.Exception.n" 222),(.int 1 0)⟩] 2),#[]⟩
abbrev o50:=di 11<|c e75<|c e38<|c e80<|c e61<|c e81<|c e35<|c e36<|c e39<|c e37<|c e94<|c e19<|z
abbrev o51:=fi<|j 1 0 20<|j 5 0 27<|[]
abbrev o54:=tu [.str "k" 190]
abbrev o56:=ff (st 0) "_wall"
abbrev o57:=cd "_wall" "_wall" 187 1 1 3 15 true 16 (r 17) (r 18) (r 19) 191 192
abbrev o58:=fg (st 0) "_wall" 3 .none .none "__main__" 164 20
abbrev o59:=tu [.type "Exception"]
abbrev o60:O:=fun _=>⟨(.type "builtin_function_or_method"),none,(.fields #[(.builtin "type.__prepare__"),(.type "type")]),#[]⟩
abbrev o61:=di 5<|c e66<|c (en "__qualname__" 205 (.str "MillError" 204))<|c e44<|c e56<|c e87<|z
abbrev o63:=fi<|j 7 4 34<|[]
abbrev o64:=cd "MillError" "MillError" 198 5 0 0 25 false 26 .none .none .none 201 202
abbrev o65:O:=fun _=>⟨(.type "frame"),none,.plain,#[(some (.ref 27)),(some (.ref 3)),(some (.ref 24)),none,(some (.str "outlinemill.errors" 194)),none,(some (.ref 0))]⟩
abbrev o68:=tu [.str "self" 211,.str "message" 212]
abbrev o70:=ff (ms 2 0) "MillError.__init__"
abbrev o71:=cd "__init__" "MillError.__init__" 208 7 2 3 29 true 30 (r 31) (r 32) (r 33) 213 214
abbrev o72:=fg (ms 2 0) "MillError.__init__" 3 .none .none "outlinemill.errors" 194 34
abbrev o73:=tu [.str "message" 216]
abbrev o74:=di 3<|c e66<|c e44<|c e56<|c e87<|c (en "__weakref__" 219 (r 39))<|c (en "__doc__" 220 .none)<|z
abbrev o75:O:=fun _=>⟨(.type "type"),none,(.cls ⟨"MillError",[(.type "Exception")],[r 38,(.type "Exception"),(.type "BaseException"),(.type "object")],37,"MillError",true,[],[],false,none,false⟩),#[(some (.ref 22)),none,(some (.str "MillError" 196)),(some (.str "MillError" 204)),(some (.builtin "Exception.__new__")),(some (.bool true))]⟩
abbrev o76:O:=fun _=>⟨(.type "getset_descriptor"),none,(.fields #[(.str "__weakref__" 218),r 38,(.builtin "ExceptionGroup.__weakref__"),.none]),#[]⟩
abbrev o77:O:=fun _=>⟨(.type "super"),none,(.fields #[r 38,r 38,r 38]),#[]⟩
abbrev o78:O:=fun _=>⟨(.type "builtin_function_or_method"),none,(.fields #[(.builtin "object.__init_subclass__"),r 38]),#[]⟩
abbrev o79:=di 12<|c e75<|c e38<|c e80<|c e61<|c e81<|c e35<|c e36<|c e39<|c e37<|c e94<|c e19<|c e20<|z
abbrev o80:=fi<|j 1 0 20<|j 5 0 27<|j 9 0 47<|[]
abbrev o81:O:=fun _=>⟨(.type "type"),none,(.cls ⟨"MillError",[(.type "Exception")],[r 38,(.type "Exception"),(.type "BaseException"),(.type "object")],37,"MillError",true,[],[r 51],false,none,false⟩),#[(some (.ref 22)),none,(some (.str "MillError" 196)),(some (.str "MillError" 204)),(some (.builtin "Exception.__new__")),(some (.bool true))]⟩
abbrev o82:=tu [r 38]
abbrev o84:=di 4<|c e67<|c (en "__qualname__" 234 (.str "NumberFault" 233))<|c e45<|c e88<|z
abbrev o87:=cd "NumberFault" "NumberFault" 227 9 0 0 45 false 46 .none .none .none 230 231
abbrev o88:O:=fun _=>⟨(.type "frame"),none,.plain,#[(some (.ref 47)),(some (.ref 3)),(some (.ref 44)),none,(some (.str "outlinemill.errors" 194)),none,(some (.ref 0))]⟩
abbrev o90:=di 2<|c e67<|c e45<|c e88<|c (en "__doc__" 238 .none)<|z
abbrev o91:O:=fun _=>⟨(.type "type"),none,(.cls ⟨"NumberFault",[r 38],[r 51,r 38,(.type "Exception"),(.type "BaseException"),(.type "object")],50,"NumberFault",true,[],[],false,none,false⟩),#[(some (.ref 42)),none,(some (.str "NumberFault" 225)),(some (.str "NumberFault" 233)),(some (.builtin "Exception.__new__")),(some (.bool true))]⟩
abbrev o92:O:=fun _=>⟨(.type "super"),none,(.fields #[r 51,r 51,r 51]),#[]⟩
abbrev o93:O:=fun _=>⟨(.type "builtin_function_or_method"),none,(.fields #[(.builtin "object.__init_subclass__"),r 51]),#[]⟩
abbrev o94:=di 13<|c e75<|c e38<|c e80<|c e61<|c e81<|c e35<|c e36<|c e39<|c e37<|c e94<|c e19<|c e20<|c e28<|z
abbrev o95:=fi<|j 1 0 20<|j 5 0 27<|j 9 0 47<|j 11 0 59<|[]
abbrev o96:O:=fun _=>⟨(.type "type"),none,(.cls ⟨"MillError",[(.type "Exception")],[r 38,(.type "Exception"),(.type "BaseException"),(.type "object")],37,"MillError",true,[],[r 51,r 70],false,none,false⟩),#[(some (.ref 22)),none,(some (.str "MillError" 196)),(some (.str "MillError" 204)),(some (.builtin "Exception.__new__")),(some (.bool true))]⟩
abbrev o99:=di 5<|c e68<|c (en "__qualname__" 250 (.str "PathFault" 249))<|c e46<|c e57<|c e89<|z
abbrev o101:=fi<|j 13 4 66<|[]
abbrev o102:=cd "PathFault" "PathFault" 243 11 0 0 57 false 58 .none .none .none 246 247
abbrev o103:O:=fun _=>⟨(.type "frame"),none,.plain,#[(some (.ref 59)),(some (.ref 3)),(some (.ref 56)),none,(some (.str "outlinemill.errors" 194)),none,(some (.ref 0))]⟩
abbrev o106:=tu [.str "self" 256,.str "message" 257,.str "place" 258]
abbrev o108:=ff (ms 4 0) "PathFault.__init__"
abbrev o109:=cd "__init__" "PathFault.__init__" 253 13 3 3 61 true 62 (r 63) (r 64) (r 65) 259 260
abbrev o110:=fg (ms 4 0) "PathFault.__init__" 3 .none .none "outlinemill.errors" 194 66
abbrev o111:=tu [.str "message" 262,.str "place" 263]
abbrev o112:=di 2<|c e68<|c e46<|c e57<|c e89<|c (en "__doc__" 265 .none)<|z
abbrev o113:O:=fun _=>⟨(.type "type"),none,(.cls ⟨"PathFault",[r 38],[r 70,r 38,(.type "Exception"),(.type "BaseException"),(.type "object")],69,"PathFault",true,[],[],false,none,false⟩),#[(some (.ref 54)),none,(some (.str "PathFault" 241)),(some (.str "PathFault" 249)),(some (.builtin "Exception.__new__")),(some (.bool true))]⟩
abbrev o114:O:=fun _=>⟨(.type "super"),none,(.fields #[r 70,r 70,r 70]),#[]⟩
abbrev o115:O:=fun _=>⟨(.type "builtin_function_or_method"),none,(.fields #[(.builtin "object.__init_subclass__"),r 70]),#[]⟩
abbrev o116:=di 14<|c e75<|c e38<|c e80<|c e61<|c e81<|c e35<|c e36<|c e39<|c e37<|c e94<|c e19<|c e20<|c e28<|c e31<|z
abbrev o117:=fi<|j 1 0 20<|j 5 0 27<|j 9 0 47<|j 11 0 59<|j 16 0 78<|[]
abbrev o118:O:=fun _=>⟨(.type "type"),none,(.cls ⟨"MillError",[(.type "Exception")],[r 38,(.type "Exception"),(.type "BaseException"),(.type "object")],37,"MillError",true,[],[r 51,r 70,r 82],false,none,false⟩),#[(some (.ref 22)),none,(some (.str "MillError" 196)),(some (.str "MillError" 204)),(some (.builtin "Exception.__new__")),(some (.bool true))]⟩
abbrev o121:=di 4<|c e69<|c (en "__qualname__" 277 (.str "SheetFault" 276))<|c e47<|c e90<|z
abbrev o124:=cd "SheetFault" "SheetFault" 270 16 0 0 76 false 77 .none .none .none 273 274
abbrev o125:O:=fun _=>⟨(.type "frame"),none,.plain,#[(some (.ref 78)),(some (.ref 3)),(some (.ref 75)),none,(some (.str "outlinemill.errors" 194)),none,(some (.ref 0))]⟩
abbrev o127:=di 2<|c e69<|c e47<|c e90<|c (en "__doc__" 281 .none)<|z
abbrev o128:O:=fun _=>⟨(.type "type"),none,(.cls ⟨"SheetFault",[r 38],[r 82,r 38,(.type "Exception"),(.type "BaseException"),(.type "object")],81,"SheetFault",true,[],[],false,none,false⟩),#[(some (.ref 73)),none,(some (.str "SheetFault" 268)),(some (.str "SheetFault" 276)),(some (.builtin "Exception.__new__")),(some (.bool true))]⟩
abbrev o129:O:=fun _=>⟨(.type "super"),none,(.fields #[r 82,r 82,r 82]),#[]⟩
abbrev o130:O:=fun _=>⟨(.type "builtin_function_or_method"),none,(.fields #[(.builtin "object.__init_subclass__"),r 82]),#[]⟩
abbrev o131:=di 25<|c e76<|c e38<|c e80<|c e61<|c e81<|c e35<|c e36<|c e39<|c e37<|c e94<|c e19<|c e20<|c e28<|c e31<|c e8<|c e34<|c e22<|c e1<|c e12<|c e13<|c e16<|c e17<|c e104<|c e117<|c e145<|z
abbrev o132:=fi<|j 1 0 20<|j 5 0 27<|j 9 0 47<|j 11 0 59<|j 16 0 78<|j 18 0 90<|j 28 0 104<|j 33 0 112<|j 40 0 119<|[]
abbrev o133:O:=fun _=>⟨(.type "type"),none,(.cls ⟨"MillError",[(.type "Exception")],[r 38,(.type "Exception"),(.type "BaseException"),(.type "object")],37,"MillError",true,[],[r 51,r 70,r 82,r 94],false,none,false⟩),#[(some (.ref 22)),none,(some (.str "MillError" 196)),(some (.str "MillError" 204)),(some (.builtin "Exception.__new__")),(some (.bool true))]⟩
abbrev o136:=di 4<|c e70<|c (en "__qualname__" 293 (.str "LimitFault" 292))<|c e48<|c e91<|z
abbrev o139:=cd "LimitFault" "LimitFault" 286 18 0 0 88 false 89 .none .none .none 289 290
abbrev o140:O:=fun _=>⟨(.type "frame"),none,.plain,#[(some (.ref 90)),(some (.ref 3)),(some (.ref 87)),none,(some (.str "outlinemill.errors" 194)),none,(some (.ref 0))]⟩
abbrev o142:=di 2<|c e70<|c e48<|c e91<|c (en "__doc__" 297 .none)<|z
abbrev o143:O:=fun _=>⟨(.type "type"),none,(.cls ⟨"LimitFault",[r 38],[r 94,r 38,(.type "Exception"),(.type "BaseException"),(.type "object")],93,"LimitFault",true,[],[],false,none,false⟩),#[(some (.ref 85)),none,(some (.str "LimitFault" 284)),(some (.str "LimitFault" 292)),(some (.builtin "Exception.__new__")),(some (.bool true))]⟩
abbrev o144:O:=fun _=>⟨(.type "super"),none,(.fields #[r 94,r 94,r 94]),#[]⟩
abbrev o145:O:=fun _=>⟨(.type "builtin_function_or_method"),none,(.fields #[(.builtin "object.__init_subclass__"),r 94]),#[]⟩
abbrev o146:=tu [.int 0 302,.int 1 303]
abbrev o147:=tu [.int 1 305,.int 1 306]
abbrev o150:=tu [.str "one" 325,.str "other" 326,.str "first" 327,.str "second" 328]
abbrev o152:=ff (st 15) "common_divisor"
abbrev o153:=cd "common_divisor" "common_divisor" 322 28 2 3 99 true 100 (r 101) (r 102) (r 103) 329 330
abbrev o154:=fg (st 15) "common_divisor" 3 .none .none "outlinemill.exact" 300 104
abbrev o155:=tu [.int 1 332]
abbrev o158:=tu [.str "top" 336,.str "bottom" 337,.str "common" 338]
abbrev o160:=ff (st 16) "fraction"
abbrev o161:=cd "fraction" "fraction" 333 33 2 3 107 true 108 (r 109) (r 110) (r 111) 339 340
abbrev o162:=fg (st 16) "fraction" 3 (r 106) .none "outlinemill.exact" 300 112
abbrev o165:=tu [.str "a" 345,.str "b" 346]
abbrev o167:=ff (st 17) "plus"
abbrev o168:=cd "plus" "plus" 342 40 2 3 114 true 115 (r 116) (r 117) (r 118) 347 348
abbrev o169:=fg (st 17) "plus" 3 .none .none "outlinemill.exact" 300 119
abbrev o170:=di 37<|c e76<|c e38<|c e80<|c e61<|c e81<|c e35<|c e36<|c e39<|c e37<|c e94<|c e19<|c e20<|c e28<|c e31<|c e8<|c e34<|c e22<|c e1<|c e12<|c e13<|c e16<|c e17<|c e104<|c e117<|c e145<|c e140<|c e170<|c e109<|c e142<|c e95<|c e162<|c e105<|c e134<|c e121<|c e116<|c e155<|c e154<|z
abbrev o171:=fi<|j 1 0 20<|j 5 0 27<|j 9 0 47<|j 11 0 59<|j 16 0 78<|j 18 0 90<|j 28 0 104<|j 33 0 112<|j 40 0 119<|j 42 0 126<|j 44 0 133<|j 46 0 140<|j 50 0 147<|j 52 0 154<|j 54 0 161<|j 60 0 168<|j 62 0 175<|j 68 0 182<|j 74 0 189<|j 76 0 196<|j 78 0 203<|[]
abbrev o174:=tu [.str "a" 353,.str "b" 354]
abbrev o176:=ff (st 18) "minus"
abbrev o177:=cd "minus" "minus" 350 42 2 3 121 true 122 (r 123) (r 124) (r 125) 355 356
abbrev o178:=fg (st 18) "minus" 3 .none .none "outlinemill.exact" 300 126
abbrev o181:=tu [.str "a" 361,.str "b" 362]
abbrev o183:=ff (st 19) "times"
abbrev o184:=cd "times" "times" 358 44 2 3 128 true 129 (r 130) (r 131) (r 132) 363 364
abbrev o185:=fg (st 19) "times" 3 .none .none "outlinemill.exact" 300 133
abbrev o188:=tu [.str "a" 369,.str "b" 370]
abbrev o190:=ff (st 20) "divided"
abbrev o191:=cd "divided" "divided" 366 46 2 3 135 true 136 (r 137) (r 138) (r 139) 371 372
abbrev o192:=fg (st 20) "divided" 3 .none .none "outlinemill.exact" 300 140
abbrev o195:=tu [.str "a" 377]
abbrev o197:=ff (st 21) "negated"
abbrev o198:=cd "negated" "negated" 374 50 1 3 142 true 143 (r 144) (r 145) (r 146) 378 379
abbrev o199:=fg (st 21) "negated" 3 .none .none "outlinemill.exact" 300 147
abbrev o202:=tu [.str "a" 384]
abbrev o204:=ff (st 22) "absolute"
abbrev o205:=cd "absolute" "absolute" 381 52 1 3 149 true 150 (r 151) (r 152) (r 153) 385 386
abbrev o206:=fg (st 22) "absolute" 3 .none .none "outlinemill.exact" 300 154
abbrev o209:=tu [.str "a" 391]
abbrev o211:=ff (st 23) "sign_of"
abbrev o212:=cd "sign_of" "sign_of" 388 54 1 3 156 true 157 (r 158) (r 159) (r 160) 392 393
abbrev o213:=fg (st 23) "sign_of" 3 .none .none "outlinemill.exact" 300 161
abbrev o216:=tu [.str "a" 398,.str "b" 399]
abbrev o218:=ff (st 24) "compare"
abbrev o219:=cd "compare" "compare" 395 60 2 3 163 true 164 (r 165) (r 166) (r 167) 400 401
abbrev o220:=fg (st 24) "compare" 3 .none .none "outlinemill.exact" 300 168
abbrev o223:=tu [.str "some" 406,.str "found" 407,.str "one" 408]
abbrev o225:=ff (st 25) "least"
abbrev o226:=cd "least" "least" 403 62 1 3 170 true 171 (r 172) (r 173) (r 174) 409 410
abbrev o227:=fg (st 25) "least" 3 .none .none "outlinemill.exact" 300 175
abbrev o230:=tu [.str "some" 415,.str "found" 416,.str "one" 417]
abbrev o232:=ff (st 26) "greatest"
abbrev o233:=cd "greatest" "greatest" 412 68 1 3 177 true 178 (r 179) (r 180) (r 181) 418 419
abbrev o234:=fg (st 26) "greatest" 3 .none .none "outlinemill.exact" 300 182
abbrev o237:=tu [.str "a" 424]
abbrev o239:=ff (st 27) "floor_of"
abbrev o240:=cd "floor_of" "floor_of" 421 74 1 3 184 true 185 (r 186) (r 187) (r 188) 425 426
abbrev o241:=fg (st 27) "floor_of" 3 .none .none "outlinemill.exact" 300 189
abbrev o244:=tu [.str "a" 431]
abbrev o246:=ff (st 28) "rounded"
abbrev o247:=cd "rounded" "rounded" 428 76 1 3 191 true 192 (r 193) (r 194) (r 195) 432 433
abbrev o248:=fg (st 28) "rounded" 3 .none .none "outlinemill.exact" 300 196
abbrev o251:=tu [.str "n" 438,.str "found" 439,.str "lower" 440]
abbrev o253:=ff (st 29) "root_floor"
abbrev o254:=cd "root_floor" "root_floor" 435 78 1 3 198 true 199 (r 200) (r 201) (r 202) 441 442
abbrev o255:=fg (st 29) "root_floor" 3 .none .none "outlinemill.exact" 300 203
abbrev o256:=di 40<|c e76<|c e38<|c e80<|c e61<|c e81<|c e35<|c e36<|c e39<|c e37<|c e94<|c e19<|c e20<|c e28<|c e31<|c e8<|c e34<|c e22<|c e1<|c e12<|c e13<|c e16<|c e17<|c e104<|c e117<|c e145<|c e140<|c e170<|c e109<|c e142<|c e95<|c e162<|c e105<|c e134<|c e121<|c e116<|c e155<|c e154<|c e21<|c e179<|c e153<|z
abbrev o257:=fi<|j 1 0 20<|j 5 0 27<|j 9 0 47<|j 11 0 59<|j 16 0 78<|j 18 0 90<|j 28 0 104<|j 33 0 112<|j 40 0 119<|j 42 0 126<|j 44 0 133<|j 46 0 140<|j 50 0 147<|j 52 0 154<|j 54 0 161<|j 60 0 168<|j 62 0 175<|j 68 0 182<|j 74 0 189<|j 76 0 196<|j 78 0 203<|j 91 0 210<|j 111 0 252<|j 116 0 259<|[]
abbrev o260:=di 8<|c e71<|c (en "__qualname__" 453 (.str "NumberText" 452))<|c e49<|c e58<|c e132<|c e163<|c e108<|c e92<|z
abbrev o262:=fi<|j 93 4 217<|j 97 4 224<|j 100 4 231<|j 106 4 238<|[]
abbrev o263:=cd "NumberText" "NumberText" 446 91 0 0 208 false 209 .none .none .none 449 450
abbrev o264:O:=fun _=>⟨(.type "frame"),none,.plain,#[(some (.ref 210)),(some (.ref 3)),(some (.ref 207)),none,(some (.str "outlinemill.exact" 300)),none,(some (.ref 0))]⟩
abbrev o267:=tu [.str "self" 459,.str "text" 460]
abbrev o269:=ff (ms 30 0) "NumberText.__init__"
abbrev o270:=cd "__init__" "NumberText.__init__" 456 93 2 3 212 true 213 (r 214) (r 215) (r 216) 461 462
abbrev o271:=fg (ms 30 0) "NumberText.__init__" 3 .none .none "outlinemill.exact" 300 217
abbrev o274:=tu [.str "self" 467,.str "signs" 468]
abbrev o276:=ff (ms 30 1) "NumberText.is_one_of"
abbrev o277:=cd "is_one_of" "NumberText.is_one_of" 464 97 2 3 219 true 220 (r 221) (r 222) (r 223) 469 470
abbrev o278:=fg (ms 30 1) "NumberText.is_one_of" 3 .none .none "outlinemill.exact" 300 224
abbrev o281:=tu [.str "self" 475,.str "signs" 476]
abbrev o283:=ff (ms 30 2) "NumberText.skip"
abbrev o284:=cd "skip" "NumberText.skip" 472 100 2 3 226 true 227 (r 228) (r 229) (r 230) 477 478
abbrev o285:=fg (ms 30 2) "NumberText.skip" 3 .none .none "outlinemill.exact" 300 231
abbrev o288:=tu [.str "self" 483,.str "begin" 484]
abbrev o290:=ff (ms 30 3) "NumberText.digits"
abbrev o291:=cd "digits" "NumberText.digits" 480 106 1 3 233 true 234 (r 235) (r 236) (r 237) 485 486
abbrev o292:=fg (ms 30 3) "NumberText.digits" 3 .none .none "outlinemill.exact" 300 238
abbrev o293:=tu [.str "at" 488,.str "text" 489]
abbrev o294:=di 4<|c e71<|c e49<|c e58<|c e132<|c e163<|c e108<|c e92<|c (en "__dict__" 492 (r 243))<|c (en "__weakref__" 494 (r 244))<|c (en "__doc__" 495 .none)<|z
abbrev o295:O:=fun _=>⟨(.type "type"),none,(.cls ⟨"NumberText",[(.type "object")],[r 242,(.type "object")],241,"NumberText",true,[],[],false,none,false⟩),#[none,none,(some (.str "NumberText" 444)),(some (.str "NumberText" 452)),(some (.builtin "object.__new__")),(some (.bool true))]⟩
abbrev o296:O:=fun _=>⟨(.type "getset_descriptor"),none,(.fields #[(.str "__dict__" 491),r 242,(.builtin "function.__dict__"),(.builtin "function.__dict__#set")]),#[]⟩
abbrev o297:O:=fun _=>⟨(.type "getset_descriptor"),none,(.fields #[(.str "__weakref__" 493),r 242,(.builtin "ExceptionGroup.__weakref__"),.none]),#[]⟩
abbrev o298:O:=fun _=>⟨(.type "super"),none,(.fields #[r 242,r 242,r 242]),#[]⟩
abbrev o299:O:=fun _=>⟨(.type "builtin_function_or_method"),none,(.fields #[(.builtin "object.__init_subclass__"),r 242]),#[]⟩
abbrev o302:=tu [.str "digits" 501,.str "number" 502,.str "digit" 503]
abbrev o304:=ff (st 31) "whole_of"
abbrev o305:=cd "whole_of" "whole_of" 498 111 1 3 247 true 248 (r 249) (r 250) (r 251) 504 505
abbrev o306:=fg (st 31) "whole_of" 3 .none .none "outlinemill.exact" 300 252
abbrev o309:=tu [.str "reader" 510,.str "sign" 511,.str "digits" 512]
abbrev o311:=ff (st 32) "read_exponent"
abbrev o312:=cd "read_exponent" "read_exponent" 507 116 1 3 254 true 255 (r 256) (r 257) (r 258) 513 514
abbrev o313:=fg (st 32) "read_exponent" 3 .none .none "outlinemill.exact" 300 259
abbrev o314:=di 55<|c (en "__name__" 165 (.str "outlinemill.angles" 558))<|c e38<|c e80<|c e61<|c e81<|c e35<|c e36<|c e39<|c e37<|c e94<|c e19<|c e20<|c e28<|c e31<|c e8<|c e34<|c e22<|c e1<|c e12<|c e13<|c e16<|c e17<|c e104<|c e117<|c e145<|c e140<|c e170<|c e109<|c e142<|c e95<|c e162<|c e105<|c e134<|c e121<|c e116<|c e155<|c e154<|c e21<|c e179<|c e153<|c e152<|c e180<|c e101<|c e147<|c e26<|c e25<|c e9<|c e10<|c e29<|c e5<|c e178<|c e158<|c e160<|c e164<|c e141<|z
abbrev o315:=fi<|j 1 0 20<|j 5 0 27<|j 9 0 47<|j 11 0 59<|j 16 0 78<|j 18 0 90<|j 28 0 104<|j 33 0 112<|j 40 0 119<|j 42 0 126<|j 44 0 133<|j 46 0 140<|j 50 0 147<|j 52 0 154<|j 54 0 161<|j 60 0 168<|j 62 0 175<|j 68 0 182<|j 74 0 189<|j 76 0 196<|j 78 0 203<|j 91 0 210<|j 111 0 252<|j 116 0 259<|j 123 0 266<|j 139 0 274<|j 152 0 279<|j 158 0 284<|j 168 0 293<|j 171 0 300<|j 173 0 307<|j 180 0 314<|j 186 0 321<|[]
abbrev o318:=tu [.str "text" 519,.str "reader" 520,.str "sign" 521,.str "whole" 522,.str "parts" 523,.str "exponent" 524,.str "top" 525,.str "bottom" 526]
abbrev o320:=ff (st 33) "read_decimal"
abbrev o321:=cd "read_decimal" "read_decimal" 516 123 1 3 261 true 262 (r 263) (r 264) (r 265) 527 528
abbrev o322:=fg (st 33) "read_decimal" 3 .none .none "outlinemill.exact" 300 266
abbrev o323:=tu [.int 6 530]
abbrev o326:=tu [.str "a" 534,.str "places" 535,.str "scale" 536,.str "scaled" 537,.str "told" 538,.str "rest" 539,.str "parts" 540]
abbrev o328:=ff (st 34) "write_decimal"
abbrev o329:=cd "write_decimal" "write_decimal" 531 139 2 3 269 true 270 (r 271) (r 272) (r 273) 541 542
abbrev o330:=fg (st 34) "write_decimal" 3 (r 268) .none "outlinemill.exact" 300 274
abbrev o333:=ff (st 36) "box_of"
abbrev o334:=cd "box_of" "box_of" 546 152 1 3 276 true 277 .none .none (r 278) 549 550
abbrev o335:=fg (st 36) "box_of" 3 .none .none "outlinemill.bounds" 544 279
abbrev o338:=ff (st 37) "point_box"
abbrev o339:=cd "point_box" "point_box" 552 158 1 3 281 true 282 .none .none (r 283) 555 556
abbrev o340:=fg (st 37) "point_box" 3 .none .none "outlinemill.bounds" 544 284
abbrev o341:=tu [.int 90 574,.int 1 575]
abbrev o342:=tu [.int 45 577,.int 1 578]
abbrev o345:=tu [.str "bottom" 583]
abbrev o347:=ff (st 45) "want_bottom"
abbrev o348:=cd "want_bottom" "want_bottom" 580 168 1 3 288 true 289 (r 290) (r 291) (r 292) 584 585
abbrev o349:=fg (st 45) "want_bottom" 3 .none .none "outlinemill.angles" 558 293
abbrev o352:=tu [.str "degrees" 590,.str "scale" 591]
abbrev o354:=ff (st 46) "scaled_radians"
abbrev o355:=cd "scaled_radians" "scaled_radians" 587 171 2 3 295 true 296 (r 297) (r 298) (r 299) 592 593
abbrev o356:=fg (st 46) "scaled_radians" 3 .none .none "outlinemill.angles" 558 300
abbrev o359:=tu [.str "first" 598,.str "square" 599,.str "scale" 600,.str "begin" 601,.str "total" 602,.str "term" 603,.str "step" 604]
abbrev o361:=ff (st 47) "series"
abbrev o362:=cd "series" "series" 595 173 4 3 302 true 303 (r 304) (r 305) (r 306) 605 606
abbrev o363:=fg (st 47) "series" 3 .none .none "outlinemill.angles" 558 307
abbrev o366:=tu [.str "degrees" 611,.str "bottom" 612,.str "scale" 613,.str "radians" 614,.str "square" 615,.str "cosine" 616,.str "sine" 617]
abbrev o368:=ff (st 48) "small_turn"
abbrev o369:=cd "small_turn" "small_turn" 608 180 2 3 309 true 310 (r 311) (r 312) (r 313) 618 619
abbrev o370:=fg (st 48) "small_turn" 3 .none .none "outlinemill.angles" 558 314
abbrev o373:=tu [.str "number" 624,.str "scale" 625,.str "bottom" 626]
abbrev o375:=ff (st 49) "near"
abbrev o376:=cd "near" "near" 621 186 3 3 316 true 317 (r 318) (r 319) (r 320) 627 628
abbrev o377:=fg (st 49) "near" 3 .none .none "outlinemill.angles" 558 321
abbrev o378:=di 64<|c e74<|c e38<|c e80<|c e61<|c e81<|c e35<|c e36<|c e39<|c e37<|c e94<|c e19<|c e20<|c e28<|c e31<|c e8<|c e34<|c e22<|c e1<|c e12<|c e13<|c e16<|c e17<|c e104<|c e117<|c e145<|c e140<|c e170<|c e109<|c e142<|c e95<|c e162<|c e105<|c e134<|c e121<|c e116<|c e155<|c e154<|c e21<|c e179<|c e153<|c e152<|c e180<|c e101<|c e147<|c e26<|c e25<|c e9<|c e10<|c e29<|c e5<|c e178<|c e158<|c e160<|c e164<|c e141<|c e151<|c e172<|c e24<|c e32<|c e127<|c e171<|c e173<|c e110<|c e106<|z
abbrev o379:=fi<|j 1 0 20<|j 5 0 27<|j 9 0 47<|j 11 0 59<|j 16 0 78<|j 18 0 90<|j 28 0 104<|j 33 0 112<|j 40 0 119<|j 42 0 126<|j 44 0 133<|j 46 0 140<|j 50 0 147<|j 52 0 154<|j 54 0 161<|j 60 0 168<|j 62 0 175<|j 68 0 182<|j 74 0 189<|j 76 0 196<|j 78 0 203<|j 91 0 210<|j 111 0 252<|j 116 0 259<|j 123 0 266<|j 139 0 274<|j 152 0 279<|j 158 0 284<|j 168 0 293<|j 171 0 300<|j 173 0 307<|j 180 0 314<|j 186 0 321<|j 188 0 328<|j 197 0 336<|j 210 0 344<|j 212 0 351<|j 217 0 358<|j 219 0 365<|j 221 0 372<|[]
abbrev o382:=tu [.str "degrees" 633,.str "bottom" 634,.str "side" 635,.str "cosine" 636,.str "sine" 637]
abbrev o384:=ff (st 50) "quarter_turn"
abbrev o385:=cd "quarter_turn" "quarter_turn" 630 188 2 3 323 true 324 (r 325) (r 326) (r 327) 638 639
abbrev o386:=fg (st 50) "quarter_turn" 3 .none .none "outlinemill.angles" 558 328
abbrev o387:=tu [.int 65536 641]
abbrev o390:=tu [.str "degrees" 645,.str "bottom" 646,.str "quarters" 647,.str "rest" 648,.str "cosine" 649,.str "sine" 650,.str "turn" 651]
abbrev o392:=ff (st 51) "turn_of"
abbrev o393:=cd "turn_of" "turn_of" 642 197 2 3 331 true 332 (r 333) (r 334) (r 335) 652 653
abbrev o394:=fg (st 51) "turn_of" 3 (r 330) .none "outlinemill.angles" 558 336
abbrev o395:=tu [.int 1152921504606846976 657]
abbrev o398:=tu [.str "a" 664,.str "parts" 665]
abbrev o400:=ff (st 55) "in_parts"
abbrev o401:=cd "in_parts" "in_parts" 661 210 2 3 339 true 340 (r 341) (r 342) (r 343) 666 667
abbrev o402:=fg (st 55) "in_parts" 3 (r 338) .none "outlinemill.arcs" 655 344
abbrev o405:=tu [.str "rx" 672,.str "ry" 673,.str "radius" 674,.str "told" 675]
abbrev o407:=ff (st 56) "told_parts"
abbrev o408:=cd "told_parts" "told_parts" 669 212 2 3 346 true 347 (r 348) (r 349) (r 350) 676 677
abbrev o409:=fg (st 56) "told_parts" 3 .none .none "outlinemill.arcs" 655 351
abbrev o412:=tu [.str "v" 682]
abbrev o414:=ff (st 57) "turned"
abbrev o415:=cd "turned" "turned" 679 217 1 3 353 true 354 (r 355) (r 356) (r 357) 683 684
abbrev o416:=fg (st 57) "turned" 3 .none .none "outlinemill.arcs" 655 358
abbrev o419:=tu [.str "v" 689,.str "w" 690]
abbrev o421:=ff (st 58) "dot"
abbrev o422:=cd "dot" "dot" 686 219 2 3 360 true 361 (r 362) (r 363) (r 364) 691 692
abbrev o423:=fg (st 58) "dot" 3 .none .none "outlinemill.arcs" 655 365
abbrev o426:=tu [.str "v" 697,.str "w" 698]
abbrev o428:=ff (st 59) "cross"
abbrev o429:=cd "cross" "cross" 694 221 2 3 367 true 368 (r 369) (r 370) (r 371) 699 700
abbrev o430:=fg (st 59) "cross" 3 .none .none "outlinemill.arcs" 655 372
abbrev o431:=di 68<|c e74<|c e38<|c e80<|c e61<|c e81<|c e35<|c e36<|c e39<|c e37<|c e94<|c e19<|c e20<|c e28<|c e31<|c e8<|c e34<|c e22<|c e1<|c e12<|c e13<|c e16<|c e17<|c e104<|c e117<|c e145<|c e140<|c e170<|c e109<|c e142<|c e95<|c e162<|c e105<|c e134<|c e121<|c e116<|c e155<|c e154<|c e21<|c e179<|c e153<|c e152<|c e180<|c e101<|c e147<|c e26<|c e25<|c e9<|c e10<|c e29<|c e5<|c e178<|c e158<|c e160<|c e164<|c e141<|c e151<|c e172<|c e24<|c e32<|c e127<|c e171<|c e173<|c e110<|c e106<|c e3<|c e102<|c e133<|c e150<|z
abbrev o432:=fi<|j 1 0 20<|j 5 0 27<|j 9 0 47<|j 11 0 59<|j 16 0 78<|j 18 0 90<|j 28 0 104<|j 33 0 112<|j 40 0 119<|j 42 0 126<|j 44 0 133<|j 46 0 140<|j 50 0 147<|j 52 0 154<|j 54 0 161<|j 60 0 168<|j 62 0 175<|j 68 0 182<|j 74 0 189<|j 76 0 196<|j 78 0 203<|j 91 0 210<|j 111 0 252<|j 116 0 259<|j 123 0 266<|j 139 0 274<|j 152 0 279<|j 158 0 284<|j 168 0 293<|j 171 0 300<|j 173 0 307<|j 180 0 314<|j 186 0 321<|j 188 0 328<|j 197 0 336<|j 210 0 344<|j 212 0 351<|j 217 0 358<|j 219 0 365<|j 221 0 372<|j 223 0 379<|j 239 0 414<|j 250 0 421<|j 253 0 428<|[]
abbrev o435:=di 7<|c e72<|c (en "__qualname__" 711 (.str "Ellipse" 710))<|c e50<|c e59<|c e135<|c e98<|c e93<|z
abbrev o437:=fi<|j 225 4 386<|j 232 4 393<|j 236 4 400<|[]
abbrev o438:=cd "Ellipse" "Ellipse" 704 223 0 0 377 false 378 .none .none .none 707 708
abbrev o439:O:=fun _=>⟨(.type "frame"),none,.plain,#[(some (.ref 379)),(some (.ref 3)),(some (.ref 376)),none,(some (.str "outlinemill.arcs" 655)),none,(some (.ref 0))]⟩
abbrev o442:=tu [.str "self" 717,.str "rx" 718,.str "ry" 719,.str "turn" 720,.str "cosine" 721,.str "sine" 722]
abbrev o444:=ff (ms 60 0) "Ellipse.__init__"
abbrev o445:=cd "__init__" "Ellipse.__init__" 714 225 4 3 381 true 382 (r 383) (r 384) (r 385) 723 724
abbrev o446:=fg (ms 60 0) "Ellipse.__init__" 3 .none .none "outlinemill.arcs" 655 386
abbrev o449:=tu [.str "self" 729,.str "v" 730,.str "x" 731,.str "y" 732]
abbrev o451:=ff (ms 60 1) "Ellipse.led"
abbrev o452:=cd "led" "Ellipse.led" 726 232 2 3 388 true 389 (r 390) (r 391) (r 392) 733 734
abbrev o453:=fg (ms 60 1) "Ellipse.led" 3 .none .none "outlinemill.arcs" 655 393
abbrev o456:=tu [.str "self" 739,.str "v" 740,.str "x" 741,.str "y" 742]
abbrev o458:=ff (ms 60 2) "Ellipse.back"
abbrev o459:=cd "back" "Ellipse.back" 736 236 2 3 395 true 396 (r 397) (r 398) (r 399) 743 744
abbrev o460:=fg (ms 60 2) "Ellipse.back" 3 .none .none "outlinemill.arcs" 655 400
abbrev o461:=tu [.str "cosine" 746,.str "rx" 747,.str "ry" 748,.str "sine" 749]
abbrev o462:=di 4<|c e72<|c e50<|c e59<|c e135<|c e98<|c e93<|c (en "__dict__" 752 (r 405))<|c (en "__weakref__" 754 (r 406))<|c (en "__doc__" 755 .none)<|z
abbrev o463:O:=fun _=>⟨(.type "type"),none,(.cls ⟨"Ellipse",[(.type "object")],[r 404,(.type "object")],403,"Ellipse",true,[],[],false,none,false⟩),#[none,none,(some (.str "Ellipse" 702)),(some (.str "Ellipse" 710)),(some (.builtin "object.__new__")),(some (.bool true))]⟩
abbrev o464:O:=fun _=>⟨(.type "getset_descriptor"),none,(.fields #[(.str "__dict__" 751),r 404,(.builtin "function.__dict__"),(.builtin "function.__dict__#set")]),#[]⟩
abbrev o465:O:=fun _=>⟨(.type "getset_descriptor"),none,(.fields #[(.str "__weakref__" 753),r 404,(.builtin "ExceptionGroup.__weakref__"),.none]),#[]⟩
abbrev o466:O:=fun _=>⟨(.type "super"),none,(.fields #[r 404,r 404,r 404]),#[]⟩
abbrev o467:O:=fun _=>⟨(.type "builtin_function_or_method"),none,(.fields #[(.builtin "object.__init_subclass__"),r 404]),#[]⟩
abbrev o470:=tu [.str "p" 761,.str "q" 762,.str "is_large" 763,.str "is_sweep" 764,.str "apart" 765,.str "middle" 766,.str "size" 767,.str "whole" 768,.str "share" 769,.str "away" 770]
abbrev o472:=ff (st 61) "centre_of"
abbrev o473:=cd "centre_of" "centre_of" 758 239 4 3 409 true 410 (r 411) (r 412) (r 413) 771 772
abbrev o474:=fg (st 61) "centre_of" 3 .none .none "outlinemill.arcs" 655 414
abbrev o477:=tu [.str "one" 777,.str "other" 778,.str "is_sweep" 779,.str "turn" 780]
abbrev o479:=ff (st 62) "is_within_quarter"
abbrev o480:=cd "is_within_quarter" "is_within_quarter" 774 250 3 3 416 true 417 (r 418) (r 419) (r 420) 781 782
abbrev o481:=fg (st 62) "is_within_quarter" 3 .none .none "outlinemill.arcs" 655 421
abbrev o484:=tu [.str "one" 787,.str "is_sweep" 788]
abbrev o486:=ff (st 63) "quarter_on"
abbrev o487:=cd "quarter_on" "quarter_on" 784 253 2 3 423 true 424 (r 425) (r 426) (r 427) 789 790
abbrev o488:=fg (st 63) "quarter_on" 3 .none .none "outlinemill.arcs" 655 428
abbrev o489:=di 79<|c e77<|c e38<|c e80<|c e61<|c e81<|c e35<|c e36<|c e39<|c e37<|c e94<|c e19<|c e20<|c e28<|c e31<|c e8<|c e34<|c e22<|c e1<|c e12<|c e13<|c e16<|c e17<|c e104<|c e117<|c e145<|c e140<|c e170<|c e109<|c e142<|c e95<|c e162<|c e105<|c e134<|c e121<|c e116<|c e155<|c e154<|c e21<|c e179<|c e153<|c e152<|c e180<|c e101<|c e147<|c e26<|c e25<|c e9<|c e10<|c e29<|c e5<|c e178<|c e158<|c e160<|c e164<|c e141<|c e151<|c e172<|c e24<|c e32<|c e127<|c e171<|c e173<|c e110<|c e106<|c e3<|c e102<|c e133<|c e150<|c e125<|c e143<|c e177<|c e166<|c e148<|c e97<|c e165<|c e131<|c e130<|c e139<|c e124<|z
abbrev o490:=fi<|j 1 0 20<|j 5 0 27<|j 9 0 47<|j 11 0 59<|j 16 0 78<|j 18 0 90<|j 28 0 104<|j 33 0 112<|j 40 0 119<|j 42 0 126<|j 44 0 133<|j 46 0 140<|j 50 0 147<|j 52 0 154<|j 54 0 161<|j 60 0 168<|j 62 0 175<|j 68 0 182<|j 74 0 189<|j 76 0 196<|j 78 0 203<|j 91 0 210<|j 111 0 252<|j 116 0 259<|j 123 0 266<|j 139 0 274<|j 152 0 279<|j 158 0 284<|j 168 0 293<|j 171 0 300<|j 173 0 307<|j 180 0 314<|j 186 0 321<|j 188 0 328<|j 197 0 336<|j 210 0 344<|j 212 0 351<|j 217 0 358<|j 219 0 365<|j 221 0 372<|j 223 0 379<|j 239 0 414<|j 250 0 421<|j 253 0 428<|j 255 0 435<|j 260 0 442<|j 265 0 449<|j 272 0 456<|j 278 0 461<|j 282 0 466<|j 305 0 473<|j 309 0 480<|j 321 0 487<|j 326 0 494<|j 328 0 499<|[]
abbrev o493:=tu [.str "one" 795,.str "other" 796,.str "way" 797,.str "half_sine" 798,.str "half_cosine" 799]
abbrev o495:=ff (st 64) "handle_share"
abbrev o496:=cd "handle_share" "handle_share" 792 255 2 3 430 true 431 (r 432) (r 433) (r 434) 800 801
abbrev o497:=fg (st 64) "handle_share" 3 .none .none "outlinemill.arcs" 655 435
abbrev o500:=tu [.str "one" 806,.str "other" 807,.str "is_sweep" 808,.str "share" 809,.str "ahead" 810,.str "behind" 811,.str "first" 812]
abbrev o502:=ff (st 65) "piece_of"
abbrev o503:=cd "piece_of" "piece_of" 803 260 3 3 437 true 438 (r 439) (r 440) (r 441) 813 814
abbrev o504:=fg (st 65) "piece_of" 3 .none .none "outlinemill.arcs" 655 442
abbrev o507:=tu [.str "one" 819,.str "other" 820,.str "is_sweep" 821,.str "found" 822,.str "turn" 823]
abbrev o509:=ff (st 66) "vectors_of"
abbrev o510:=cd "vectors_of" "vectors_of" 816 265 3 3 444 true 445 (r 446) (r 447) (r 448) 824 825
abbrev o511:=fg (st 66) "vectors_of" 3 .none .none "outlinemill.arcs" 655 449
abbrev o514:=tu [.str "p" 830,.str "q" 831,.str "found" 832,.str "share" 833,.str "x" 834,.str "y" 835]
abbrev o516:=ff (st 67) "straight"
abbrev o517:=cd "straight" "straight" 827 272 2 3 451 true 452 (r 453) (r 454) (r 455) 836 837
abbrev o518:=fg (st 67) "straight" 3 .none .none "outlinemill.arcs" 655 456
abbrev o521:=ff (st 68) "point_told"
abbrev o522:=cd "point_told" "point_told" 839 278 5 3 458 true 459 .none .none (r 460) 842 843
abbrev o523:=fg (st 68) "point_told" 3 .none .none "outlinemill.arcs" 655 461
abbrev o526:=ff (st 69) "arc_cubics"
abbrev o527:=cd "arc_cubics" "arc_cubics" 845 282 7 3 463 true 464 .none .none (r 465) 848 849
abbrev o528:=fg (st 69) "arc_cubics" 3 .none .none "outlinemill.arcs" 655 466
abbrev o531:=tu [.str "matrix" 856,.str "p" 857,.str "grain" 858,.str "x" 859,.str "y" 860]
abbrev o533:=ff (st 71) "spot_of"
abbrev o534:=cd "spot_of" "spot_of" 853 305 3 3 468 true 469 (r 470) (r 471) (r 472) 861 862
abbrev o535:=fg (st 71) "spot_of" 3 .none .none "outlinemill.transforms" 851 473
abbrev o538:=tu [.str "spot" 869,.str "one" 870,.str "other" 871,.str "bound" 872,.str "x" 873,.str "y" 874,.str "ahead" 875,.str "aside" 876,.str "size" 877,.str "along" 878,.str "turn" 879]
abbrev o540:=ff (st 73) "is_near"
abbrev o541:=cd "is_near" "is_near" 866 309 4 3 475 true 476 (r 477) (r 478) (r 479) 880 881
abbrev o542:=fg (st 73) "is_near" 3 .none .none "outlinemill.flatten" 864 480
abbrev o545:=tu [.str "spots" 886,.str "bound" 887,.str "spot" 888]
abbrev o547:=ff (st 74) "is_flat"
abbrev o548:=cd "is_flat" "is_flat" 883 321 2 3 482 true 483 (r 484) (r 485) (r 486) 889 890
abbrev o549:=fg (st 74) "is_flat" 3 .none .none "outlinemill.flatten" 864 487
abbrev o552:=tu [.str "one" 895,.str "other" 896]
abbrev o554:=ff (st 75) "middle"
abbrev o555:=cd "middle" "middle" 892 326 2 3 489 true 490 (r 491) (r 492) (r 493) 897 898
abbrev o556:=fg (st 75) "middle" 3 .none .none "outlinemill.flatten" 864 494
abbrev o559:=ff (st 76) "halves"
abbrev o560:=cd "halves" "halves" 900 328 1 3 496 true 497 .none .none (r 498) 903 904
abbrev o561:=fg (st 76) "halves" 3 .none .none "outlinemill.flatten" 864 499
abbrev o562:=di 82<|c e77<|c e38<|c e80<|c e61<|c e81<|c e35<|c e36<|c e39<|c e37<|c e94<|c e19<|c e20<|c e28<|c e31<|c e8<|c e34<|c e22<|c e1<|c e12<|c e13<|c e16<|c e17<|c e104<|c e117<|c e145<|c e140<|c e170<|c e109<|c e142<|c e95<|c e162<|c e105<|c e134<|c e121<|c e116<|c e155<|c e154<|c e21<|c e179<|c e153<|c e152<|c e180<|c e101<|c e147<|c e26<|c e25<|c e9<|c e10<|c e29<|c e5<|c e178<|c e158<|c e160<|c e164<|c e141<|c e151<|c e172<|c e24<|c e32<|c e127<|c e171<|c e173<|c e110<|c e106<|c e3<|c e102<|c e133<|c e150<|c e125<|c e143<|c e177<|c e166<|c e148<|c e97<|c e165<|c e131<|c e130<|c e139<|c e124<|c e114<|c e156<|c e175<|z
abbrev o563:=fi<|j 1 0 20<|j 5 0 27<|j 9 0 47<|j 11 0 59<|j 16 0 78<|j 18 0 90<|j 28 0 104<|j 33 0 112<|j 40 0 119<|j 42 0 126<|j 44 0 133<|j 46 0 140<|j 50 0 147<|j 52 0 154<|j 54 0 161<|j 60 0 168<|j 62 0 175<|j 68 0 182<|j 74 0 189<|j 76 0 196<|j 78 0 203<|j 91 0 210<|j 111 0 252<|j 116 0 259<|j 123 0 266<|j 139 0 274<|j 152 0 279<|j 158 0 284<|j 168 0 293<|j 171 0 300<|j 173 0 307<|j 180 0 314<|j 186 0 321<|j 188 0 328<|j 197 0 336<|j 210 0 344<|j 212 0 351<|j 217 0 358<|j 219 0 365<|j 221 0 372<|j 223 0 379<|j 239 0 414<|j 250 0 421<|j 253 0 428<|j 255 0 435<|j 260 0 442<|j 265 0 449<|j 272 0 456<|j 278 0 461<|j 282 0 466<|j 305 0 473<|j 309 0 480<|j 321 0 487<|j 326 0 494<|j 328 0 499<|j 336 0 506<|j 347 0 513<|j 349 0 520<|[]
abbrev o566:=tu [.str "spots" 909,.str "bound" 910,.str "most" 911,.str "found" 912,.str "left" 913,.str "here" 914,.str "depth" 915,.str "first" 916,.str "second" 917]
abbrev o568:=ff (st 77) "flat_spots"
abbrev o569:=cd "flat_spots" "flat_spots" 906 336 3 3 501 true 502 (r 503) (r 504) (r 505) 918 919
abbrev o570:=fg (st 77) "flat_spots" 3 .none .none "outlinemill.flatten" 864 506
abbrev o573:=tu [.str "spot" 924,.str "many" 925]
abbrev o575:=ff (st 78) "rounded_spot"
abbrev o576:=cd "rounded_spot" "rounded_spot" 921 347 2 3 508 true 509 (r 510) (r 511) (r 512) 926 927
abbrev o577:=fg (st 78) "rounded_spot" 3 .none .none "outlinemill.flatten" 864 513
abbrev o580:=tu [.str "spots" 932,.str "found" 933,.str "spot" 934]
abbrev o582:=ff (st 79) "unlike_neighbours"
abbrev o583:=cd "unlike_neighbours" "unlike_neighbours" 929 349 1 3 515 true 516 (r 517) (r 518) (r 519) 935 936
abbrev o584:=fg (st 79) "unlike_neighbours" 3 .none .none "outlinemill.flatten" 864 520
abbrev o585:=di 83<|c e77<|c e38<|c e80<|c e61<|c e81<|c e35<|c e36<|c e39<|c e37<|c e94<|c e19<|c e20<|c e28<|c e31<|c e8<|c e34<|c e22<|c e1<|c e12<|c e13<|c e16<|c e17<|c e104<|c e117<|c e145<|c e140<|c e170<|c e109<|c e142<|c e95<|c e162<|c e105<|c e134<|c e121<|c e116<|c e155<|c e154<|c e21<|c e179<|c e153<|c e152<|c e180<|c e101<|c e147<|c e26<|c e25<|c e9<|c e10<|c e29<|c e5<|c e178<|c e158<|c e160<|c e164<|c e141<|c e151<|c e172<|c e24<|c e32<|c e127<|c e171<|c e173<|c e110<|c e106<|c e3<|c e102<|c e133<|c e150<|c e125<|c e143<|c e177<|c e166<|c e148<|c e97<|c e165<|c e131<|c e130<|c e139<|c e124<|c e114<|c e156<|c e175<|c e4<|z
abbrev o586:=fi<|j 1 0 20<|j 5 0 27<|j 9 0 47<|j 11 0 59<|j 16 0 78<|j 18 0 90<|j 28 0 104<|j 33 0 112<|j 40 0 119<|j 42 0 126<|j 44 0 133<|j 46 0 140<|j 50 0 147<|j 52 0 154<|j 54 0 161<|j 60 0 168<|j 62 0 175<|j 68 0 182<|j 74 0 189<|j 76 0 196<|j 78 0 203<|j 91 0 210<|j 111 0 252<|j 116 0 259<|j 123 0 266<|j 139 0 274<|j 152 0 279<|j 158 0 284<|j 168 0 293<|j 171 0 300<|j 173 0 307<|j 180 0 314<|j 186 0 321<|j 188 0 328<|j 197 0 336<|j 210 0 344<|j 212 0 351<|j 217 0 358<|j 219 0 365<|j 221 0 372<|j 223 0 379<|j 239 0 414<|j 250 0 421<|j 253 0 428<|j 255 0 435<|j 260 0 442<|j 265 0 449<|j 272 0 456<|j 278 0 461<|j 282 0 466<|j 305 0 473<|j 309 0 480<|j 321 0 487<|j 326 0 494<|j 328 0 499<|j 336 0 506<|j 347 0 513<|j 349 0 520<|j 355 0 527<|[]
abbrev o589:=di 12<|c e73<|c (en "__qualname__" 947 (.str "Flattener" 946))<|c e51<|c e60<|c e113<|c e99<|c e112<|c e120<|c e103<|c e168<|c e96<|c e82<|z
abbrev o591:=fi<|j 357 4 534<|j 368 4 541<|j 371 4 548<|j 377 4 553<|j 385 4 558<|j 394 4 565<|j 402 4 572<|j 413 4 579<|[]
abbrev o592:=cd "Flattener" "Flattener" 940 355 0 0 525 false 526 .none .none .none 943 944
abbrev o593:O:=fun _=>⟨(.type "frame"),none,.plain,#[(some (.ref 527)),(some (.ref 3)),(some (.ref 524)),none,(some (.str "outlinemill.flatten" 864)),none,(some (.ref 0))]⟩
abbrev o596:=tu [.str "self" 953,.str "matrix" 954,.str "grain" 955,.str "bound" 956,.str "most" 957]
abbrev o598:=ff (ms 80 0) "Flattener.__init__"
abbrev o599:=cd "__init__" "Flattener.__init__" 950 357 5 3 529 true 530 (r 531) (r 532) (r 533) 958 959
abbrev o600:=fg (ms 80 0) "Flattener.__init__" 3 .none .none "outlinemill.flatten" 864 534
abbrev o603:=tu [.str "self" 964,.str "p" 965]
abbrev o605:=ff (ms 80 1) "Flattener.fine"
abbrev o606:=cd "fine" "Flattener.fine" 961 368 2 3 536 true 537 (r 538) (r 539) (r 540) 966 967
abbrev o607:=fg (ms 80 1) "Flattener.fine" 3 .none .none "outlinemill.flatten" 864 541
abbrev o610:=tu [.str "self" 972,.str "p" 973]
abbrev o612:=ff (ms 80 2) "Flattener.begin"
abbrev o613:=cd "begin" "Flattener.begin" 969 371 2 3 543 true 544 (r 545) (r 546) (r 547) 974 975
abbrev o614:=fg (ms 80 2) "Flattener.begin" 3 .none .none "outlinemill.flatten" 864 548
abbrev o617:=ff (ms 80 3) "Flattener.end"
abbrev o618:=cd "end" "Flattener.end" 977 377 2 3 550 true 551 .none .none (r 552) 980 981
abbrev o619:=fg (ms 80 3) "Flattener.end" 3 .none .none "outlinemill.flatten" 864 553
abbrev o622:=ff (ms 80 4) "Flattener.go"
abbrev o623:=cd "go" "Flattener.go" 983 385 2 3 555 true 556 .none .none (r 557) 986 987
abbrev o624:=fg (ms 80 4) "Flattener.go" 3 .none .none "outlinemill.flatten" 864 558
abbrev o627:=tu [.str "self" 992]
abbrev o629:=ff (ms 80 5) "Flattener.close"
abbrev o630:=cd "close" "Flattener.close" 989 394 1 3 560 true 561 (r 562) (r 563) (r 564) 993 994
abbrev o631:=fg (ms 80 5) "Flattener.close" 3 .none .none "outlinemill.flatten" 864 565
abbrev o634:=tu [.str "self" 999,.str "segment" 1000,.str "word" 1001]
abbrev o636:=ff (ms 80 6) "Flattener.take"
abbrev o637:=cd "take" "Flattener.take" 996 402 2 3 567 true 568 (r 569) (r 570) (r 571) 1002 1003
abbrev o638:=fg (ms 80 6) "Flattener.take" 3 .none .none "outlinemill.flatten" 864 572
abbrev o641:=tu [.str "self" 1008,.str "segment" 1009,.str "word" 1010,.str "rx" 1011,.str "ry" 1012,.str "turn" 1013,.str "is_large" 1014,.str "is_sweep" 1015,.str "p" 1016,.str "cubic" 1017]
abbrev o643:=ff (ms 80 7) "Flattener.arc"
abbrev o644:=cd "arc" "Flattener.arc" 1005 413 2 3 574 true 575 (r 576) (r 577) (r 578) 1018 1019
abbrev o645:=fg (ms 80 7) "Flattener.arc" 3 .none .none "outlinemill.flatten" 864 579
abbrev o646:=tu [.str "bound" 1021,.str "contours" 1022,.str "grain" 1023,.str "here" 1024,.str "many" 1025,.str "matrix" 1026,.str "most" 1027,.str "spots" 1028,.str "start" 1029]
abbrev o647:=di 4<|c e73<|c e51<|c e60<|c e113<|c e99<|c e112<|c e120<|c e103<|c e168<|c e96<|c e82<|c (en "__dict__" 1032 (r 584))<|c (en "__weakref__" 1034 (r 585))<|c (en "__doc__" 1035 .none)<|z
abbrev o648:O:=fun _=>⟨(.type "type"),none,(.cls ⟨"Flattener",[(.type "object")],[r 583,(.type "object")],582,"Flattener",true,[],[],false,none,false⟩),#[none,none,(some (.str "Flattener" 938)),(some (.str "Flattener" 946)),(some (.builtin "object.__new__")),(some (.bool true))]⟩
abbrev o649:O:=fun _=>⟨(.type "getset_descriptor"),none,(.fields #[(.str "__dict__" 1031),r 583,(.builtin "function.__dict__"),(.builtin "function.__dict__#set")]),#[]⟩
abbrev o650:O:=fun _=>⟨(.type "getset_descriptor"),none,(.fields #[(.str "__weakref__" 1033),r 583,(.builtin "ExceptionGroup.__weakref__"),.none]),#[]⟩
abbrev o651:O:=fun _=>⟨(.type "super"),none,(.fields #[r 583,r 583,r 583]),#[]⟩
abbrev o652:O:=fun _=>⟨(.type "builtin_function_or_method"),none,(.fields #[(.builtin "object.__init_subclass__"),r 583]),#[]⟩
abbrev o653:=di 84<|c e78<|c e38<|c e80<|c e61<|c e81<|c e35<|c e36<|c e39<|c e37<|c e94<|c e19<|c e20<|c e28<|c e31<|c e8<|c e34<|c e22<|c e1<|c e12<|c e13<|c e16<|c e17<|c e104<|c e117<|c e145<|c e140<|c e170<|c e109<|c e142<|c e95<|c e162<|c e105<|c e134<|c e121<|c e116<|c e155<|c e154<|c e21<|c e179<|c e153<|c e152<|c e180<|c e101<|c e147<|c e26<|c e25<|c e9<|c e10<|c e29<|c e5<|c e178<|c e158<|c e160<|c e164<|c e141<|c e151<|c e172<|c e24<|c e32<|c e127<|c e171<|c e173<|c e110<|c e106<|c e3<|c e102<|c e133<|c e150<|c e125<|c e143<|c e177<|c e166<|c e148<|c e97<|c e165<|c e131<|c e130<|c e139<|c e124<|c e114<|c e156<|c e175<|c e4<|c e115<|z
abbrev o654:=fi<|j 1 0 20<|j 5 0 27<|j 9 0 47<|j 11 0 59<|j 16 0 78<|j 18 0 90<|j 28 0 104<|j 33 0 112<|j 40 0 119<|j 42 0 126<|j 44 0 133<|j 46 0 140<|j 50 0 147<|j 52 0 154<|j 54 0 161<|j 60 0 168<|j 62 0 175<|j 68 0 182<|j 74 0 189<|j 76 0 196<|j 78 0 203<|j 91 0 210<|j 111 0 252<|j 116 0 259<|j 123 0 266<|j 139 0 274<|j 152 0 279<|j 158 0 284<|j 168 0 293<|j 171 0 300<|j 173 0 307<|j 180 0 314<|j 186 0 321<|j 188 0 328<|j 197 0 336<|j 210 0 344<|j 212 0 351<|j 217 0 358<|j 219 0 365<|j 221 0 372<|j 223 0 379<|j 239 0 414<|j 250 0 421<|j 253 0 428<|j 255 0 435<|j 260 0 442<|j 265 0 449<|j 272 0 456<|j 278 0 461<|j 282 0 466<|j 305 0 473<|j 309 0 480<|j 321 0 487<|j 326 0 494<|j 328 0 499<|j 336 0 506<|j 347 0 513<|j 349 0 520<|j 355 0 527<|j 419 0 594<|[]
abbrev o655:=tu [.int 1 1038,.int 8 1039]
abbrev o658:=tu [.str "segments" 1043,.str "matrix" 1044,.str "grain" 1045,.str "bound" 1046,.str "most" 1047,.str "flattener" 1048,.str "segment" 1049]
abbrev o660:=ff (st 81) "flattened"
abbrev o661:=cd "flattened" "flattened" 1040 419 5 3 589 true 590 (r 591) (r 592) (r 593) 1050 1051
abbrev o662:=fg (st 81) "flattened" 3 (r 588) .none "outlinemill.flatten" 864 594
abbrev o663:=di 85<|c e78<|c e38<|c e80<|c e61<|c e81<|c e35<|c e36<|c e39<|c e37<|c e94<|c e19<|c e20<|c e28<|c e31<|c e8<|c e34<|c e22<|c e1<|c e12<|c e13<|c e16<|c e17<|c e104<|c e117<|c e145<|c e140<|c e170<|c e109<|c e142<|c e95<|c e162<|c e105<|c e134<|c e121<|c e116<|c e155<|c e154<|c e21<|c e179<|c e153<|c e152<|c e180<|c e101<|c e147<|c e26<|c e25<|c e9<|c e10<|c e29<|c e5<|c e178<|c e158<|c e160<|c e164<|c e141<|c e151<|c e172<|c e24<|c e32<|c e127<|c e171<|c e173<|c e110<|c e106<|c e3<|c e102<|c e133<|c e150<|c e125<|c e143<|c e177<|c e166<|c e148<|c e97<|c e165<|c e131<|c e130<|c e139<|c e124<|c e114<|c e156<|c e175<|c e4<|c e115<|c e18<|z
abbrev o664:=fi<|j 1 0 20<|j 5 0 27<|j 9 0 47<|j 11 0 59<|j 16 0 78<|j 18 0 90<|j 28 0 104<|j 33 0 112<|j 40 0 119<|j 42 0 126<|j 44 0 133<|j 46 0 140<|j 50 0 147<|j 52 0 154<|j 54 0 161<|j 60 0 168<|j 62 0 175<|j 68 0 182<|j 74 0 189<|j 76 0 196<|j 78 0 203<|j 91 0 210<|j 111 0 252<|j 116 0 259<|j 123 0 266<|j 139 0 274<|j 152 0 279<|j 158 0 284<|j 168 0 293<|j 171 0 300<|j 173 0 307<|j 180 0 314<|j 186 0 321<|j 188 0 328<|j 197 0 336<|j 210 0 344<|j 212 0 351<|j 217 0 358<|j 219 0 365<|j 221 0 372<|j 223 0 379<|j 239 0 414<|j 250 0 421<|j 253 0 428<|j 255 0 435<|j 260 0 442<|j 265 0 449<|j 272 0 456<|j 278 0 461<|j 282 0 466<|j 305 0 473<|j 309 0 480<|j 321 0 487<|j 326 0 494<|j 328 0 499<|j 336 0 506<|j 347 0 513<|j 349 0 520<|j 355 0 527<|j 419 0 594<|j 426 0 601<|[]
abbrev o667:=di 11<|c e62<|c (en "__qualname__" 1064 (.str "Matrix" 1063))<|c e40<|c e52<|c e157<|c e176<|c e146<|c e169<|c e107<|c e128<|c e83<|z
abbrev o669:=fi<|j 428 4 608<|j 436 4 615<|j 439 4 622<|j 443 4 629<|j 447 4 636<|j 453 4 643<|j 456 4 650<|[]
abbrev o670:=cd "Matrix" "Matrix" 1057 426 0 0 599 false 600 .none .none .none 1060 1061
abbrev o671:O:=fun _=>⟨(.type "frame"),none,.plain,#[(some (.ref 601)),(some (.ref 3)),(some (.ref 598)),none,(some (.str "outlinemill.matrix" 1053)),none,(some (.ref 0))]⟩
abbrev o674:=tu [.str "self" 1070,.str "a" 1071,.str "b" 1072,.str "c" 1073,.str "d" 1074,.str "e" 1075,.str "f" 1076]
abbrev o676:=ff (ms 83 0) "Matrix.__init__"
abbrev o677:=cd "__init__" "Matrix.__init__" 1067 428 7 3 603 true 604 (r 605) (r 606) (r 607) 1077 1078
abbrev o678:=fg (ms 83 0) "Matrix.__init__" 3 .none .none "outlinemill.matrix" 1053 608
abbrev o681:=tu [.str "self" 1083]
abbrev o683:=ff (ms 83 1) "Matrix.row"
abbrev o684:=cd "row" "Matrix.row" 1080 436 1 3 610 true 611 (r 612) (r 613) (r 614) 1084 1085
abbrev o685:=fg (ms 83 1) "Matrix.row" 3 .none .none "outlinemill.matrix" 1053 615
abbrev o688:=tu [.str "self" 1090,.str "p" 1091,.str "x" 1092,.str "y" 1093]
abbrev o690:=ff (ms 83 2) "Matrix.vector"
abbrev o691:=cd "vector" "Matrix.vector" 1087 439 2 3 617 true 618 (r 619) (r 620) (r 621) 1094 1095
abbrev o692:=fg (ms 83 2) "Matrix.vector" 3 .none .none "outlinemill.matrix" 1053 622
abbrev o695:=tu [.str "self" 1100,.str "p" 1101,.str "x" 1102,.str "y" 1103]
abbrev o697:=ff (ms 83 3) "Matrix.point"
abbrev o698:=cd "point" "Matrix.point" 1097 443 2 3 624 true 625 (r 626) (r 627) (r 628) 1104 1105
abbrev o699:=fg (ms 83 3) "Matrix.point" 3 .none .none "outlinemill.matrix" 1053 629
abbrev o702:=tu [.str "self" 1110,.str "other" 1111,.str "a" 1112,.str "b" 1113,.str "c" 1114,.str "d" 1115,.str "e" 1116,.str "f" 1117]
abbrev o704:=ff (ms 83 4) "Matrix.then"
abbrev o705:=cd "then" "Matrix.then" 1107 447 2 3 631 true 632 (r 633) (r 634) (r 635) 1118 1119
abbrev o706:=fg (ms 83 4) "Matrix.then" 3 .none .none "outlinemill.matrix" 1053 636
abbrev o709:=tu [.str "self" 1124]
abbrev o711:=ff (ms 83 5) "Matrix.determinant"
abbrev o712:=cd "determinant" "Matrix.determinant" 1121 453 1 3 638 true 639 (r 640) (r 641) (r 642) 1125 1126
abbrev o713:=fg (ms 83 5) "Matrix.determinant" 3 .none .none "outlinemill.matrix" 1053 643
abbrev o716:=tu [.str "self" 1131]
abbrev o718:=ff (ms 83 6) "Matrix.inverse"
abbrev o719:=cd "inverse" "Matrix.inverse" 1128 456 1 3 645 true 646 (r 647) (r 648) (r 649) 1132 1133
abbrev o720:=fg (ms 83 6) "Matrix.inverse" 3 .none .none "outlinemill.matrix" 1053 650
abbrev o721:=tu [.str "a" 1135,.str "b" 1136,.str "c" 1137,.str "d" 1138,.str "e" 1139,.str "f" 1140]
abbrev o722:=di 4<|c e62<|c e40<|c e52<|c e157<|c e176<|c e146<|c e169<|c e107<|c e128<|c e83<|c (en "__dict__" 1143 (r 655))<|c (en "__weakref__" 1145 (r 656))<|c (en "__doc__" 1146 .none)<|z
abbrev o723:O:=fun _=>⟨(.type "type"),none,(.cls ⟨"Matrix",[(.type "object")],[r 654,(.type "object")],653,"Matrix",true,[],[],false,none,false⟩),#[none,none,(some (.str "Matrix" 1055)),(some (.str "Matrix" 1063)),(some (.builtin "object.__new__")),(some (.bool true))]⟩
abbrev o724:O:=fun _=>⟨(.type "getset_descriptor"),none,(.fields #[(.str "__dict__" 1142),r 654,(.builtin "function.__dict__"),(.builtin "function.__dict__#set")]),#[]⟩
abbrev o725:O:=fun _=>⟨(.type "getset_descriptor"),none,(.fields #[(.str "__weakref__" 1144),r 654,(.builtin "ExceptionGroup.__weakref__"),.none]),#[]⟩
abbrev o726:O:=fun _=>⟨(.type "super"),none,(.fields #[r 654,r 654,r 654]),#[]⟩
abbrev o727:O:=fun _=>⟨(.type "builtin_function_or_method"),none,(.fields #[(.builtin "object.__init_subclass__"),r 654]),#[]⟩
abbrev o728:=di 90<|c (en "__name__" 165 (.str "outlinemill.shape_box" 1155))<|c e38<|c e80<|c e61<|c e81<|c e35<|c e36<|c e39<|c e37<|c e94<|c e19<|c e20<|c e28<|c e31<|c e8<|c e34<|c e22<|c e1<|c e12<|c e13<|c e16<|c e17<|c e104<|c e117<|c e145<|c e140<|c e170<|c e109<|c e142<|c e95<|c e162<|c e105<|c e134<|c e121<|c e116<|c e155<|c e154<|c e21<|c e179<|c e153<|c e152<|c e180<|c e101<|c e147<|c e26<|c e25<|c e9<|c e10<|c e29<|c e5<|c e178<|c e158<|c e160<|c e164<|c e141<|c e151<|c e172<|c e24<|c e32<|c e127<|c e171<|c e173<|c e110<|c e106<|c e3<|c e102<|c e133<|c e150<|c e125<|c e143<|c e177<|c e166<|c e148<|c e97<|c e165<|c e131<|c e130<|c e139<|c e124<|c e114<|c e156<|c e175<|c e4<|c e115<|c e18<|c e126<|c e0<|c e7<|c e30<|c e159<|z
abbrev o729:=fi<|j 1 0 20<|j 5 0 27<|j 9 0 47<|j 11 0 59<|j 16 0 78<|j 18 0 90<|j 28 0 104<|j 33 0 112<|j 40 0 119<|j 42 0 126<|j 44 0 133<|j 46 0 140<|j 50 0 147<|j 52 0 154<|j 54 0 161<|j 60 0 168<|j 62 0 175<|j 68 0 182<|j 74 0 189<|j 76 0 196<|j 78 0 203<|j 91 0 210<|j 111 0 252<|j 116 0 259<|j 123 0 266<|j 139 0 274<|j 152 0 279<|j 158 0 284<|j 168 0 293<|j 171 0 300<|j 173 0 307<|j 180 0 314<|j 186 0 321<|j 188 0 328<|j 197 0 336<|j 210 0 344<|j 212 0 351<|j 217 0 358<|j 219 0 365<|j 221 0 372<|j 223 0 379<|j 239 0 414<|j 250 0 421<|j 253 0 428<|j 255 0 435<|j 260 0 442<|j 265 0 449<|j 272 0 456<|j 278 0 461<|j 282 0 466<|j 305 0 473<|j 309 0 480<|j 321 0 487<|j 326 0 494<|j 328 0 499<|j 336 0 506<|j 347 0 513<|j 349 0 520<|j 355 0 527<|j 419 0 594<|j 426 0 601<|j 458 0 664<|j 463 0 672<|j 476 0 707<|[]
abbrev o734:=ff (st 84) "identity"
abbrev o735:=cd "identity" "identity" 1149 458 0 3 659 true 660 (r 661) (r 662) (r 663) 1152 1153
abbrev o736:=fg (st 84) "identity" 3 .none .none "outlinemill.matrix" 1053 664
abbrev o737:=tu [.int 1024 1159,.int 1 1160]
abbrev o740:=di 7<|c e63<|c (en "__qualname__" 1171 (.str "ShapeBox" 1170))<|c e41<|c e53<|c e129<|c e138<|c e84<|z
abbrev o742:=fi<|j 465 4 679<|j 471 4 686<|j 474 4 693<|[]
abbrev o743:=cd "ShapeBox" "ShapeBox" 1164 463 0 0 670 false 671 .none .none .none 1167 1168
abbrev o744:O:=fun _=>⟨(.type "frame"),none,.plain,#[(some (.ref 672)),(some (.ref 3)),(some (.ref 669)),none,(some (.str "outlinemill.shape_box" 1155)),none,(some (.ref 0))]⟩
abbrev o747:=tu [.str "self" 1177,.str "x" 1178,.str "y" 1179,.str "width" 1180,.str "height" 1181]
abbrev o749:=ff (ms 88 0) "ShapeBox.__init__"
abbrev o750:=cd "__init__" "ShapeBox.__init__" 1174 465 5 3 674 true 675 (r 676) (r 677) (r 678) 1182 1183
abbrev o751:=fg (ms 88 0) "ShapeBox.__init__" 3 .none .none "outlinemill.shape_box" 1155 679
abbrev o754:=tu [.str "self" 1188]
abbrev o756:=ff (ms 88 1) "ShapeBox.is_flat"
abbrev o757:=cd "is_flat" "ShapeBox.is_flat" 1185 471 1 3 681 true 682 (r 683) (r 684) (r 685) 1189 1190
abbrev o758:=fg (ms 88 1) "ShapeBox.is_flat" 3 .none .none "outlinemill.shape_box" 1155 686
abbrev o761:=tu [.str "self" 1195]
abbrev o763:=ff (ms 88 2) "ShapeBox.matrix"
abbrev o764:=cd "matrix" "ShapeBox.matrix" 1192 474 1 3 688 true 689 (r 690) (r 691) (r 692) 1196 1197
abbrev o765:=fg (ms 88 2) "ShapeBox.matrix" 3 .none .none "outlinemill.shape_box" 1155 693
abbrev o766:=tu [.str "height" 1199,.str "width" 1200,.str "x" 1201,.str "y" 1202]
abbrev o767:=di 4<|c e63<|c e41<|c e53<|c e129<|c e138<|c e84<|c (en "__dict__" 1205 (r 698))<|c (en "__weakref__" 1207 (r 699))<|c (en "__doc__" 1208 .none)<|z
abbrev o768:O:=fun _=>⟨(.type "type"),none,(.cls ⟨"ShapeBox",[(.type "object")],[r 697,(.type "object")],696,"ShapeBox",true,[],[],false,none,false⟩),#[none,none,(some (.str "ShapeBox" 1162)),(some (.str "ShapeBox" 1170)),(some (.builtin "object.__new__")),(some (.bool true))]⟩
abbrev o769:O:=fun _=>⟨(.type "getset_descriptor"),none,(.fields #[(.str "__dict__" 1204),r 697,(.builtin "function.__dict__"),(.builtin "function.__dict__#set")]),#[]⟩
abbrev o770:O:=fun _=>⟨(.type "getset_descriptor"),none,(.fields #[(.str "__weakref__" 1206),r 697,(.builtin "ExceptionGroup.__weakref__"),.none]),#[]⟩
abbrev o771:O:=fun _=>⟨(.type "super"),none,(.fields #[r 697,r 697,r 697]),#[]⟩
abbrev o772:O:=fun _=>⟨(.type "builtin_function_or_method"),none,(.fields #[(.builtin "object.__init_subclass__"),r 697]),#[]⟩
abbrev o775:=tu [.str "segment" 1214]
abbrev o777:=ff (st 89) "segment_points"
abbrev o778:=cd "segment_points" "segment_points" 1211 476 1 3 702 true 703 (r 704) (r 705) (r 706) 1215 1216
abbrev o779:=fg (st 89) "segment_points" 3 .none .none "outlinemill.shape_box" 1155 707
abbrev o780:=di 94<|c (en "__name__" 165 (.str "outlinemill.elements" 1292))<|c e38<|c e80<|c e61<|c e81<|c e35<|c e36<|c e39<|c e37<|c e94<|c e19<|c e20<|c e28<|c e31<|c e8<|c e34<|c e22<|c e1<|c e12<|c e13<|c e16<|c e17<|c e104<|c e117<|c e145<|c e140<|c e170<|c e109<|c e142<|c e95<|c e162<|c e105<|c e134<|c e121<|c e116<|c e155<|c e154<|c e21<|c e179<|c e153<|c e152<|c e180<|c e101<|c e147<|c e26<|c e25<|c e9<|c e10<|c e29<|c e5<|c e178<|c e158<|c e160<|c e164<|c e141<|c e151<|c e172<|c e24<|c e32<|c e127<|c e171<|c e173<|c e110<|c e106<|c e3<|c e102<|c e133<|c e150<|c e125<|c e143<|c e177<|c e166<|c e148<|c e97<|c e165<|c e131<|c e130<|c e139<|c e124<|c e114<|c e156<|c e175<|c e4<|c e115<|c e18<|c e126<|c e0<|c e7<|c e30<|c e159<|c e100<|c e161<|c e167<|c e2<|z
abbrev o781:=fi<|j 1 0 20<|j 5 0 27<|j 9 0 47<|j 11 0 59<|j 16 0 78<|j 18 0 90<|j 28 0 104<|j 33 0 112<|j 40 0 119<|j 42 0 126<|j 44 0 133<|j 46 0 140<|j 50 0 147<|j 52 0 154<|j 54 0 161<|j 60 0 168<|j 62 0 175<|j 68 0 182<|j 74 0 189<|j 76 0 196<|j 78 0 203<|j 91 0 210<|j 111 0 252<|j 116 0 259<|j 123 0 266<|j 139 0 274<|j 152 0 279<|j 158 0 284<|j 168 0 293<|j 171 0 300<|j 173 0 307<|j 180 0 314<|j 186 0 321<|j 188 0 328<|j 197 0 336<|j 210 0 344<|j 212 0 351<|j 217 0 358<|j 219 0 365<|j 221 0 372<|j 223 0 379<|j 239 0 414<|j 250 0 421<|j 253 0 428<|j 255 0 435<|j 260 0 442<|j 265 0 449<|j 272 0 456<|j 278 0 461<|j 282 0 466<|j 305 0 473<|j 309 0 480<|j 321 0 487<|j 326 0 494<|j 328 0 499<|j 336 0 506<|j 347 0 513<|j 349 0 520<|j 355 0 527<|j 419 0 594<|j 426 0 601<|j 458 0 664<|j 463 0 672<|j 476 0 707<|j 480 0 712<|j 490 0 719<|j 498 0 726<|j 504 0 733<|[]
abbrev o784:=ff (st 90) "box_grain"
abbrev o785:=cd "box_grain" "box_grain" 1218 480 1 3 709 true 710 .none .none (r 711) 1221 1222
abbrev o786:=fg (st 90) "box_grain" 3 .none .none "outlinemill.shape_box" 1155 712
abbrev o789:=tu [.str "segments" 1227,.str "grain" 1228,.str "told" 1229,.str "left" 1230,.str "top" 1231,.str "right" 1232,.str "bottom" 1233]
abbrev o791:=ff (st 91) "shape_box"
abbrev o792:=cd "shape_box" "shape_box" 1224 490 1 3 714 true 715 (r 716) (r 717) (r 718) 1234 1235
abbrev o793:=fg (st 91) "shape_box" 3 .none .none "outlinemill.shape_box" 1155 719
abbrev o796:=tu [.str "matrix" 1242,.str "found" 1243,.str "part" 1244]
abbrev o798:=ff (st 93) "stretch_of"
abbrev o799:=cd "stretch_of" "stretch_of" 1239 498 1 3 721 true 722 (r 723) (r 724) (r 725) 1245 1246
abbrev o800:=fg (st 93) "stretch_of" 3 .none .none "outlinemill.lines_drawn" 1237 726
abbrev o803:=di 6<|c e64<|c (en "__qualname__" 1259 (.str "Element" 1258))<|c e42<|c e54<|c e119<|c e85<|z
abbrev o805:=fi<|j 506 4 740<|j 512 4 748<|[]
abbrev o806:=cd "Element" "Element" 1252 504 0 0 731 false 732 .none .none .none 1255 1256
abbrev o807:O:=fun _=>⟨(.type "frame"),none,.plain,#[(some (.ref 733)),(some (.ref 3)),(some (.ref 730)),none,(some (.str "outlinemill.markup" 1248)),none,(some (.ref 0))]⟩
abbrev o810:=tu [.str "self" 1265,.str "name" 1266,.str "attributes" 1267]
abbrev o812:=ff (ms 95 0) "Element.__init__"
abbrev o813:=cd "__init__" "Element.__init__" 1262 506 3 3 735 true 736 (r 737) (r 738) (r 739) 1268 1269
abbrev o814:=fg (ms 95 0) "Element.__init__" 3 .none .none "outlinemill.markup" 1248 740
abbrev o815:=tu [.none]
abbrev o818:=tu [.str "self" 1274,.str "name" 1275,.str "other" 1276]
abbrev o820:=ff (ms 95 1) "Element.get"
abbrev o821:=cd "get" "Element.get" 1271 512 3 3 743 true 744 (r 745) (r 746) (r 747) 1277 1278
abbrev o822:=fg (ms 95 1) "Element.get" 3 (r 742) .none "outlinemill.markup" 1248 748
abbrev o823:=tu [.str "attributes" 1280,.str "children" 1281,.str "name" 1282,.str "text" 1283]
abbrev o824:=di 4<|c e64<|c e42<|c e54<|c e119<|c e85<|c (en "__dict__" 1286 (r 753))<|c (en "__weakref__" 1288 (r 754))<|c (en "__doc__" 1289 .none)<|z
abbrev o825:O:=fun _=>⟨(.type "type"),none,(.cls ⟨"Element",[(.type "object")],[r 752,(.type "object")],751,"Element",true,[],[],false,none,false⟩),#[none,none,(some (.str "Element" 1250)),(some (.str "Element" 1258)),(some (.builtin "object.__new__")),(some (.bool true))]⟩
abbrev o826:O:=fun _=>⟨(.type "getset_descriptor"),none,(.fields #[(.str "__dict__" 1285),r 752,(.builtin "function.__dict__"),(.builtin "function.__dict__#set")]),#[]⟩
abbrev o827:O:=fun _=>⟨(.type "getset_descriptor"),none,(.fields #[(.str "__weakref__" 1287),r 752,(.builtin "ExceptionGroup.__weakref__"),.none]),#[]⟩
abbrev o828:O:=fun _=>⟨(.type "super"),none,(.fields #[r 752,r 752,r 752]),#[]⟩
abbrev o829:O:=fun _=>⟨(.type "builtin_function_or_method"),none,(.fields #[(.builtin "object.__init_subclass__"),r 752]),#[]⟩
abbrev o830:=di 104<|c e79<|c e38<|c e80<|c e61<|c e81<|c e35<|c e36<|c e39<|c e37<|c e94<|c e19<|c e20<|c e28<|c e31<|c e8<|c e34<|c e22<|c e1<|c e12<|c e13<|c e16<|c e17<|c e104<|c e117<|c e145<|c e140<|c e170<|c e109<|c e142<|c e95<|c e162<|c e105<|c e134<|c e121<|c e116<|c e155<|c e154<|c e21<|c e179<|c e153<|c e152<|c e180<|c e101<|c e147<|c e26<|c e25<|c e9<|c e10<|c e29<|c e5<|c e178<|c e158<|c e160<|c e164<|c e141<|c e151<|c e172<|c e24<|c e32<|c e127<|c e171<|c e173<|c e110<|c e106<|c e3<|c e102<|c e133<|c e150<|c e125<|c e143<|c e177<|c e166<|c e148<|c e97<|c e165<|c e131<|c e130<|c e139<|c e124<|c e114<|c e156<|c e175<|c e4<|c e115<|c e18<|c e126<|c e0<|c e7<|c e30<|c e159<|c e100<|c e161<|c e167<|c e2<|c e137<|c e6<|c e174<|c e136<|c e11<|c e14<|c e15<|c e27<|c e23<|c e111<|z
abbrev o831:=fi<|j 1 0 20<|j 5 0 27<|j 9 0 47<|j 11 0 59<|j 16 0 78<|j 18 0 90<|j 28 0 104<|j 33 0 112<|j 40 0 119<|j 42 0 126<|j 44 0 133<|j 46 0 140<|j 50 0 147<|j 52 0 154<|j 54 0 161<|j 60 0 168<|j 62 0 175<|j 68 0 182<|j 74 0 189<|j 76 0 196<|j 78 0 203<|j 91 0 210<|j 111 0 252<|j 116 0 259<|j 123 0 266<|j 139 0 274<|j 152 0 279<|j 158 0 284<|j 168 0 293<|j 171 0 300<|j 173 0 307<|j 180 0 314<|j 186 0 321<|j 188 0 328<|j 197 0 336<|j 210 0 344<|j 212 0 351<|j 217 0 358<|j 219 0 365<|j 221 0 372<|j 223 0 379<|j 239 0 414<|j 250 0 421<|j 253 0 428<|j 255 0 435<|j 260 0 442<|j 265 0 449<|j 272 0 456<|j 278 0 461<|j 282 0 466<|j 305 0 473<|j 309 0 480<|j 321 0 487<|j 326 0 494<|j 328 0 499<|j 336 0 506<|j 347 0 513<|j 349 0 520<|j 355 0 527<|j 419 0 594<|j 426 0 601<|j 458 0 664<|j 463 0 672<|j 476 0 707<|j 480 0 712<|j 490 0 719<|j 498 0 726<|j 504 0 733<|j 515 0 762<|j 523 0 770<|j 529 0 779<|j 547 0 787<|[]
abbrev o834:=tu [.str "element" 1297,.str "name" 1298,.str "told" 1299]
abbrev o836:=ff (st 97) "link_of"
abbrev o837:=cd "link_of" "link_of" 1294 515 1 3 757 true 758 (r 759) (r 760) (r 761) 1300 1301
abbrev o838:=fg (st 97) "link_of" 3 .none .none "outlinemill.elements" 1292 762
abbrev o839:=tu [.int 100 1305,.int 1 1306]
abbrev o842:=tu [.str "text" 1311,.str "unit" 1312]
abbrev o844:=ff (st 100) "unit_of"
abbrev o845:=cd "unit_of" "unit_of" 1308 523 1 3 765 true 766 (r 767) (r 768) (r 769) 1313 1314
abbrev o846:=fg (st 100) "unit_of" 3 .none .none "outlinemill.styles" 1303 770
abbrev o847:=tu [.int 16 1316,.int 1 1317]
abbrev o848:=tu [r 772]
abbrev o851:=tu [.str "text" 1321,.str "whole" 1322,.str "font_size" 1323,.str "number" 1324,.str "unit" 1325,.str "told" 1326,.str "sizes" 1327]
abbrev o853:=ff (st 101) "length"
abbrev o854:=cd "length" "length" 1318 529 3 3 774 true 775 (r 776) (r 777) (r 778) 1328 1329
abbrev o855:=fg (st 101) "length" 3 (r 773) .none "outlinemill.styles" 1303 779
abbrev o856:=tu [.str "x" 1341,.str "y" 1342,.str "width" 1343,.str "height" 1344,.str "href" 1345,.str "xlink:href" 1346,.str "transform" 1347,.str "id" 1348]
abbrev o859:=tu [.str "name" 1353,.str "attributes" 1354,.str "children" 1355,.str "text" 1356,.str "found" 1357]
abbrev o861:=ff (st 108) "element_of"
abbrev o862:=cd "element_of" "element_of" 1350 547 4 3 782 true 783 (r 784) (r 785) (r 786) 1358 1359
abbrev o863:=fg (st 108) "element_of" 3 .none .none "outlinemill.uses" 1331 787
abbrev o864:=di 108<|c e79<|c e38<|c e80<|c e61<|c e81<|c e35<|c e36<|c e39<|c e37<|c e94<|c e19<|c e20<|c e28<|c e31<|c e8<|c e34<|c e22<|c e1<|c e12<|c e13<|c e16<|c e17<|c e104<|c e117<|c e145<|c e140<|c e170<|c e109<|c e142<|c e95<|c e162<|c e105<|c e134<|c e121<|c e116<|c e155<|c e154<|c e21<|c e179<|c e153<|c e152<|c e180<|c e101<|c e147<|c e26<|c e25<|c e9<|c e10<|c e29<|c e5<|c e178<|c e158<|c e160<|c e164<|c e141<|c e151<|c e172<|c e24<|c e32<|c e127<|c e171<|c e173<|c e110<|c e106<|c e3<|c e102<|c e133<|c e150<|c e125<|c e143<|c e177<|c e166<|c e148<|c e97<|c e165<|c e131<|c e130<|c e139<|c e124<|c e114<|c e156<|c e175<|c e4<|c e115<|c e18<|c e126<|c e0<|c e7<|c e30<|c e159<|c e100<|c e161<|c e167<|c e2<|c e137<|c e6<|c e174<|c e136<|c e11<|c e14<|c e15<|c e27<|c e23<|c e111<|c e33<|c e123<|c e144<|c e118<|z
abbrev o865:=fi<|j 1 0 20<|j 5 0 27<|j 9 0 47<|j 11 0 59<|j 16 0 78<|j 18 0 90<|j 28 0 104<|j 33 0 112<|j 40 0 119<|j 42 0 126<|j 44 0 133<|j 46 0 140<|j 50 0 147<|j 52 0 154<|j 54 0 161<|j 60 0 168<|j 62 0 175<|j 68 0 182<|j 74 0 189<|j 76 0 196<|j 78 0 203<|j 91 0 210<|j 111 0 252<|j 116 0 259<|j 123 0 266<|j 139 0 274<|j 152 0 279<|j 158 0 284<|j 168 0 293<|j 171 0 300<|j 173 0 307<|j 180 0 314<|j 186 0 321<|j 188 0 328<|j 197 0 336<|j 210 0 344<|j 212 0 351<|j 217 0 358<|j 219 0 365<|j 221 0 372<|j 223 0 379<|j 239 0 414<|j 250 0 421<|j 253 0 428<|j 255 0 435<|j 260 0 442<|j 265 0 449<|j 272 0 456<|j 278 0 461<|j 282 0 466<|j 305 0 473<|j 309 0 480<|j 321 0 487<|j 326 0 494<|j 328 0 499<|j 336 0 506<|j 347 0 513<|j 349 0 520<|j 355 0 527<|j 419 0 594<|j 426 0 601<|j 458 0 664<|j 463 0 672<|j 476 0 707<|j 480 0 712<|j 490 0 719<|j 498 0 726<|j 504 0 733<|j 515 0 762<|j 523 0 770<|j 529 0 779<|j 547 0 787<|j 552 0 794<|j 578 0 830<|j 586 0 837<|j 591 0 844<|[]
abbrev o868:=di 7<|c e65<|c (en "__qualname__" 1370 (.str "Uses" 1369))<|c e43<|c e55<|c e149<|c e122<|c e86<|z
abbrev o870:=fi<|j 554 4 802<|j 559 4 809<|j 570 4 816<|[]
abbrev o871:=cd "Uses" "Uses" 1363 552 0 0 792 false 793 .none .none .none 1366 1367
abbrev o872:O:=fun _=>⟨(.type "frame"),none,.plain,#[(some (.ref 794)),(some (.ref 3)),(some (.ref 791)),none,(some (.str "outlinemill.uses" 1331)),none,(some (.ref 0))]⟩
abbrev o873:=tu [.int 20000 1337]
abbrev o876:=tu [.str "self" 1376,.str "ids" 1377,.str "most" 1378]
abbrev o878:=ff (ms 109 0) "Uses.__init__"
abbrev o879:=cd "__init__" "Uses.__init__" 1373 554 3 3 797 true 798 (r 799) (r 800) (r 801) 1379 1380
abbrev o880:=fg (ms 109 0) "Uses.__init__" 3 (r 796) .none "outlinemill.uses" 1331 802
abbrev o882:=tu [r 804,.int 0 1382]
abbrev o885:=ff (ms 109 1) "Uses.put_out"
abbrev o886:=cd "put_out" "Uses.put_out" 1383 559 4 3 806 true 807 .none .none (r 808) 1386 1387
abbrev o887:=fg (ms 109 1) "Uses.put_out" 3 (r 805) .none "outlinemill.uses" 1331 809
abbrev o890:=tu [.str "self" 1392,.str "element" 1393,.str "names" 1394,.str "deep" 1395,.str "name" 1396,.str "inner" 1397]
abbrev o892:=ff (ms 109 2) "Uses.group_of"
abbrev o893:=cd "group_of" "Uses.group_of" 1389 570 4 3 811 true 812 (r 813) (r 814) (r 815) 1398 1399
abbrev o894:=fg (ms 109 2) "Uses.group_of" 3 .none .none "outlinemill.uses" 1331 816
abbrev o895:=tu [.str "ids" 1401,.str "made" 1402,.str "most" 1403]
abbrev o896:=di 4<|c e65<|c e43<|c e55<|c e149<|c e122<|c e86<|c (en "__dict__" 1406 (r 821))<|c (en "__weakref__" 1408 (r 822))<|c (en "__doc__" 1409 .none)<|z
abbrev o897:O:=fun _=>⟨(.type "type"),none,(.cls ⟨"Uses",[(.type "object")],[r 820,(.type "object")],819,"Uses",true,[],[],false,none,false⟩),#[none,none,(some (.str "Uses" 1361)),(some (.str "Uses" 1369)),(some (.builtin "object.__new__")),(some (.bool true))]⟩
abbrev o898:O:=fun _=>⟨(.type "getset_descriptor"),none,(.fields #[(.str "__dict__" 1405),r 820,(.builtin "function.__dict__"),(.builtin "function.__dict__#set")]),#[]⟩
abbrev o899:O:=fun _=>⟨(.type "getset_descriptor"),none,(.fields #[(.str "__weakref__" 1407),r 820,(.builtin "ExceptionGroup.__weakref__"),.none]),#[]⟩
abbrev o900:O:=fun _=>⟨(.type "super"),none,(.fields #[r 820,r 820,r 820]),#[]⟩
abbrev o901:O:=fun _=>⟨(.type "builtin_function_or_method"),none,(.fields #[(.builtin "object.__init_subclass__"),r 820]),#[]⟩
abbrev o904:=tu [.str "element" 1415,.str "found" 1416,.str "name" 1417,.str "place" 1418]
abbrev o906:=ff (st 110) "group_words"
abbrev o907:=cd "group_words" "group_words" 1412 578 1 3 825 true 826 (r 827) (r 828) (r 829) 1419 1420
abbrev o908:=fg (st 110) "group_words" 3 .none .none "outlinemill.uses" 1331 830
abbrev o911:=tu [.str "element" 1425,.str "name" 1426,.str "told" 1427]
abbrev o913:=ff (st 111) "place_told"
abbrev o914:=cd "place_told" "place_told" 1422 586 2 3 832 true 833 (r 834) (r 835) (r 836) 1428 1429
abbrev o915:=fg (st 111) "place_told" 3 .none .none "outlinemill.uses" 1331 837
abbrev o918:=tu [.str "element" 1434,.str "target" 1435,.str "words" 1436,.str "name" 1437]
abbrev o920:=ff (st 112) "framed"
abbrev o921:=cd "framed" "framed" 1431 591 2 3 839 true 840 (r 841) (r 842) (r 843) 1438 1439
abbrev o922:=fg (st 112) "framed" 3 .none .none "outlinemill.uses" 1331 844
abbrev o923:=di 119<|c (en "__name__" 165 (.str "law_qz0069_01" 1441))<|c e38<|c e80<|c e61<|c e81<|c e35<|c e36<|c e39<|c e37<|c e94<|c e19<|c e20<|c e28<|c e31<|c e8<|c e34<|c e22<|c e1<|c e12<|c e13<|c e16<|c e17<|c e104<|c e117<|c e145<|c e140<|c e170<|c e109<|c e142<|c e95<|c e162<|c e105<|c e134<|c e121<|c e116<|c e155<|c e154<|c e21<|c e179<|c e153<|c e152<|c e180<|c e101<|c e147<|c e26<|c e25<|c e9<|c e10<|c e29<|c e5<|c e178<|c e158<|c e160<|c e164<|c e141<|c e151<|c e172<|c e24<|c e32<|c e127<|c e171<|c e173<|c e110<|c e106<|c e3<|c e102<|c e133<|c e150<|c e125<|c e143<|c e177<|c e166<|c e148<|c e97<|c e165<|c e131<|c e130<|c e139<|c e124<|c e114<|c e156<|c e175<|c e4<|c e115<|c e18<|c e126<|c e0<|c e7<|c e30<|c e159<|c e100<|c e161<|c e167<|c e2<|c e137<|c e6<|c e174<|c e136<|c e11<|c e14<|c e15<|c e27<|c e23<|c e111<|c e33<|c e123<|c e144<|c e118<|c (en "_law_pool" 1453 (r 852))<|c (en "_law_take" 1462 (r 859))<|c (en "_law_one" 1470 (r 866))<|c (en "_law_divisor" 1478 (r 873))<|c (en "_law_share" 1487 (r 880))<|c (en "_law_is_near" 1499 (r 887))<|c (en "_law_box_right" 1505 (r 892))<|c (en "_law_stretch_right" 1511 (r 897))<|c (en "_law_within" 1521 (r 904))<|c (en "_law_depth_right" 1531 (r 911))<|c (en "law" 1537 (r 916))<|z
abbrev o924:=fi<|j 1 0 20<|j 5 0 27<|j 9 0 47<|j 11 0 59<|j 16 0 78<|j 18 0 90<|j 28 0 104<|j 33 0 112<|j 40 0 119<|j 42 0 126<|j 44 0 133<|j 46 0 140<|j 50 0 147<|j 52 0 154<|j 54 0 161<|j 60 0 168<|j 62 0 175<|j 68 0 182<|j 74 0 189<|j 76 0 196<|j 78 0 203<|j 91 0 210<|j 111 0 252<|j 116 0 259<|j 123 0 266<|j 139 0 274<|j 152 0 279<|j 158 0 284<|j 168 0 293<|j 171 0 300<|j 173 0 307<|j 180 0 314<|j 186 0 321<|j 188 0 328<|j 197 0 336<|j 210 0 344<|j 212 0 351<|j 217 0 358<|j 219 0 365<|j 221 0 372<|j 223 0 379<|j 239 0 414<|j 250 0 421<|j 253 0 428<|j 255 0 435<|j 260 0 442<|j 265 0 449<|j 272 0 456<|j 278 0 461<|j 282 0 466<|j 305 0 473<|j 309 0 480<|j 321 0 487<|j 326 0 494<|j 328 0 499<|j 336 0 506<|j 347 0 513<|j 349 0 520<|j 355 0 527<|j 419 0 594<|j 426 0 601<|j 458 0 664<|j 463 0 672<|j 476 0 707<|j 480 0 712<|j 490 0 719<|j 498 0 726<|j 504 0 733<|j 515 0 762<|j 523 0 770<|j 529 0 779<|j 547 0 787<|j 552 0 794<|j 578 0 830<|j 586 0 837<|j 591 0 844<|j 602 0 851<|j 607 0 858<|j 614 0 865<|j 616 0 872<|j 620 0 879<|j 623 0 886<|j 626 0 891<|j 645 0 896<|j 651 0 903<|j 657 0 910<|j 665 0 915<|[]
abbrev o927:=tu [.str "script" 1446,.str "k" 1447,.str "cell" 1448,.str "big" 1449,.str "mixed" 1450]
abbrev o929:=ff (st 114) "_law_pool"
abbrev o930:=cd "_law_pool" "_law_pool" 1443 602 2 3 846 true 847 (r 848) (r 849) (r 850) 1451 1452
abbrev o931:=fg (st 114) "_law_pool" 3 .none .none "law_qz0069_01" 1441 851
abbrev o934:=tu [.str "source" 1457,.str "top" 1458,.str "drawn" 1459]
abbrev o936:=ff (st 115) "_law_take"
abbrev o937:=cd "_law_take" "_law_take" 1454 607 2 3 853 true 854 (r 855) (r 856) (r 857) 1460 1461
abbrev o938:=fg (st 115) "_law_take" 3 .none .none "law_qz0069_01" 1441 858
abbrev o941:=tu [.str "source" 1466,.str "things" 1467]
abbrev o943:=ff (st 116) "_law_one"
abbrev o944:=cd "_law_one" "_law_one" 1463 614 2 3 860 true 861 (r 862) (r 863) (r 864) 1468 1469
abbrev o945:=fg (st 116) "_law_one" 3 .none .none "law_qz0069_01" 1441 865
abbrev o948:=tu [.str "one" 1474,.str "other" 1475]
abbrev o950:=ff (st 117) "_law_divisor"
abbrev o951:=cd "_law_divisor" "_law_divisor" 1471 616 2 3 867 true 868 (r 869) (r 870) (r 871) 1476 1477
abbrev o952:=fg (st 117) "_law_divisor" 3 .none .none "law_qz0069_01" 1441 872
abbrev o955:=tu [.str "top" 1482,.str "bottom" 1483,.str "common" 1484]
abbrev o957:=ff (st 118) "_law_share"
abbrev o958:=cd "_law_share" "_law_share" 1479 620 2 3 874 true 875 (r 876) (r 877) (r 878) 1485 1486
abbrev o959:=fg (st 118) "_law_share" 3 .none .none "law_qz0069_01" 1441 879
abbrev o962:=tu [.str "told" 1491,.str "number" 1492,.str "bottom" 1493,.str "part" 1494,.str "many" 1495,.str "off" 1496]
abbrev o964:=ff (st 119) "_law_is_near"
abbrev o965:=cd "_law_is_near" "_law_is_near" 1488 623 5 3 881 true 882 (r 883) (r 884) (r 885) 1497 1498
abbrev o966:=fg (st 119) "_law_is_near" 3 .none .none "law_qz0069_01" 1441 886
abbrev o969:=ff (st 120) "_law_box_right"
abbrev o970:=cd "_law_box_right" "_law_box_right" 1500 626 3 3 888 true 889 .none .none (r 890) 1503 1504
abbrev o971:=fg (st 120) "_law_box_right" 3 .none .none "law_qz0069_01" 1441 891
abbrev o974:=ff (st 121) "_law_stretch_right"
abbrev o975:=cd "_law_stretch_right" "_law_stretch_right" 1506 645 3 3 893 true 894 .none .none (r 895) 1509 1510
abbrev o976:=fg (st 121) "_law_stretch_right" 3 .none .none "law_qz0069_01" 1441 896
abbrev o979:=tu [.str "many" 1515,.str "innermost" 1516,.str "turn" 1517,.str "around" 1518]
abbrev o981:=ff (st 122) "_law_within"
abbrev o982:=cd "_law_within" "_law_within" 1512 651 2 3 898 true 899 (r 900) (r 901) (r 902) 1519 1520
abbrev o983:=fg (st 122) "_law_within" 3 .none .none "law_qz0069_01" 1441 903
abbrev o986:=tu [.str "outer" 1525,.str "inner" 1526,.str "used" 1527,.str "house" 1528]
abbrev o988:=ff (st 123) "_law_depth_right"
abbrev o989:=cd "_law_depth_right" "_law_depth_right" 1522 657 2 3 905 true 906 (r 907) (r 908) (r 909) 1529 1530
abbrev o990:=fg (st 123) "_law_depth_right" 3 .none .none "law_qz0069_01" 1441 910
abbrev o993:=ff (st 124) "law"
abbrev o994:=cd "law" "law" 1532 665 1 3 912 true 913 .none .none (r 914) 1535 1536
abbrev o995:=fg (st 124) "law" 3 .none .none "law_qz0069_01" 1441 915
def t47:=b boot_o_0 (b boot_o_1 (b boot_o_3 (l boot_o_7) (l o43)) (b boot_o_5 (l boot_o_9) (l o45))) (b boot_o_2 (b boot_o_4 (l boot_o_8) (l o44)) (b boot_o_6 (l boot_o_10) (l o46)))
def t78:=b boot_o_0 (b boot_o_1 (b o50 (b boot_o_7 (b o43 (l o68) n) (b o60 (l o76) n)) (b o43 (b o56 (l o72) n) (l o64))) (b boot_o_5 (b boot_o_9 (b o54 (l o70) n) (b o43 (l o78) n)) (b o45 (b o58 (l o74) n) (l o43)))) (b o49 (b boot_o_4 (b boot_o_8 (b o44 (l o43) n) (b o61 (l o77) n)) (b o51 (b o57 (l o73) n) (l o65))) (b boot_o_6 (b boot_o_10 (b o43 (l o71) n) (l o63)) (b o46 (b o59 (l o75) n) (l o44))))
def t93:=b boot_o_0 (b boot_o_1 (b o79 (b boot_o_7 (b o43 (l o68) (l o87)) (b o60 (l o76) n)) (b o43 (b o56 (l o72) (l o91)) (b o64 (l o60) n))) (b boot_o_5 (b boot_o_9 (b o54 (l o70) (l o43)) (b o43 (l o78) n)) (b o45 (b o58 (l o74) (l o93)) (b o43 (l o43) n)))) (b o49 (b boot_o_4 (b boot_o_8 (b o44 (l o43) (l o88)) (b o61 (l o77) n)) (b o80 (b o57 (l o73) (l o92)) (b o65 (l o84) n))) (b boot_o_6 (b boot_o_10 (b o43 (l o71) (l o90)) (b o63 (l o82) n)) (b o46 (b o59 (l o81) n) (b o44 (l o44) n))))
def t115:=b boot_o_0 (b boot_o_1 (b o94 (b boot_o_7 (b o43 (b o68 (l o106) n) (l o87)) (b o60 (b o76 (l o114) n) (l o60))) (b o43 (b o56 (b o72 (l o110) n) (l o91)) (b o64 (l o60) (l o102)))) (b boot_o_5 (b boot_o_9 (b o54 (b o70 (l o108) n) (l o43)) (b o43 (l o78) (l o43))) (b o45 (b o58 (b o74 (l o112) n) (l o93)) (b o43 (l o43) (l o43))))) (b o49 (b boot_o_4 (b boot_o_8 (b o44 (b o43 (l o43) n) (l o88)) (b o61 (b o77 (l o115) n) (l o99))) (b o95 (b o57 (b o73 (l o111) n) (l o92)) (b o65 (l o84) (l o103)))) (b boot_o_6 (b boot_o_10 (b o43 (b o71 (l o109) n) (l o90)) (b o63 (l o82) (l o101))) (b o46 (b o59 (b o96 (l o113) n) (l o82)) (b o44 (l o44) (l o44)))))
def t130:=b boot_o_0 (b boot_o_1 (b o116 (b boot_o_7 (b o43 (b o68 (l o106) n) (b o87 (l o125) n)) (b o60 (b o76 (l o114) n) (l o60))) (b o43 (b o56 (b o72 (l o110) n) (b o91 (l o129) n)) (b o64 (b o60 (l o121) n) (l o102)))) (b boot_o_5 (b boot_o_9 (b o54 (b o70 (l o108) n) (b o43 (l o127) n)) (b o43 (b o78 (l o82) n) (l o43))) (b o45 (b o58 (b o74 (l o112) n) (l o93)) (b o43 (b o43 (l o44) n) (l o43))))) (b o49 (b boot_o_4 (b boot_o_8 (b o44 (b o43 (l o43) n) (b o88 (l o43) n)) (b o61 (b o77 (l o115) n) (l o99))) (b o117 (b o57 (b o73 (l o111) n) (b o92 (l o130) n)) (b o65 (b o84 (l o43) n) (l o103)))) (b boot_o_6 (b boot_o_10 (b o43 (b o71 (l o109) n) (b o90 (l o128) n)) (b o63 (b o82 (l o60) n) (l o101))) (b o46 (b o59 (b o118 (l o113) n) (l o82)) (b o44 (b o44 (l o124) n) (l o44)))))
def t169:=b boot_o_0 (b boot_o_1 (b o131 (b boot_o_7 (b o43 (b o68 (l o106) (l o144)) (b o87 (l o125) (l o160))) (b o60 (b o76 (l o114) (l o152)) (b o60 (l o136) (l o168)))) (b o43 (b o56 (b o72 (l o110) (l o43)) (b o91 (l o129) (l o44))) (b o64 (b o60 (l o121) (l o43)) (b o102 (l o140) n)))) (b boot_o_5 (b boot_o_9 (b o54 (b o70 (l o108) (l o146)) (b o43 (l o127) (l o162))) (b o43 (b o78 (l o82) (l o154)) (b o43 (l o44) n))) (b o45 (b o58 (b o74 (l o112) (l o150)) (b o93 (l o82) (l o43))) (b o43 (b o43 (l o44) (l o158)) (b o43 (l o142) n))))) (b o49 (b boot_o_4 (b boot_o_8 (b o44 (b o43 (l o43) (l o145)) (b o88 (l o43) (l o161))) (b o61 (b o77 (l o115) (l o153)) (b o99 (l o43) (l o169)))) (b o132 (b o57 (b o73 (l o111) (l o44)) (b o92 (l o130) (l o165))) (b o65 (b o84 (l o43) (l o44)) (b o103 (l o43) n)))) (b boot_o_6 (b boot_o_10 (b o43 (b o71 (l o109) (l o147)) (b o90 (l o128) (l o43))) (b o63 (b o82 (l o60) (l o155)) (b o101 (l o139) n))) (b o46 (b o59 (b o133 (l o113) (l o43)) (b o82 (l o60) (l o167))) (b o44 (b o44 (l o124) (l o43)) (b o44 (l o143) n)))))
def t255:=b boot_o_0 (b boot_o_1 (b o170 (b boot_o_7 (b o43 (b o68 (b o106 (l o178) (l o43)) (b o144 (l o43) n)) (b o87 (b o125 (l o44) n) (b o160 (l o226) n))) (b o60 (b o76 (b o114 (l o43) (l o44)) (b o152 (l o218) n)) (b o60 (b o136 (l o202) n) (b o168 (l o234) n)))) (b o43 (b o56 (b o72 (b o110 (l o43) (l o246)) (b o43 (l o43) n)) (b o91 (b o129 (l o198) n) (b o44 (l o230) n))) (b o64 (b o60 (b o121 (l o190) (l o254)) (b o43 (l o44) n)) (b o102 (b o140 (l o206) n) (b o174 (l o43) n))))) (b boot_o_5 (b boot_o_9 (b o54 (b o70 (b o108 (l o44) (l o244)) (b o146 (l o212) n)) (b o43 (b o127 (l o43) n) (b o162 (l o43) n))) (b o43 (b o78 (b o82 (l o188) (l o43)) (b o154 (l o220) n)) (b o43 (b o44 (l o204) n) (b o43 (l o44) n)))) (b o45 (b o58 (b o74 (b o112 (l o184) (l o248)) (b o150 (l o216) n)) (b o93 (b o82 (l o43) n) (b o43 (l o232) n))) (b o43 (b o43 (b o44 (l o192) n) (b o158 (l o43) n)) (b o43 (b o142 (l o44) n) (b o176 (l o240) n)))))) (b o49 (b boot_o_4 (b boot_o_8 (b o44 (b o43 (b o43 (l o43) (l o44)) (b o145 (l o211) n)) (b o88 (b o43 (l o195) n) (b o161 (l o227) n))) (b o61 (b o77 (b o115 (l o44) (l o251)) (b o153 (l o219) n)) (b o99 (b o43 (l o43) n) (b o169 (l o43) n)))) (b o171 (b o57 (b o73 (b o111 (l o183) (l o247)) (b o44 (l o44) n)) (b o92 (b o130 (l o199) n) (b o165 (l o43) n))) (b o65 (b o84 (b o43 (l o191) (l o255)) (b o44 (l o223) n)) (b o103 (b o43 (l o43) n) (b o43 (l o239) n))))) (b boot_o_6 (b boot_o_10 (b o43 (b o71 (b o109 (l o181) (l o43)) (b o147 (l o213) n)) (b o90 (b o128 (l o197) n) (b o43 (l o44) n))) (b o63 (b o82 (b o60 (l o43) (l o253)) (b o155 (l o43) n)) (b o101 (b o139 (l o205) n) (b o44 (l o237) n)))) (b o46 (b o59 (b o133 (b o113 (l o185) (l o43)) (b o43 (l o43) n)) (b o82 (b o60 (l o44) n) (b o167 (l o233) n))) (b o44 (b o44 (b o124 (l o43) n) (b o43 (l o225) n)) (b o44 (b o143 (l o209) n) (b o177 (l o241) n))))))
def t313:=b boot_o_0 (b boot_o_1 (b o256 (b boot_o_7 (b o43 (b o68 (b o106 (b o178 (l o44) n) (l o43)) (b o144 (l o43) (l o276))) (b o87 (b o125 (l o44) (l o260)) (b o160 (l o226) (l o292)))) (b o60 (b o76 (b o114 (l o43) (l o44)) (b o152 (l o218) (l o284))) (b o60 (b o136 (l o202) (l o43)) (b o168 (l o234) (l o43))))) (b o43 (b o56 (b o72 (b o110 (b o43 (l o312) n) (l o246)) (b o43 (l o43) (l o44))) (b o91 (b o129 (l o198) (l o264)) (b o44 (l o230) (l o296)))) (b o64 (b o60 (b o121 (l o190) (l o254)) (b o43 (l o44) (l o288))) (b o102 (b o140 (l o206) (l o43)) (b o174 (l o43) (l o304)))))) (b boot_o_5 (b boot_o_9 (b o54 (b o70 (b o108 (b o44 (l o43) n) (l o244)) (b o146 (l o212) (l o278))) (b o43 (b o127 (l o43) (l o262)) (b o162 (l o43) (l o294)))) (b o43 (b o78 (b o82 (l o188) (l o43)) (b o154 (l o220) (l o43))) (b o43 (b o44 (l o204) (l o270)) (b o43 (l o44) (l o302))))) (b o45 (b o58 (b o74 (b o112 (l o184) (l o248)) (b o150 (l o216) (l o43))) (b o93 (b o82 (l o43) (l o44)) (b o43 (l o232) (l o298)))) (b o43 (b o43 (b o44 (l o192) (l o43)) (b o158 (l o43) (l o290))) (b o43 (b o142 (l o44) (l o274)) (b o176 (l o240) (l o306))))))) (b o49 (b boot_o_4 (b boot_o_8 (b o44 (b o43 (b o43 (b o43 (l o309) n) (l o44)) (b o145 (l o211) (l o277))) (b o88 (b o43 (l o195) (l o43)) (b o161 (l o227) (l o293)))) (b o61 (b o77 (b o115 (l o44) (l o251)) (b o153 (l o219) (l o285))) (b o99 (b o43 (l o43) (l o269)) (b o169 (l o43) (l o44))))) (b o257 (b o57 (b o73 (b o111 (b o183 (l o313) n) (l o247)) (b o44 (l o44) (l o281))) (b o92 (b o130 (l o199) (l o43)) (b o165 (l o43) (l o297)))) (b o65 (b o84 (b o43 (l o191) (l o255)) (b o44 (l o223) (l o43))) (b o103 (b o43 (l o43) (l o44)) (b o43 (l o239) (l o305)))))) (b boot_o_6 (b boot_o_10 (b o43 (b o71 (b o109 (b o181 (l o311) n) (l o43)) (b o147 (l o213) (l o43))) (b o90 (b o128 (l o197) (l o263)) (b o43 (l o44) (l o295)))) (b o63 (b o82 (b o60 (l o43) (l o253)) (b o155 (l o43) (l o44))) (b o101 (b o139 (l o205) (l o271)) (b o44 (l o237) (l o43))))) (b o46 (b o59 (b o133 (b o113 (l o185) (l o43)) (b o43 (l o43) (l o283))) (b o82 (b o60 (l o44) (l o267)) (b o167 (l o233) (l o299)))) (b o44 (b o44 (b o124 (l o43) (l o60)) (b o43 (l o225) (l o291))) (b o44 (b o143 (l o209) (l o43)) (b o177 (l o241) (l o43)))))))
def t377:=b boot_o_0 (b boot_o_1 (b o314 (b boot_o_7 (b o43 (b o68 (b o106 (b o178 (l o44) n) (b o43 (l o43) n)) (b o144 (b o43 (l o342) n) (l o276))) (b o87 (b o125 (b o44 (l o326) n) (l o260)) (b o160 (b o226 (l o44) n) (l o292)))) (b o60 (b o76 (b o114 (b o43 (l o318) n) (l o44)) (b o152 (b o218 (l o43) n) (l o284))) (b o60 (b o136 (b o202 (l o334) n) (l o43)) (b o168 (b o234 (l o366) n) (l o43))))) (b o43 (b o56 (b o72 (b o110 (b o43 (l o312) n) (l o246)) (b o43 (b o43 (l o43) n) (l o44))) (b o91 (b o129 (b o198 (l o330) n) (l o264)) (b o44 (b o230 (l o362) n) (l o296)))) (b o64 (b o60 (b o121 (b o190 (l o322) n) (l o254)) (b o43 (b o44 (l o354) n) (l o288))) (b o102 (b o140 (b o206 (l o338) n) (l o43)) (b o174 (b o43 (l o370) n) (l o304)))))) (b boot_o_5 (b boot_o_9 (b o54 (b o70 (b o108 (b o44 (l o43) n) (b o244 (l o376) n)) (b o146 (b o212 (l o44) n) (l o278))) (b o43 (b o127 (b o43 (l o328) n) (l o262)) (b o162 (b o43 (l o43) n) (l o294)))) (b o43 (b o78 (b o82 (b o188 (l o320) n) (l o43)) (b o154 (b o220 (l o352) n) (l o43))) (b o43 (b o44 (b o204 (l o43) n) (l o270)) (b o43 (b o44 (l o368) n) (l o302))))) (b o45 (b o58 (b o74 (b o112 (b o184 (l o43) n) (l o248)) (b o150 (b o216 (l o348) n) (l o43))) (b o93 (b o82 (b o43 (l o44) n) (l o44)) (b o43 (b o232 (l o43) n) (l o298)))) (b o43 (b o43 (b o44 (b o192 (l o43) n) (l o43)) (b o158 (b o43 (l o356) n) (l o290))) (b o43 (b o142 (b o44 (l o340) n) (l o274)) (b o176 (b o240 (l o44) n) (l o306))))))) (b o49 (b boot_o_4 (b boot_o_8 (b o44 (b o43 (b o43 (b o43 (l o309) n) (b o44 (l o375) n)) (b o145 (b o211 (l o43) n) (l o277))) (b o88 (b o43 (b o195 (l o43) n) (l o43)) (b o161 (b o227 (l o359) n) (l o293)))) (b o61 (b o77 (b o115 (b o44 (l o43) n) (l o251)) (b o153 (b o219 (l o44) n) (l o285))) (b o99 (b o43 (b o43 (l o335) n) (l o269)) (b o169 (b o43 (l o43) n) (l o44))))) (b o315 (b o57 (b o73 (b o111 (b o183 (l o313) n) (l o247)) (b o44 (b o44 (l o347) n) (l o281))) (b o92 (b o130 (b o199 (l o43) n) (l o43)) (b o165 (b o43 (l o363) n) (l o297)))) (b o65 (b o84 (b o43 (b o191 (l o323) n) (l o255)) (b o44 (b o223 (l o355) n) (l o43))) (b o103 (b o43 (b o43 (l o339) n) (l o44)) (b o43 (b o239 (l o43) n) (l o305)))))) (b boot_o_6 (b boot_o_10 (b o43 (b o71 (b o109 (b o181 (l o311) n) (b o43 (l o377) n)) (b o147 (b o213 (l o345) n) (l o43))) (b o90 (b o128 (b o197 (l o329) n) (l o263)) (b o43 (b o44 (l o361) n) (l o295)))) (b o63 (b o82 (b o60 (b o43 (l o321) n) (l o253)) (b o155 (b o43 (l o43) n) (l o44))) (b o101 (b o139 (b o205 (l o44) n) (l o271)) (b o44 (b o237 (l o369) n) (l o43))))) (b o46 (b o59 (b o133 (b o113 (b o185 (l o44) n) (l o43)) (b o43 (b o43 (l o349) n) (l o283))) (b o82 (b o60 (b o44 (l o333) n) (l o267)) (b o167 (b o233 (l o44) n) (l o299)))) (b o44 (b o44 (b o124 (b o43 (l o44) n) (l o60)) (b o43 (b o225 (l o43) n) (l o291))) (b o44 (b o143 (b o209 (l o341) n) (l o43)) (b o177 (b o241 (l o373) n) (l o43)))))))
def t430:=b boot_o_0 (b boot_o_1 (b o378 (b boot_o_7 (b o43 (b o68 (b o106 (b o178 (l o44) n) (b o43 (l o43) n)) (b o144 (b o43 (l o342) n) (b o276 (l o408) n))) (b o87 (b o125 (b o44 (l o326) n) (b o260 (l o392) n)) (b o160 (b o226 (l o44) n) (b o292 (l o43) n)))) (b o60 (b o76 (b o114 (b o43 (l o318) n) (b o44 (l o384) n)) (b o152 (b o218 (l o43) n) (b o284 (l o416) n))) (b o60 (b o136 (b o202 (l o334) n) (b o43 (l o400) n)) (b o168 (b o234 (l o366) n) (l o43))))) (b o43 (b o56 (b o72 (b o110 (b o43 (l o312) n) (b o246 (l o43) n)) (b o43 (b o43 (l o43) n) (b o44 (l o412) n))) (b o91 (b o129 (b o198 (l o330) n) (b o264 (l o43) n)) (b o44 (b o230 (l o362) n) (b o296 (l o428) n)))) (b o64 (b o60 (b o121 (b o190 (l o322) n) (b o254 (l o43) n)) (b o43 (b o44 (l o354) n) (b o288 (l o43) n))) (b o102 (b o140 (b o206 (l o338) n) (b o43 (l o44) n)) (b o174 (b o43 (l o370) n) (l o304)))))) (b boot_o_5 (b boot_o_9 (b o54 (b o70 (b o108 (b o44 (l o43) n) (b o244 (l o376) n)) (b o146 (b o212 (l o44) n) (b o278 (l o43) n))) (b o43 (b o127 (b o43 (l o328) n) (b o262 (l o394) n)) (b o162 (b o43 (l o43) n) (b o294 (l o426) n)))) (b o43 (b o78 (b o82 (b o188 (l o320) n) (b o43 (l o386) n)) (b o154 (b o220 (l o352) n) (b o43 (l o44) n))) (b o43 (b o44 (b o204 (l o43) n) (b o270 (l o402) n)) (b o43 (b o44 (l o368) n) (l o302))))) (b o45 (b o58 (b o74 (b o112 (b o184 (l o43) n) (b o248 (l o382) n)) (b o150 (b o216 (l o348) n) (b o43 (l o414) n))) (b o93 (b o82 (b o43 (l o44) n) (b o44 (l o398) n)) (b o43 (b o232 (l o43) n) (b o298 (l o430) n)))) (b o43 (b o43 (b o44 (b o192 (l o43) n) (b o43 (l o390) n)) (b o158 (b o43 (l o356) n) (b o290 (l o422) n))) (b o43 (b o142 (b o44 (l o340) n) (b o274 (l o43) n)) (b o176 (b o240 (l o44) n) (l o306))))))) (b o49 (b boot_o_4 (b boot_o_8 (b o44 (b o43 (b o43 (b o43 (l o309) n) (b o44 (l o375) n)) (b o145 (b o211 (l o43) n) (b o277 (l o409) n))) (b o88 (b o43 (b o195 (l o43) n) (b o43 (l o393) n)) (b o161 (b o227 (l o359) n) (b o293 (l o44) n)))) (b o61 (b o77 (b o115 (b o44 (l o43) n) (b o251 (l o385) n)) (b o153 (b o219 (l o44) n) (b o285 (l o43) n))) (b o99 (b o43 (b o43 (l o335) n) (b o269 (l o401) n)) (b o169 (b o43 (l o43) n) (l o44))))) (b o379 (b o57 (b o73 (b o111 (b o183 (l o313) n) (b o247 (l o44) n)) (b o44 (b o44 (l o347) n) (b o281 (l o43) n))) (b o92 (b o130 (b o199 (l o43) n) (b o43 (l o44) n)) (b o165 (b o43 (l o363) n) (b o297 (l o429) n)))) (b o65 (b o84 (b o43 (b o191 (l o323) n) (b o255 (l o44) n)) (b o44 (b o223 (l o355) n) (b o43 (l o421) n))) (b o103 (b o43 (b o43 (l o339) n) (b o44 (l o405) n)) (b o43 (b o239 (l o43) n) (l o305)))))) (b boot_o_6 (b boot_o_10 (b o43 (b o71 (b o109 (b o181 (l o311) n) (b o43 (l o377) n)) (b o147 (b o213 (l o345) n) (b o43 (l o44) n))) (b o90 (b o128 (b o197 (l o329) n) (b o263 (l o395) n)) (b o43 (b o44 (l o361) n) (b o295 (l o43) n)))) (b o63 (b o82 (b o60 (b o43 (l o321) n) (b o253 (l o387) n)) (b o155 (b o43 (l o43) n) (b o44 (l o419) n))) (b o101 (b o139 (b o205 (l o44) n) (b o271 (l o43) n)) (b o44 (b o237 (l o369) n) (l o43))))) (b o46 (b o59 (b o133 (b o113 (b o185 (l o44) n) (b o43 (l o43) n)) (b o43 (b o43 (l o349) n) (b o283 (l o415) n))) (b o82 (b o60 (b o44 (l o333) n) (b o267 (l o43) n)) (b o167 (b o233 (l o44) n) (l o299)))) (b o44 (b o44 (b o124 (b o43 (l o44) n) (b o60 (l o43) n)) (b o43 (b o225 (l o43) n) (b o291 (l o423) n))) (b o44 (b o143 (b o209 (l o341) n) (b o43 (l o407) n)) (b o177 (b o241 (l o373) n) (l o43)))))))
def t488:=b boot_o_0 (b boot_o_1 (b o431 (b boot_o_7 (b o43 (b o68 (b o106 (b o178 (l o44) (l o442)) (b o43 (l o43) n)) (b o144 (b o43 (l o342) (l o474)) (b o276 (l o408) n))) (b o87 (b o125 (b o44 (l o326) (l o458)) (b o260 (l o392) n)) (b o160 (b o226 (l o44) n) (b o292 (l o43) n)))) (b o60 (b o76 (b o114 (b o43 (l o318) (l o43)) (b o44 (l o384) n)) (b o152 (b o218 (l o43) (l o43)) (b o284 (l o416) n))) (b o60 (b o136 (b o202 (l o334) (l o466)) (b o43 (l o400) n)) (b o168 (b o234 (l o366) n) (b o43 (l o60) n))))) (b o43 (b o56 (b o72 (b o110 (b o43 (l o312) (l o446)) (b o246 (l o43) n)) (b o43 (b o43 (l o43) (l o43)) (b o44 (l o412) n))) (b o91 (b o129 (b o198 (l o330) (l o462)) (b o264 (l o43) n)) (b o44 (b o230 (l o362) n) (b o296 (l o428) n)))) (b o64 (b o60 (b o121 (b o190 (l o322) (l o43)) (b o254 (l o43) n)) (b o43 (b o44 (l o354) (l o486)) (b o288 (l o43) n))) (b o102 (b o140 (b o206 (l o338) (l o470)) (b o43 (l o44) n)) (b o174 (b o43 (l o370) n) (b o304 (l o438) n)))))) (b boot_o_5 (b boot_o_9 (b o54 (b o70 (b o108 (b o44 (l o43) (l o444)) (b o244 (l o376) n)) (b o146 (b o212 (l o44) (l o44)) (b o278 (l o43) n))) (b o43 (b o127 (b o43 (l o328) (l o460)) (b o262 (l o394) n)) (b o162 (b o43 (l o43) n) (b o294 (l o426) n)))) (b o43 (b o78 (b o82 (b o188 (l o320) (l o452)) (b o43 (l o386) n)) (b o154 (b o220 (l o352) (l o484)) (b o43 (l o44) n))) (b o43 (b o44 (b o204 (l o43) (l o43)) (b o270 (l o402) n)) (b o43 (b o44 (l o368) n) (b o302 (l o43) n))))) (b o45 (b o58 (b o74 (b o112 (b o184 (l o43) (l o44)) (b o248 (l o382) n)) (b o150 (b o216 (l o348) (l o480)) (b o43 (l o414) n))) (b o93 (b o82 (b o43 (l o44) (l o464)) (b o44 (l o398) n)) (b o43 (b o232 (l o43) n) (b o298 (l o430) n)))) (b o43 (b o43 (b o44 (b o192 (l o43) (l o456)) (b o43 (l o390) n)) (b o158 (b o43 (l o356) (l o488)) (b o290 (l o422) n))) (b o43 (b o142 (b o44 (l o340) (l o472)) (b o274 (l o43) n)) (b o176 (b o240 (l o44) n) (b o306 (l o43) n))))))) (b o49 (b boot_o_4 (b boot_o_8 (b o44 (b o43 (b o43 (b o43 (l o309) (l o43)) (b o44 (l o375) n)) (b o145 (b o211 (l o43) (l o43)) (b o277 (l o409) n))) (b o88 (b o43 (b o195 (l o43) (l o459)) (b o43 (l o393) n)) (b o161 (b o227 (l o359) n) (b o293 (l o44) n)))) (b o61 (b o77 (b o115 (b o44 (l o43) (l o451)) (b o251 (l o385) n)) (b o153 (b o219 (l o44) (l o44)) (b o285 (l o43) n))) (b o99 (b o43 (b o43 (l o335) (l o467)) (b o269 (l o401) n)) (b o169 (b o43 (l o43) n) (b o44 (l o435) n))))) (b o432 (b o57 (b o73 (b o111 (b o183 (l o313) (l o43)) (b o247 (l o44) n)) (b o44 (b o44 (l o347) (l o479)) (b o281 (l o43) n))) (b o92 (b o130 (b o199 (l o43) (l o463)) (b o43 (l o44) n)) (b o165 (b o43 (l o363) n) (b o297 (l o429) n)))) (b o65 (b o84 (b o43 (b o191 (l o323) (l o44)) (b o255 (l o44) n)) (b o44 (b o223 (l o355) (l o487)) (b o43 (l o421) n))) (b o103 (b o43 (b o43 (l o339) (l o43)) (b o44 (l o405) n)) (b o43 (b o239 (l o43) n) (b o305 (l o439) n)))))) (b boot_o_6 (b boot_o_10 (b o43 (b o71 (b o109 (b o181 (l o311) (l o445)) (b o43 (l o377) n)) (b o147 (b o213 (l o345) (l o477)) (b o43 (l o44) n))) (b o90 (b o128 (b o197 (l o329) (l o461)) (b o263 (l o395) n)) (b o43 (b o44 (l o361) n) (b o295 (l o43) n)))) (b o63 (b o82 (b o60 (b o43 (l o321) (l o453)) (b o253 (l o387) n)) (b o155 (b o43 (l o43) (l o43)) (b o44 (l o419) n))) (b o101 (b o139 (b o205 (l o44) (l o44)) (b o271 (l o43) n)) (b o44 (b o237 (l o369) n) (b o43 (l o437) n))))) (b o46 (b o59 (b o133 (b o113 (b o185 (l o44) (l o449)) (b o43 (l o43) n)) (b o43 (b o43 (l o349) (l o481)) (b o283 (l o415) n))) (b o82 (b o60 (b o44 (l o333) (l o465)) (b o267 (l o43) n)) (b o167 (b o233 (l o44) n) (b o299 (l o43) n)))) (b o44 (b o44 (b o124 (b o43 (l o44) (l o43)) (b o60 (l o43) n)) (b o43 (b o225 (l o43) n) (b o291 (l o423) n))) (b o44 (b o143 (b o209 (l o341) (l o473)) (b o43 (l o407) n)) (b o177 (b o241 (l o373) n) (b o43 (l o44) n)))))))
def t561:=b boot_o_0 (b boot_o_1 (b o489 (b boot_o_7 (b o43 (b o68 (b o106 (b o178 (l o44) (l o442)) (b o43 (l o43) (l o43))) (b o144 (b o43 (l o342) (l o474)) (b o276 (l o408) (l o540)))) (b o87 (b o125 (b o44 (l o326) (l o458)) (b o260 (l o392) (l o43))) (b o160 (b o226 (l o44) (l o44)) (b o292 (l o43) (l o556))))) (b o60 (b o76 (b o114 (b o43 (l o318) (l o43)) (b o44 (l o384) (l o516))) (b o152 (b o218 (l o43) (l o43)) (b o284 (l o416) (l o548)))) (b o60 (b o136 (b o202 (l o334) (l o466)) (b o43 (l o400) (l o43))) (b o168 (b o234 (l o366) (l o500)) (b o43 (l o60) n))))) (b o43 (b o56 (b o72 (b o110 (b o43 (l o312) (l o446)) (b o246 (l o43) (l o43))) (b o43 (b o43 (l o43) (l o43)) (b o44 (l o412) (l o44)))) (b o91 (b o129 (b o198 (l o330) (l o462)) (b o264 (l o43) (l o528))) (b o44 (b o230 (l o362) (l o496)) (b o296 (l o428) (l o560))))) (b o64 (b o60 (b o121 (b o190 (l o322) (l o43)) (b o254 (l o43) (l o44))) (b o43 (b o44 (l o354) (l o486)) (b o288 (l o43) (l o552)))) (b o102 (b o140 (b o206 (l o338) (l o470)) (b o43 (l o44) (l o43))) (b o174 (b o43 (l o370) (l o504)) (b o304 (l o438) n)))))) (b boot_o_5 (b boot_o_9 (b o54 (b o70 (b o108 (b o44 (l o43) (l o444)) (b o244 (l o376) (l o510))) (b o146 (b o212 (l o44) (l o44)) (b o278 (l o43) (l o542)))) (b o43 (b o127 (b o43 (l o328) (l o460)) (b o262 (l o394) (l o526))) (b o162 (b o43 (l o43) (l o43)) (b o294 (l o426) (l o44))))) (b o43 (b o78 (b o82 (b o188 (l o320) (l o452)) (b o43 (l o386) (l o518))) (b o154 (b o220 (l o352) (l o484)) (b o43 (l o44) (l o43)))) (b o43 (b o44 (b o204 (l o43) (l o43)) (b o270 (l o402) (l o534))) (b o43 (b o44 (l o368) (l o502)) (b o302 (l o43) n))))) (b o45 (b o58 (b o74 (b o112 (b o184 (l o43) (l o44)) (b o248 (l o382) (l o514))) (b o150 (b o216 (l o348) (l o480)) (b o43 (l o414) (l o43)))) (b o93 (b o82 (b o43 (l o44) (l o464)) (b o44 (l o398) (l o44))) (b o43 (b o232 (l o43) (l o43)) (b o298 (l o430) n)))) (b o43 (b o43 (b o44 (b o192 (l o43) (l o456)) (b o43 (l o390) (l o522))) (b o158 (b o43 (l o356) (l o488)) (b o290 (l o422) (l o554)))) (b o43 (b o142 (b o44 (l o340) (l o472)) (b o274 (l o43) (l o538))) (b o176 (b o240 (l o44) (l o44)) (b o306 (l o43) n))))))) (b o49 (b boot_o_4 (b boot_o_8 (b o44 (b o43 (b o43 (b o43 (l o309) (l o43)) (b o44 (l o375) (l o509))) (b o145 (b o211 (l o43) (l o43)) (b o277 (l o409) (l o541)))) (b o88 (b o43 (b o195 (l o43) (l o459)) (b o43 (l o393) (l o44))) (b o161 (b o227 (l o359) (l o493)) (b o293 (l o44) (l o43))))) (b o61 (b o77 (b o115 (b o44 (l o43) (l o451)) (b o251 (l o385) (l o517))) (b o153 (b o219 (l o44) (l o44)) (b o285 (l o43) (l o549)))) (b o99 (b o43 (b o43 (l o335) (l o467)) (b o269 (l o401) (l o533))) (b o169 (b o43 (l o43) (l o43)) (b o44 (l o435) n))))) (b o490 (b o57 (b o73 (b o111 (b o183 (l o313) (l o43)) (b o247 (l o44) (l o44))) (b o44 (b o44 (l o347) (l o479)) (b o281 (l o43) (l o545)))) (b o92 (b o130 (b o199 (l o43) (l o463)) (b o43 (l o44) (l o43))) (b o165 (b o43 (l o363) (l o497)) (b o297 (l o429) (l o561))))) (b o65 (b o84 (b o43 (b o191 (l o323) (l o44)) (b o255 (l o44) (l o521))) (b o44 (b o223 (l o355) (l o487)) (b o43 (l o421) (l o43)))) (b o103 (b o43 (b o43 (l o339) (l o43)) (b o44 (l o405) (l o44))) (b o43 (b o239 (l o43) (l o43)) (b o305 (l o439) n)))))) (b boot_o_6 (b boot_o_10 (b o43 (b o71 (b o109 (b o181 (l o311) (l o445)) (b o43 (l o377) (l o511))) (b o147 (b o213 (l o345) (l o477)) (b o43 (l o44) (l o43)))) (b o90 (b o128 (b o197 (l o329) (l o461)) (b o263 (l o395) (l o527))) (b o43 (b o44 (l o361) (l o495)) (b o295 (l o43) (l o559))))) (b o63 (b o82 (b o60 (b o43 (l o321) (l o453)) (b o253 (l o387) (l o43))) (b o155 (b o43 (l o43) (l o43)) (b o44 (l o419) (l o44)))) (b o101 (b o139 (b o205 (l o44) (l o44)) (b o271 (l o43) (l o535))) (b o44 (b o237 (l o369) (l o503)) (b o43 (l o437) n))))) (b o46 (b o59 (b o133 (b o113 (b o185 (l o44) (l o449)) (b o43 (l o43) (l o43))) (b o43 (b o43 (l o349) (l o481)) (b o283 (l o415) (l o547)))) (b o82 (b o60 (b o44 (l o333) (l o465)) (b o267 (l o43) (l o531))) (b o167 (b o233 (l o44) (l o44)) (b o299 (l o43) n)))) (b o44 (b o44 (b o124 (b o43 (l o44) (l o43)) (b o60 (l o43) (l o523))) (b o43 (b o225 (l o43) (l o43)) (b o291 (l o423) (l o555)))) (b o44 (b o143 (b o209 (l o341) (l o473)) (b o43 (l o407) (l o43))) (b o177 (b o241 (l o373) (l o507)) (b o43 (l o44) n)))))))
def t584:=b boot_o_0 (b boot_o_1 (b o562 (b boot_o_7 (b o43 (b o68 (b o106 (b o178 (b o44 (l o43) n) (l o442)) (b o43 (l o43) (l o43))) (b o144 (b o43 (l o342) (l o474)) (b o276 (l o408) (l o540)))) (b o87 (b o125 (b o44 (l o326) (l o458)) (b o260 (l o392) (l o43))) (b o160 (b o226 (l o44) (l o44)) (b o292 (l o43) (l o556))))) (b o60 (b o76 (b o114 (b o43 (b o318 (l o582) n) (l o43)) (b o44 (l o384) (l o516))) (b o152 (b o218 (l o43) (l o43)) (b o284 (l o416) (l o548)))) (b o60 (b o136 (b o202 (l o334) (l o466)) (b o43 (l o400) (l o43))) (b o168 (b o234 (l o366) (l o500)) (b o43 (l o60) (l o566)))))) (b o43 (b o56 (b o72 (b o110 (b o43 (b o312 (l o43) n) (l o446)) (b o246 (l o43) (l o43))) (b o43 (b o43 (l o43) (l o43)) (b o44 (l o412) (l o44)))) (b o91 (b o129 (b o198 (l o330) (l o462)) (b o264 (l o43) (l o528))) (b o44 (b o230 (l o362) (l o496)) (b o296 (l o428) (l o560))))) (b o64 (b o60 (b o121 (b o190 (l o322) (l o43)) (b o254 (l o43) (l o44))) (b o43 (b o44 (l o354) (l o486)) (b o288 (l o43) (l o552)))) (b o102 (b o140 (b o206 (l o338) (l o470)) (b o43 (l o44) (l o43))) (b o174 (b o43 (l o370) (l o504)) (b o304 (l o438) (l o570))))))) (b boot_o_5 (b boot_o_9 (b o54 (b o70 (b o108 (b o44 (b o43 (l o576) n) (l o444)) (b o244 (l o376) (l o510))) (b o146 (b o212 (l o44) (l o44)) (b o278 (l o43) (l o542)))) (b o43 (b o127 (b o43 (l o328) (l o460)) (b o262 (l o394) (l o526))) (b o162 (b o43 (l o43) (l o43)) (b o294 (l o426) (l o44))))) (b o43 (b o78 (b o82 (b o188 (b o320 (l o584) n) (l o452)) (b o43 (l o386) (l o518))) (b o154 (b o220 (l o352) (l o484)) (b o43 (l o44) (l o43)))) (b o43 (b o44 (b o204 (l o43) (l o43)) (b o270 (l o402) (l o534))) (b o43 (b o44 (l o368) (l o502)) (b o302 (l o43) (l o568)))))) (b o45 (b o58 (b o74 (b o112 (b o184 (b o43 (l o580) n) (l o44)) (b o248 (l o382) (l o514))) (b o150 (b o216 (l o348) (l o480)) (b o43 (l o414) (l o43)))) (b o93 (b o82 (b o43 (l o44) (l o464)) (b o44 (l o398) (l o44))) (b o43 (b o232 (l o43) (l o43)) (b o298 (l o430) (l o43))))) (b o43 (b o43 (b o44 (b o192 (l o43) (l o456)) (b o43 (l o390) (l o522))) (b o158 (b o43 (l o356) (l o488)) (b o290 (l o422) (l o554)))) (b o43 (b o142 (b o44 (l o340) (l o472)) (b o274 (l o43) (l o538))) (b o176 (b o240 (l o44) (l o44)) (b o306 (l o43) (l o44)))))))) (b o49 (b boot_o_4 (b boot_o_8 (b o44 (b o43 (b o43 (b o43 (b o309 (l o575) n) (l o43)) (b o44 (l o375) (l o509))) (b o145 (b o211 (l o43) (l o43)) (b o277 (l o409) (l o541)))) (b o88 (b o43 (b o195 (l o43) (l o459)) (b o43 (l o393) (l o44))) (b o161 (b o227 (l o359) (l o493)) (b o293 (l o44) (l o43))))) (b o61 (b o77 (b o115 (b o44 (b o43 (l o583) n) (l o451)) (b o251 (l o385) (l o517))) (b o153 (b o219 (l o44) (l o44)) (b o285 (l o43) (l o549)))) (b o99 (b o43 (b o43 (l o335) (l o467)) (b o269 (l o401) (l o533))) (b o169 (b o43 (l o43) (l o43)) (b o44 (l o435) (l o43)))))) (b o563 (b o57 (b o73 (b o111 (b o183 (b o313 (l o44) n) (l o43)) (b o247 (l o44) (l o44))) (b o44 (b o44 (l o347) (l o479)) (b o281 (l o43) (l o545)))) (b o92 (b o130 (b o199 (l o43) (l o463)) (b o43 (l o44) (l o43))) (b o165 (b o43 (l o363) (l o497)) (b o297 (l o429) (l o561))))) (b o65 (b o84 (b o43 (b o191 (l o323) (l o44)) (b o255 (l o44) (l o521))) (b o44 (b o223 (l o355) (l o487)) (b o43 (l o421) (l o43)))) (b o103 (b o43 (b o43 (l o339) (l o43)) (b o44 (l o405) (l o44))) (b o43 (b o239 (l o43) (l o43)) (b o305 (l o439) (l o43))))))) (b boot_o_6 (b boot_o_10 (b o43 (b o71 (b o109 (b o181 (b o311 (l o577) n) (l o445)) (b o43 (l o377) (l o511))) (b o147 (b o213 (l o345) (l o477)) (b o43 (l o44) (l o43)))) (b o90 (b o128 (b o197 (l o329) (l o461)) (b o263 (l o395) (l o527))) (b o43 (b o44 (l o361) (l o495)) (b o295 (l o43) (l o559))))) (b o63 (b o82 (b o60 (b o43 (l o321) (l o453)) (b o253 (l o387) (l o43))) (b o155 (b o43 (l o43) (l o43)) (b o44 (l o419) (l o44)))) (b o101 (b o139 (b o205 (l o44) (l o44)) (b o271 (l o43) (l o535))) (b o44 (b o237 (l o369) (l o503)) (b o43 (l o437) (l o569)))))) (b o46 (b o59 (b o133 (b o113 (b o185 (b o44 (l o43) n) (l o449)) (b o43 (l o43) (l o43))) (b o43 (b o43 (l o349) (l o481)) (b o283 (l o415) (l o547)))) (b o82 (b o60 (b o44 (l o333) (l o465)) (b o267 (l o43) (l o531))) (b o167 (b o233 (l o44) (l o44)) (b o299 (l o43) (l o44))))) (b o44 (b o44 (b o124 (b o43 (l o44) (l o43)) (b o60 (l o43) (l o523))) (b o43 (b o225 (l o43) (l o43)) (b o291 (l o423) (l o555)))) (b o44 (b o143 (b o209 (l o341) (l o473)) (b o43 (l o407) (l o43))) (b o177 (b o241 (l o373) (l o507)) (b o43 (l o44) (l o573))))))))
def t652:=b boot_o_0 (b boot_o_1 (b o585 (b boot_o_7 (b o43 (b o68 (b o106 (b o178 (b o44 (l o43) n) (l o442)) (b o43 (b o43 (l o44) n) (l o43))) (b o144 (b o43 (b o342 (l o43) n) (l o474)) (b o276 (l o408) (l o540)))) (b o87 (b o125 (b o44 (b o326 (l o592) n) (l o458)) (b o260 (l o392) (l o43))) (b o160 (b o226 (b o44 (l o624) n) (l o44)) (b o292 (l o43) (l o556))))) (b o60 (b o76 (b o114 (b o43 (b o318 (l o582) n) (l o43)) (b o44 (b o384 (l o648) n) (l o516))) (b o152 (b o218 (b o43 (l o44) n) (l o43)) (b o284 (l o416) (l o548)))) (b o60 (b o136 (b o202 (b o334 (l o600) n) (l o466)) (b o43 (l o400) (l o43))) (b o168 (b o234 (b o366 (l o43) n) (l o500)) (b o43 (l o60) (l o566)))))) (b o43 (b o56 (b o72 (b o110 (b o43 (b o312 (l o43) n) (l o446)) (b o246 (b o43 (l o644) n) (l o43))) (b o43 (b o43 (b o43 (l o612) n) (l o43)) (b o44 (l o412) (l o44)))) (b o91 (b o129 (b o198 (b o330 (l o596) n) (l o462)) (b o264 (l o43) (l o528))) (b o44 (b o230 (b o362 (l o43) n) (l o496)) (b o296 (l o428) (l o560))))) (b o64 (b o60 (b o121 (b o190 (b o322 (l o60) n) (l o43)) (b o254 (b o43 (l o652) n) (l o44))) (b o43 (b o44 (b o354 (l o43) n) (l o486)) (b o288 (l o43) (l o552)))) (b o102 (b o140 (b o206 (b o338 (l o43) n) (l o470)) (b o43 (l o44) (l o43))) (b o174 (b o43 (b o370 (l o636) n) (l o504)) (b o304 (l o438) (l o570))))))) (b boot_o_5 (b boot_o_9 (b o54 (b o70 (b o108 (b o44 (b o43 (l o576) n) (l o444)) (b o244 (b o376 (l o43) n) (l o510))) (b o146 (b o212 (b o44 (l o610) n) (l o44)) (b o278 (l o43) (l o542)))) (b o43 (b o127 (b o43 (b o328 (l o43) n) (l o460)) (b o262 (l o394) (l o526))) (b o162 (b o43 (b o43 (l o44) n) (l o43)) (b o294 (l o426) (l o44))))) (b o43 (b o78 (b o82 (b o188 (b o320 (l o584) n) (l o452)) (b o43 (b o386 (l o650) n) (l o518))) (b o154 (b o220 (b o352 (l o618) n) (l o484)) (b o43 (l o44) (l o43)))) (b o43 (b o44 (b o204 (b o43 (l o44) n) (l o43)) (b o270 (l o402) (l o534))) (b o43 (b o44 (b o368 (l o634) n) (l o502)) (b o302 (l o43) (l o568)))))) (b o45 (b o58 (b o74 (b o112 (b o184 (b o43 (l o580) n) (l o44)) (b o248 (b o382 (l o646) n) (l o514))) (b o150 (b o216 (b o348 (l o614) n) (l o480)) (b o43 (l o414) (l o43)))) (b o93 (b o82 (b o43 (b o44 (l o598) n) (l o464)) (b o44 (l o398) (l o44))) (b o43 (b o232 (b o43 (l o630) n) (l o43)) (b o298 (l o430) (l o43))))) (b o43 (b o43 (b o44 (b o192 (b o43 (l o43) n) (l o456)) (b o43 (l o390) (l o522))) (b o158 (b o43 (b o356 (l o622) n) (l o488)) (b o290 (l o422) (l o554)))) (b o43 (b o142 (b o44 (b o340 (l o606) n) (l o472)) (b o274 (l o43) (l o538))) (b o176 (b o240 (b o44 (l o638) n) (l o44)) (b o306 (l o43) (l o44)))))))) (b o49 (b boot_o_4 (b boot_o_8 (b o44 (b o43 (b o43 (b o43 (b o309 (l o575) n) (l o43)) (b o44 (b o375 (l o641) n) (l o509))) (b o145 (b o211 (b o43 (l o44) n) (l o43)) (b o277 (l o409) (l o541)))) (b o88 (b o43 (b o195 (b o43 (l o593) n) (l o459)) (b o43 (l o393) (l o44))) (b o161 (b o227 (b o359 (l o43) n) (l o493)) (b o293 (l o44) (l o43))))) (b o61 (b o77 (b o115 (b o44 (b o43 (l o583) n) (l o451)) (b o251 (b o385 (l o649) n) (l o517))) (b o153 (b o219 (b o44 (l o617) n) (l o44)) (b o285 (l o43) (l o549)))) (b o99 (b o43 (b o43 (b o335 (l o43) n) (l o467)) (b o269 (l o401) (l o533))) (b o169 (b o43 (b o43 (l o44) n) (l o43)) (b o44 (l o435) (l o43)))))) (b o586 (b o57 (b o73 (b o111 (b o183 (b o313 (l o44) n) (l o43)) (b o247 (b o44 (l o645) n) (l o44))) (b o44 (b o44 (b o347 (l o613) n) (l o479)) (b o281 (l o43) (l o545)))) (b o92 (b o130 (b o199 (b o43 (l o43) n) (l o463)) (b o43 (l o44) (l o43))) (b o165 (b o43 (b o363 (l o629) n) (l o497)) (b o297 (l o429) (l o561))))) (b o65 (b o84 (b o43 (b o191 (b o323 (l o589) n) (l o44)) (b o255 (l o44) (l o521))) (b o44 (b o223 (b o355 (l o44) n) (l o487)) (b o43 (l o421) (l o43)))) (b o103 (b o43 (b o43 (b o339 (l o605) n) (l o43)) (b o44 (l o405) (l o44))) (b o43 (b o239 (b o43 (l o637) n) (l o43)) (b o305 (l o439) (l o43))))))) (b boot_o_6 (b boot_o_10 (b o43 (b o71 (b o109 (b o181 (b o311 (l o577) n) (l o445)) (b o43 (b o377 (l o643) n) (l o511))) (b o147 (b o213 (b o345 (l o43) n) (l o477)) (b o43 (l o44) (l o43)))) (b o90 (b o128 (b o197 (b o329 (l o44) n) (l o461)) (b o263 (l o395) (l o527))) (b o43 (b o44 (b o361 (l o627) n) (l o495)) (b o295 (l o43) (l o559))))) (b o63 (b o82 (b o60 (b o43 (b o321 (l o43) n) (l o453)) (b o253 (b o387 (l o651) n) (l o43))) (b o155 (b o43 (b o43 (l o619) n) (l o43)) (b o44 (l o419) (l o44)))) (b o101 (b o139 (b o205 (b o44 (l o603) n) (l o44)) (b o271 (l o43) (l o535))) (b o44 (b o237 (b o369 (l o43) n) (l o503)) (b o43 (l o437) (l o569)))))) (b o46 (b o59 (b o133 (b o113 (b o185 (b o44 (l o43) n) (l o449)) (b o43 (b o43 (l o647) n) (l o43))) (b o43 (b o43 (b o349 (l o43) n) (l o481)) (b o283 (l o415) (l o547)))) (b o82 (b o60 (b o44 (b o333 (l o599) n) (l o465)) (b o267 (l o43) (l o531))) (b o167 (b o233 (b o44 (l o631) n) (l o44)) (b o299 (l o43) (l o44))))) (b o44 (b o44 (b o124 (b o43 (b o44 (l o591) n) (l o43)) (b o60 (l o43) (l o523))) (b o43 (b o225 (b o43 (l o623) n) (l o43)) (b o291 (l o423) (l o555)))) (b o44 (b o143 (b o209 (b o341 (l o607) n) (l o473)) (b o43 (l o407) (l o43))) (b o177 (b o241 (b o373 (l o43) n) (l o507)) (b o43 (l o44) (l o573))))))))
def t662:=b boot_o_0 (b boot_o_1 (b o653 (b boot_o_7 (b o43 (b o68 (b o106 (b o178 (b o44 (l o43) n) (l o442)) (b o43 (b o43 (l o44) n) (l o43))) (b o144 (b o43 (b o342 (l o43) n) (l o474)) (b o276 (l o408) (l o540)))) (b o87 (b o125 (b o44 (b o326 (l o592) n) (l o458)) (b o260 (b o392 (l o658) n) (l o43))) (b o160 (b o226 (b o44 (l o624) n) (l o44)) (b o292 (l o43) (l o556))))) (b o60 (b o76 (b o114 (b o43 (b o318 (l o582) n) (l o43)) (b o44 (b o384 (l o648) n) (l o516))) (b o152 (b o218 (b o43 (l o44) n) (l o43)) (b o284 (l o416) (l o548)))) (b o60 (b o136 (b o202 (b o334 (l o600) n) (l o466)) (b o43 (l o400) (l o43))) (b o168 (b o234 (b o366 (l o43) n) (l o500)) (b o43 (l o60) (l o566)))))) (b o43 (b o56 (b o72 (b o110 (b o43 (b o312 (l o43) n) (l o446)) (b o246 (b o43 (l o644) n) (l o43))) (b o43 (b o43 (b o43 (l o612) n) (l o43)) (b o44 (l o412) (l o44)))) (b o91 (b o129 (b o198 (b o330 (l o596) n) (l o462)) (b o264 (b o43 (l o662) n) (l o528))) (b o44 (b o230 (b o362 (l o43) n) (l o496)) (b o296 (l o428) (l o560))))) (b o64 (b o60 (b o121 (b o190 (b o322 (l o60) n) (l o43)) (b o254 (b o43 (l o652) n) (l o44))) (b o43 (b o44 (b o354 (l o43) n) (l o486)) (b o288 (l o43) (l o552)))) (b o102 (b o140 (b o206 (b o338 (l o43) n) (l o470)) (b o43 (l o44) (l o43))) (b o174 (b o43 (b o370 (l o636) n) (l o504)) (b o304 (l o438) (l o570))))))) (b boot_o_5 (b boot_o_9 (b o54 (b o70 (b o108 (b o44 (b o43 (l o576) n) (l o444)) (b o244 (b o376 (l o43) n) (l o510))) (b o146 (b o212 (b o44 (l o610) n) (l o44)) (b o278 (l o43) (l o542)))) (b o43 (b o127 (b o43 (b o328 (l o43) n) (l o460)) (b o262 (b o394 (l o660) n) (l o526))) (b o162 (b o43 (b o43 (l o44) n) (l o43)) (b o294 (l o426) (l o44))))) (b o43 (b o78 (b o82 (b o188 (b o320 (l o584) n) (l o452)) (b o43 (b o386 (l o650) n) (l o518))) (b o154 (b o220 (b o352 (l o618) n) (l o484)) (b o43 (l o44) (l o43)))) (b o43 (b o44 (b o204 (b o43 (l o44) n) (l o43)) (b o270 (l o402) (l o534))) (b o43 (b o44 (b o368 (l o634) n) (l o502)) (b o302 (l o43) (l o568)))))) (b o45 (b o58 (b o74 (b o112 (b o184 (b o43 (l o580) n) (l o44)) (b o248 (b o382 (l o646) n) (l o514))) (b o150 (b o216 (b o348 (l o614) n) (l o480)) (b o43 (l o414) (l o43)))) (b o93 (b o82 (b o43 (b o44 (l o598) n) (l o464)) (b o44 (l o398) (l o44))) (b o43 (b o232 (b o43 (l o630) n) (l o43)) (b o298 (l o430) (l o43))))) (b o43 (b o43 (b o44 (b o192 (b o43 (l o43) n) (l o456)) (b o43 (b o390 (l o43) n) (l o522))) (b o158 (b o43 (b o356 (l o622) n) (l o488)) (b o290 (l o422) (l o554)))) (b o43 (b o142 (b o44 (b o340 (l o606) n) (l o472)) (b o274 (l o43) (l o538))) (b o176 (b o240 (b o44 (l o638) n) (l o44)) (b o306 (l o43) (l o44)))))))) (b o49 (b boot_o_4 (b boot_o_8 (b o44 (b o43 (b o43 (b o43 (b o309 (l o575) n) (l o43)) (b o44 (b o375 (l o641) n) (l o509))) (b o145 (b o211 (b o43 (l o44) n) (l o43)) (b o277 (l o409) (l o541)))) (b o88 (b o43 (b o195 (b o43 (l o593) n) (l o459)) (b o43 (b o393 (l o43) n) (l o44))) (b o161 (b o227 (b o359 (l o43) n) (l o493)) (b o293 (l o44) (l o43))))) (b o61 (b o77 (b o115 (b o44 (b o43 (l o583) n) (l o451)) (b o251 (b o385 (l o649) n) (l o517))) (b o153 (b o219 (b o44 (l o617) n) (l o44)) (b o285 (l o43) (l o549)))) (b o99 (b o43 (b o43 (b o335 (l o43) n) (l o467)) (b o269 (l o401) (l o533))) (b o169 (b o43 (b o43 (l o44) n) (l o43)) (b o44 (l o435) (l o43)))))) (b o654 (b o57 (b o73 (b o111 (b o183 (b o313 (l o44) n) (l o43)) (b o247 (b o44 (l o645) n) (l o44))) (b o44 (b o44 (b o347 (l o613) n) (l o479)) (b o281 (l o43) (l o545)))) (b o92 (b o130 (b o199 (b o43 (l o43) n) (l o463)) (b o43 (l o44) (l o43))) (b o165 (b o43 (b o363 (l o629) n) (l o497)) (b o297 (l o429) (l o561))))) (b o65 (b o84 (b o43 (b o191 (b o323 (l o589) n) (l o44)) (b o255 (b o44 (l o655) n) (l o521))) (b o44 (b o223 (b o355 (l o44) n) (l o487)) (b o43 (l o421) (l o43)))) (b o103 (b o43 (b o43 (b o339 (l o605) n) (l o43)) (b o44 (l o405) (l o44))) (b o43 (b o239 (b o43 (l o637) n) (l o43)) (b o305 (l o439) (l o43))))))) (b boot_o_6 (b boot_o_10 (b o43 (b o71 (b o109 (b o181 (b o311 (l o577) n) (l o445)) (b o43 (b o377 (l o643) n) (l o511))) (b o147 (b o213 (b o345 (l o43) n) (l o477)) (b o43 (l o44) (l o43)))) (b o90 (b o128 (b o197 (b o329 (l o44) n) (l o461)) (b o263 (b o395 (l o661) n) (l o527))) (b o43 (b o44 (b o361 (l o627) n) (l o495)) (b o295 (l o43) (l o559))))) (b o63 (b o82 (b o60 (b o43 (b o321 (l o43) n) (l o453)) (b o253 (b o387 (l o651) n) (l o43))) (b o155 (b o43 (b o43 (l o619) n) (l o43)) (b o44 (l o419) (l o44)))) (b o101 (b o139 (b o205 (b o44 (l o603) n) (l o44)) (b o271 (l o43) (l o535))) (b o44 (b o237 (b o369 (l o43) n) (l o503)) (b o43 (l o437) (l o569)))))) (b o46 (b o59 (b o133 (b o113 (b o185 (b o44 (l o43) n) (l o449)) (b o43 (b o43 (l o647) n) (l o43))) (b o43 (b o43 (b o349 (l o43) n) (l o481)) (b o283 (l o415) (l o547)))) (b o82 (b o60 (b o44 (b o333 (l o599) n) (l o465)) (b o267 (l o43) (l o531))) (b o167 (b o233 (b o44 (l o631) n) (l o44)) (b o299 (l o43) (l o44))))) (b o44 (b o44 (b o124 (b o43 (b o44 (l o591) n) (l o43)) (b o60 (b o43 (l o44) n) (l o523))) (b o43 (b o225 (b o43 (l o623) n) (l o43)) (b o291 (l o423) (l o555)))) (b o44 (b o143 (b o209 (b o341 (l o607) n) (l o473)) (b o43 (l o407) (l o43))) (b o177 (b o241 (b o373 (l o43) n) (l o507)) (b o43 (l o44) (l o573))))))))
def t727:=b boot_o_0 (b boot_o_1 (b o663 (b boot_o_7 (b o43 (b o68 (b o106 (b o178 (b o44 (l o43) n) (b o442 (l o44) n)) (b o43 (b o43 (l o44) n) (l o43))) (b o144 (b o43 (b o342 (l o43) n) (l o474)) (b o276 (b o408 (l o676) n) (l o540)))) (b o87 (b o125 (b o44 (b o326 (l o592) n) (b o458 (l o724) n)) (b o260 (b o392 (l o658) n) (l o43))) (b o160 (b o226 (b o44 (l o624) n) (l o44)) (b o292 (b o43 (l o692) n) (l o556))))) (b o60 (b o76 (b o114 (b o43 (b o318 (l o582) n) (b o43 (l o716) n)) (b o44 (b o384 (l o648) n) (l o516))) (b o152 (b o218 (b o43 (l o44) n) (l o43)) (b o284 (b o416 (l o684) n) (l o548)))) (b o60 (b o136 (b o202 (b o334 (l o600) n) (l o466)) (b o43 (b o400 (l o43) n) (l o43))) (b o168 (b o234 (b o366 (l o43) n) (l o500)) (b o43 (b o60 (l o43) n) (l o566)))))) (b o43 (b o56 (b o72 (b o110 (b o43 (b o312 (l o43) n) (b o446 (l o712) n)) (b o246 (b o43 (l o644) n) (l o43))) (b o43 (b o43 (b o43 (l o612) n) (l o43)) (b o44 (b o412 (l o44) n) (l o44)))) (b o91 (b o129 (b o198 (b o330 (l o596) n) (l o462)) (b o264 (b o43 (l o662) n) (l o528))) (b o44 (b o230 (b o362 (l o43) n) (l o496)) (b o296 (b o428 (l o43) n) (l o560))))) (b o64 (b o60 (b o121 (b o190 (b o322 (l o60) n) (b o43 (l o720) n)) (b o254 (b o43 (l o652) n) (l o44))) (b o43 (b o44 (b o354 (l o43) n) (l o486)) (b o288 (b o43 (l o688) n) (l o552)))) (b o102 (b o140 (b o206 (b o338 (l o43) n) (l o470)) (b o43 (b o44 (l o43) n) (l o43))) (b o174 (b o43 (b o370 (l o636) n) (l o504)) (b o304 (b o438 (l o704) n) (l o570))))))) (b boot_o_5 (b boot_o_9 (b o54 (b o70 (b o108 (b o44 (b o43 (l o576) n) (b o444 (l o43) n)) (b o244 (b o376 (l o43) n) (l o510))) (b o146 (b o212 (b o44 (l o610) n) (l o44)) (b o278 (b o43 (l o678) n) (l o542)))) (b o43 (b o127 (b o43 (b o328 (l o43) n) (b o460 (l o726) n)) (b o262 (b o394 (l o660) n) (l o526))) (b o162 (b o43 (b o43 (l o44) n) (l o43)) (b o294 (b o426 (l o44) n) (l o44))))) (b o43 (b o78 (b o82 (b o188 (b o320 (l o584) n) (b o452 (l o718) n)) (b o43 (b o386 (l o650) n) (l o518))) (b o154 (b o220 (b o352 (l o618) n) (l o484)) (b o43 (b o44 (l o43) n) (l o43)))) (b o43 (b o44 (b o204 (b o43 (l o44) n) (l o43)) (b o270 (b o402 (l o670) n) (l o534))) (b o43 (b o44 (b o368 (l o634) n) (l o502)) (b o302 (b o43 (l o702) n) (l o568)))))) (b o45 (b o58 (b o74 (b o112 (b o184 (b o43 (l o580) n) (b o44 (l o43) n)) (b o248 (b o382 (l o646) n) (l o514))) (b o150 (b o216 (b o348 (l o614) n) (l o480)) (b o43 (b o414 (l o43) n) (l o43)))) (b o93 (b o82 (b o43 (b o44 (l o598) n) (l o464)) (b o44 (b o398 (l o60) n) (l o44))) (b o43 (b o232 (b o43 (l o630) n) (l o43)) (b o298 (b o430 (l o698) n) (l o43))))) (b o43 (b o43 (b o44 (b o192 (b o43 (l o43) n) (b o456 (l o722) n)) (b o43 (b o390 (l o43) n) (l o522))) (b o158 (b o43 (b o356 (l o622) n) (l o488)) (b o290 (b o422 (l o690) n) (l o554)))) (b o43 (b o142 (b o44 (b o340 (l o606) n) (l o472)) (b o274 (b o43 (l o674) n) (l o538))) (b o176 (b o240 (b o44 (l o638) n) (l o44)) (b o306 (b o43 (l o706) n) (l o44)))))))) (b o49 (b boot_o_4 (b boot_o_8 (b o44 (b o43 (b o43 (b o43 (b o309 (l o575) n) (b o43 (l o709) n)) (b o44 (b o375 (l o641) n) (l o509))) (b o145 (b o211 (b o43 (l o44) n) (l o43)) (b o277 (b o409 (l o677) n) (l o541)))) (b o88 (b o43 (b o195 (b o43 (l o593) n) (b o459 (l o725) n)) (b o43 (b o393 (l o43) n) (l o44))) (b o161 (b o227 (b o359 (l o43) n) (l o493)) (b o293 (b o44 (l o43) n) (l o43))))) (b o61 (b o77 (b o115 (b o44 (b o43 (l o583) n) (b o451 (l o43) n)) (b o251 (b o385 (l o649) n) (l o517))) (b o153 (b o219 (b o44 (l o617) n) (l o44)) (b o285 (b o43 (l o685) n) (l o549)))) (b o99 (b o43 (b o43 (b o335 (l o43) n) (l o467)) (b o269 (b o401 (l o669) n) (l o533))) (b o169 (b o43 (b o43 (l o44) n) (l o43)) (b o44 (b o435 (l o44) n) (l o43)))))) (b o664 (b o57 (b o73 (b o111 (b o183 (b o313 (l o44) n) (b o43 (l o713) n)) (b o247 (b o44 (l o645) n) (l o44))) (b o44 (b o44 (b o347 (l o613) n) (l o479)) (b o281 (b o43 (l o681) n) (l o545)))) (b o92 (b o130 (b o199 (b o43 (l o43) n) (l o463)) (b o43 (b o44 (l o43) n) (l o43))) (b o165 (b o43 (b o363 (l o629) n) (l o497)) (b o297 (b o429 (l o697) n) (l o561))))) (b o65 (b o84 (b o43 (b o191 (b o323 (l o589) n) (b o44 (l o721) n)) (b o255 (b o44 (l o655) n) (l o521))) (b o44 (b o223 (b o355 (l o44) n) (l o487)) (b o43 (b o421 (l o43) n) (l o43)))) (b o103 (b o43 (b o43 (b o339 (l o605) n) (l o43)) (b o44 (b o405 (l o44) n) (l o44))) (b o43 (b o239 (b o43 (l o637) n) (l o43)) (b o305 (b o439 (l o705) n) (l o43))))))) (b boot_o_6 (b boot_o_10 (b o43 (b o71 (b o109 (b o181 (b o311 (l o577) n) (b o445 (l o711) n)) (b o43 (b o377 (l o643) n) (l o511))) (b o147 (b o213 (b o345 (l o43) n) (l o477)) (b o43 (b o44 (l o43) n) (l o43)))) (b o90 (b o128 (b o197 (b o329 (l o44) n) (b o461 (l o727) n)) (b o263 (b o395 (l o661) n) (l o527))) (b o43 (b o44 (b o361 (l o627) n) (l o495)) (b o295 (b o43 (l o695) n) (l o559))))) (b o63 (b o82 (b o60 (b o43 (b o321 (l o43) n) (b o453 (l o719) n)) (b o253 (b o387 (l o651) n) (l o43))) (b o155 (b o43 (b o43 (l o619) n) (l o43)) (b o44 (b o419 (l o44) n) (l o44)))) (b o101 (b o139 (b o205 (b o44 (l o603) n) (l o44)) (b o271 (b o43 (l o671) n) (l o535))) (b o44 (b o237 (b o369 (l o43) n) (l o503)) (b o43 (b o437 (l o43) n) (l o569)))))) (b o46 (b o59 (b o133 (b o113 (b o185 (b o44 (l o43) n) (b o449 (l o44) n)) (b o43 (b o43 (l o647) n) (l o43))) (b o43 (b o43 (b o349 (l o43) n) (l o481)) (b o283 (b o415 (l o683) n) (l o547)))) (b o82 (b o60 (b o44 (b o333 (l o599) n) (l o465)) (b o267 (b o43 (l o667) n) (l o531))) (b o167 (b o233 (b o44 (l o631) n) (l o44)) (b o299 (b o43 (l o699) n) (l o44))))) (b o44 (b o44 (b o124 (b o43 (b o44 (l o591) n) (b o43 (l o723) n)) (b o60 (b o43 (l o44) n) (l o523))) (b o43 (b o225 (b o43 (l o623) n) (l o43)) (b o291 (b o423 (l o691) n) (l o555)))) (b o44 (b o143 (b o209 (b o341 (l o607) n) (l o473)) (b o43 (b o407 (l o43) n) (l o43))) (b o177 (b o241 (b o373 (l o43) n) (l o507)) (b o43 (b o44 (l o43) n) (l o573))))))))
def t779:=b boot_o_0 (b boot_o_1 (b o728 (b boot_o_7 (b o43 (b o68 (b o106 (b o178 (b o44 (l o43) n) (b o442 (l o44) n)) (b o43 (b o43 (l o44) n) (b o43 (l o44) n))) (b o144 (b o43 (b o342 (l o43) n) (b o474 (l o742) n)) (b o276 (b o408 (l o676) n) (l o540)))) (b o87 (b o125 (b o44 (b o326 (l o592) n) (b o458 (l o724) n)) (b o260 (b o392 (l o658) n) (l o43))) (b o160 (b o226 (b o44 (l o624) n) (b o44 (l o758) n)) (b o292 (b o43 (l o692) n) (l o556))))) (b o60 (b o76 (b o114 (b o43 (b o318 (l o582) n) (b o43 (l o716) n)) (b o44 (b o384 (l o648) n) (l o516))) (b o152 (b o218 (b o43 (l o44) n) (b o43 (l o750) n)) (b o284 (b o416 (l o684) n) (l o548)))) (b o60 (b o136 (b o202 (b o334 (l o600) n) (b o466 (l o734) n)) (b o43 (b o400 (l o43) n) (l o43))) (b o168 (b o234 (b o366 (l o43) n) (b o500 (l o766) n)) (b o43 (b o60 (l o43) n) (l o566)))))) (b o43 (b o56 (b o72 (b o110 (b o43 (b o312 (l o43) n) (b o446 (l o712) n)) (b o246 (b o43 (l o644) n) (b o43 (l o778) n))) (b o43 (b o43 (b o43 (l o612) n) (b o43 (l o44) n)) (b o44 (b o412 (l o44) n) (l o44)))) (b o91 (b o129 (b o198 (b o330 (l o596) n) (b o462 (l o43) n)) (b o264 (b o43 (l o662) n) (l o528))) (b o44 (b o230 (b o362 (l o43) n) (b o496 (l o43) n)) (b o296 (b o428 (l o43) n) (l o560))))) (b o64 (b o60 (b o121 (b o190 (b o322 (l o60) n) (b o43 (l o720) n)) (b o254 (b o43 (l o652) n) (l o44))) (b o43 (b o44 (b o354 (l o43) n) (b o486 (l o754) n)) (b o288 (b o43 (l o688) n) (l o552)))) (b o102 (b o140 (b o206 (b o338 (l o43) n) (b o470 (l o43) n)) (b o43 (b o44 (l o43) n) (l o43))) (b o174 (b o43 (b o370 (l o636) n) (b o504 (l o770) n)) (b o304 (b o438 (l o704) n) (l o570))))))) (b boot_o_5 (b boot_o_9 (b o54 (b o70 (b o108 (b o44 (b o43 (l o576) n) (b o444 (l o43) n)) (b o244 (b o376 (l o43) n) (b o510 (l o43) n))) (b o146 (b o212 (b o44 (l o610) n) (b o44 (l o744) n)) (b o278 (b o43 (l o678) n) (l o542)))) (b o43 (b o127 (b o43 (b o328 (l o43) n) (b o460 (l o726) n)) (b o262 (b o394 (l o660) n) (l o526))) (b o162 (b o43 (b o43 (l o44) n) (b o43 (l o44) n)) (b o294 (b o426 (l o44) n) (l o44))))) (b o43 (b o78 (b o82 (b o188 (b o320 (l o584) n) (b o452 (l o718) n)) (b o43 (b o386 (l o650) n) (l o518))) (b o154 (b o220 (b o352 (l o618) n) (b o484 (l o43) n)) (b o43 (b o44 (l o43) n) (l o43)))) (b o43 (b o44 (b o204 (b o43 (l o44) n) (b o43 (l o736) n)) (b o270 (b o402 (l o670) n) (l o534))) (b o43 (b o44 (b o368 (l o634) n) (b o502 (l o768) n)) (b o302 (b o43 (l o702) n) (l o568)))))) (b o45 (b o58 (b o74 (b o112 (b o184 (b o43 (l o580) n) (b o44 (l o43) n)) (b o248 (b o382 (l o646) n) (l o514))) (b o150 (b o216 (b o348 (l o614) n) (b o480 (l o43) n)) (b o43 (b o414 (l o43) n) (l o43)))) (b o93 (b o82 (b o43 (b o44 (l o598) n) (b o464 (l o43) n)) (b o44 (b o398 (l o60) n) (l o44))) (b o43 (b o232 (b o43 (l o630) n) (b o43 (l o764) n)) (b o298 (b o430 (l o698) n) (l o43))))) (b o43 (b o43 (b o44 (b o192 (b o43 (l o43) n) (b o456 (l o722) n)) (b o43 (b o390 (l o43) n) (l o522))) (b o158 (b o43 (b o356 (l o622) n) (b o488 (l o756) n)) (b o290 (b o422 (l o690) n) (l o554)))) (b o43 (b o142 (b o44 (b o340 (l o606) n) (b o472 (l o740) n)) (b o274 (b o43 (l o674) n) (l o538))) (b o176 (b o240 (b o44 (l o638) n) (b o44 (l o772) n)) (b o306 (b o43 (l o706) n) (l o44)))))))) (b o49 (b boot_o_4 (b boot_o_8 (b o44 (b o43 (b o43 (b o43 (b o309 (l o575) n) (b o43 (l o709) n)) (b o44 (b o375 (l o641) n) (b o509 (l o775) n))) (b o145 (b o211 (b o43 (l o44) n) (b o43 (l o743) n)) (b o277 (b o409 (l o677) n) (l o541)))) (b o88 (b o43 (b o195 (b o43 (l o593) n) (b o459 (l o725) n)) (b o43 (b o393 (l o43) n) (l o44))) (b o161 (b o227 (b o359 (l o43) n) (b o493 (l o43) n)) (b o293 (b o44 (l o43) n) (l o43))))) (b o61 (b o77 (b o115 (b o44 (b o43 (l o583) n) (b o451 (l o43) n)) (b o251 (b o385 (l o649) n) (l o517))) (b o153 (b o219 (b o44 (l o617) n) (b o44 (l o751) n)) (b o285 (b o43 (l o685) n) (l o549)))) (b o99 (b o43 (b o43 (b o335 (l o43) n) (b o467 (l o735) n)) (b o269 (b o401 (l o669) n) (l o533))) (b o169 (b o43 (b o43 (l o44) n) (b o43 (l o767) n)) (b o44 (b o435 (l o44) n) (l o43)))))) (b o729 (b o57 (b o73 (b o111 (b o183 (b o313 (l o44) n) (b o43 (l o713) n)) (b o247 (b o44 (l o645) n) (b o44 (l o779) n))) (b o44 (b o44 (b o347 (l o613) n) (b o479 (l o747) n)) (b o281 (b o43 (l o681) n) (l o545)))) (b o92 (b o130 (b o199 (b o43 (l o43) n) (b o463 (l o44) n)) (b o43 (b o44 (l o43) n) (l o43))) (b o165 (b o43 (b o363 (l o629) n) (b o497 (l o763) n)) (b o297 (b o429 (l o697) n) (l o561))))) (b o65 (b o84 (b o43 (b o191 (b o323 (l o589) n) (b o44 (l o721) n)) (b o255 (b o44 (l o655) n) (l o521))) (b o44 (b o223 (b o355 (l o44) n) (b o487 (l o43) n)) (b o43 (b o421 (l o43) n) (l o43)))) (b o103 (b o43 (b o43 (b o339 (l o605) n) (b o43 (l o60) n)) (b o44 (b o405 (l o44) n) (l o44))) (b o43 (b o239 (b o43 (l o637) n) (b o43 (l o771) n)) (b o305 (b o439 (l o705) n) (l o43))))))) (b boot_o_6 (b boot_o_10 (b o43 (b o71 (b o109 (b o181 (b o311 (l o577) n) (b o445 (l o711) n)) (b o43 (b o377 (l o643) n) (b o511 (l o777) n))) (b o147 (b o213 (b o345 (l o43) n) (b o477 (l o43) n)) (b o43 (b o44 (l o43) n) (l o43)))) (b o90 (b o128 (b o197 (b o329 (l o44) n) (b o461 (l o727) n)) (b o263 (b o395 (l o661) n) (l o527))) (b o43 (b o44 (b o361 (l o627) n) (b o495 (l o761) n)) (b o295 (b o43 (l o695) n) (l o559))))) (b o63 (b o82 (b o60 (b o43 (b o321 (l o43) n) (b o453 (l o719) n)) (b o253 (b o387 (l o651) n) (l o43))) (b o155 (b o43 (b o43 (l o619) n) (b o43 (l o44) n)) (b o44 (b o419 (l o44) n) (l o44)))) (b o101 (b o139 (b o205 (b o44 (l o603) n) (b o44 (l o737) n)) (b o271 (b o43 (l o671) n) (l o535))) (b o44 (b o237 (b o369 (l o43) n) (b o503 (l o769) n)) (b o43 (b o437 (l o43) n) (l o569)))))) (b o46 (b o59 (b o133 (b o113 (b o185 (b o44 (l o43) n) (b o449 (l o44) n)) (b o43 (b o43 (l o647) n) (l o43))) (b o43 (b o43 (b o349 (l o43) n) (b o481 (l o749) n)) (b o283 (b o415 (l o683) n) (l o547)))) (b o82 (b o60 (b o44 (b o333 (l o599) n) (b o465 (l o43) n)) (b o267 (b o43 (l o667) n) (l o531))) (b o167 (b o233 (b o44 (l o631) n) (b o44 (l o765) n)) (b o299 (b o43 (l o699) n) (l o44))))) (b o44 (b o44 (b o124 (b o43 (b o44 (l o591) n) (b o43 (l o723) n)) (b o60 (b o43 (l o44) n) (l o523))) (b o43 (b o225 (b o43 (l o623) n) (b o43 (l o757) n)) (b o291 (b o423 (l o691) n) (l o555)))) (b o44 (b o143 (b o209 (b o341 (l o607) n) (b o473 (l o43) n)) (b o43 (b o407 (l o43) n) (l o43))) (b o177 (b o241 (b o373 (l o43) n) (b o507 (l o43) n)) (b o43 (b o44 (l o43) n) (l o573))))))))
def t829:=b boot_o_0 (b boot_o_1 (b o780 (b boot_o_7 (b o43 (b o68 (b o106 (b o178 (b o44 (l o43) n) (b o442 (l o44) n)) (b o43 (b o43 (l o44) n) (b o43 (l o44) n))) (b o144 (b o43 (b o342 (l o43) n) (b o474 (l o742) n)) (b o276 (b o408 (l o676) n) (b o540 (l o43) n)))) (b o87 (b o125 (b o44 (b o326 (l o592) n) (b o458 (l o724) n)) (b o260 (b o392 (l o658) n) (b o43 (l o792) n))) (b o160 (b o226 (b o44 (l o624) n) (b o44 (l o758) n)) (b o292 (b o43 (l o692) n) (b o556 (l o824) n))))) (b o60 (b o76 (b o114 (b o43 (b o318 (l o582) n) (b o43 (l o716) n)) (b o44 (b o384 (l o648) n) (b o516 (l o784) n))) (b o152 (b o218 (b o43 (l o44) n) (b o43 (l o750) n)) (b o284 (b o416 (l o684) n) (b o548 (l o43) n)))) (b o60 (b o136 (b o202 (b o334 (l o600) n) (b o466 (l o734) n)) (b o43 (b o400 (l o43) n) (b o43 (l o800) n))) (b o168 (b o234 (b o366 (l o43) n) (b o500 (l o766) n)) (b o43 (b o60 (l o43) n) (l o566)))))) (b o43 (b o56 (b o72 (b o110 (b o43 (b o312 (l o43) n) (b o446 (l o712) n)) (b o246 (b o43 (l o644) n) (b o43 (l o778) n))) (b o43 (b o43 (b o43 (l o612) n) (b o43 (l o44) n)) (b o44 (b o412 (l o44) n) (b o44 (l o812) n)))) (b o91 (b o129 (b o198 (b o330 (l o596) n) (b o462 (l o43) n)) (b o264 (b o43 (l o662) n) (b o528 (l o796) n))) (b o44 (b o230 (b o362 (l o43) n) (b o496 (l o43) n)) (b o296 (b o428 (l o43) n) (b o560 (l o828) n))))) (b o64 (b o60 (b o121 (b o190 (b o322 (l o60) n) (b o43 (l o720) n)) (b o254 (b o43 (l o652) n) (b o44 (l o44) n))) (b o43 (b o44 (b o354 (l o43) n) (b o486 (l o754) n)) (b o288 (b o43 (l o688) n) (b o552 (l o820) n)))) (b o102 (b o140 (b o206 (b o338 (l o43) n) (b o470 (l o43) n)) (b o43 (b o44 (l o43) n) (b o43 (l o43) n))) (b o174 (b o43 (b o370 (l o636) n) (b o504 (l o770) n)) (b o304 (b o438 (l o704) n) (l o570))))))) (b boot_o_5 (b boot_o_9 (b o54 (b o70 (b o108 (b o44 (b o43 (l o576) n) (b o444 (l o43) n)) (b o244 (b o376 (l o43) n) (b o510 (l o43) n))) (b o146 (b o212 (b o44 (l o610) n) (b o44 (l o744) n)) (b o278 (b o43 (l o678) n) (b o542 (l o810) n)))) (b o43 (b o127 (b o43 (b o328 (l o43) n) (b o460 (l o726) n)) (b o262 (b o394 (l o660) n) (b o526 (l o43) n))) (b o162 (b o43 (b o43 (l o44) n) (b o43 (l o44) n)) (b o294 (b o426 (l o44) n) (b o44 (l o826) n))))) (b o43 (b o78 (b o82 (b o188 (b o320 (l o584) n) (b o452 (l o718) n)) (b o43 (b o386 (l o650) n) (b o518 (l o786) n))) (b o154 (b o220 (b o352 (l o618) n) (b o484 (l o43) n)) (b o43 (b o44 (l o43) n) (b o43 (l o818) n)))) (b o43 (b o44 (b o204 (b o43 (l o44) n) (b o43 (l o736) n)) (b o270 (b o402 (l o670) n) (b o534 (l o60) n))) (b o43 (b o44 (b o368 (l o634) n) (b o502 (l o768) n)) (b o302 (b o43 (l o702) n) (l o568)))))) (b o45 (b o58 (b o74 (b o112 (b o184 (b o43 (l o580) n) (b o44 (l o43) n)) (b o248 (b o382 (l o646) n) (b o514 (l o43) n))) (b o150 (b o216 (b o348 (l o614) n) (b o480 (l o43) n)) (b o43 (b o414 (l o43) n) (b o43 (l o814) n)))) (b o93 (b o82 (b o43 (b o44 (l o598) n) (b o464 (l o43) n)) (b o44 (b o398 (l o60) n) (b o44 (l o798) n))) (b o43 (b o232 (b o43 (l o630) n) (b o43 (l o764) n)) (b o298 (b o430 (l o698) n) (l o43))))) (b o43 (b o43 (b o44 (b o192 (b o43 (l o43) n) (b o456 (l o722) n)) (b o43 (b o390 (l o43) n) (b o522 (l o43) n))) (b o158 (b o43 (b o356 (l o622) n) (b o488 (l o756) n)) (b o290 (b o422 (l o690) n) (b o554 (l o822) n)))) (b o43 (b o142 (b o44 (b o340 (l o606) n) (b o472 (l o740) n)) (b o274 (b o43 (l o674) n) (b o538 (l o806) n))) (b o176 (b o240 (b o44 (l o638) n) (b o44 (l o772) n)) (b o306 (b o43 (l o706) n) (l o44)))))))) (b o49 (b boot_o_4 (b boot_o_8 (b o44 (b o43 (b o43 (b o43 (b o309 (l o575) n) (b o43 (l o709) n)) (b o44 (b o375 (l o641) n) (b o509 (l o775) n))) (b o145 (b o211 (b o43 (l o44) n) (b o43 (l o743) n)) (b o277 (b o409 (l o677) n) (b o541 (l o44) n)))) (b o88 (b o43 (b o195 (b o43 (l o593) n) (b o459 (l o725) n)) (b o43 (b o393 (l o43) n) (b o44 (l o793) n))) (b o161 (b o227 (b o359 (l o43) n) (b o493 (l o43) n)) (b o293 (b o44 (l o43) n) (b o43 (l o825) n))))) (b o61 (b o77 (b o115 (b o44 (b o43 (l o583) n) (b o451 (l o43) n)) (b o251 (b o385 (l o649) n) (b o517 (l o785) n))) (b o153 (b o219 (b o44 (l o617) n) (b o44 (l o751) n)) (b o285 (b o43 (l o685) n) (b o549 (l o44) n)))) (b o99 (b o43 (b o43 (b o335 (l o43) n) (b o467 (l o735) n)) (b o269 (b o401 (l o669) n) (b o533 (l o43) n))) (b o169 (b o43 (b o43 (l o44) n) (b o43 (l o767) n)) (b o44 (b o435 (l o44) n) (l o43)))))) (b o781 (b o57 (b o73 (b o111 (b o183 (b o313 (l o44) n) (b o43 (l o713) n)) (b o247 (b o44 (l o645) n) (b o44 (l o779) n))) (b o44 (b o44 (b o347 (l o613) n) (b o479 (l o747) n)) (b o281 (b o43 (l o681) n) (b o545 (l o813) n)))) (b o92 (b o130 (b o199 (b o43 (l o43) n) (b o463 (l o44) n)) (b o43 (b o44 (l o43) n) (b o43 (l o43) n))) (b o165 (b o43 (b o363 (l o629) n) (b o497 (l o763) n)) (b o297 (b o429 (l o697) n) (b o561 (l o829) n))))) (b o65 (b o84 (b o43 (b o191 (b o323 (l o589) n) (b o44 (l o721) n)) (b o255 (b o44 (l o655) n) (b o521 (l o789) n))) (b o44 (b o223 (b o355 (l o44) n) (b o487 (l o43) n)) (b o43 (b o421 (l o43) n) (b o43 (l o821) n)))) (b o103 (b o43 (b o43 (b o339 (l o605) n) (b o43 (l o60) n)) (b o44 (b o405 (l o44) n) (b o44 (l o805) n))) (b o43 (b o239 (b o43 (l o637) n) (b o43 (l o771) n)) (b o305 (b o439 (l o705) n) (l o43))))))) (b boot_o_6 (b boot_o_10 (b o43 (b o71 (b o109 (b o181 (b o311 (l o577) n) (b o445 (l o711) n)) (b o43 (b o377 (l o643) n) (b o511 (l o777) n))) (b o147 (b o213 (b o345 (l o43) n) (b o477 (l o43) n)) (b o43 (b o44 (l o43) n) (b o43 (l o43) n)))) (b o90 (b o128 (b o197 (b o329 (l o44) n) (b o461 (l o727) n)) (b o263 (b o395 (l o661) n) (b o527 (l o44) n))) (b o43 (b o44 (b o361 (l o627) n) (b o495 (l o761) n)) (b o295 (b o43 (l o695) n) (b o559 (l o827) n))))) (b o63 (b o82 (b o60 (b o43 (b o321 (l o43) n) (b o453 (l o719) n)) (b o253 (b o387 (l o651) n) (b o43 (l o43) n))) (b o155 (b o43 (b o43 (l o619) n) (b o43 (l o44) n)) (b o44 (b o419 (l o44) n) (b o44 (l o43) n)))) (b o101 (b o139 (b o205 (b o44 (l o603) n) (b o44 (l o737) n)) (b o271 (b o43 (l o671) n) (b o535 (l o803) n))) (b o44 (b o237 (b o369 (l o43) n) (b o503 (l o769) n)) (b o43 (b o437 (l o43) n) (l o569)))))) (b o46 (b o59 (b o133 (b o113 (b o185 (b o44 (l o43) n) (b o449 (l o44) n)) (b o43 (b o43 (l o647) n) (b o43 (l o44) n))) (b o43 (b o43 (b o349 (l o43) n) (b o481 (l o749) n)) (b o283 (b o415 (l o683) n) (b o547 (l o815) n)))) (b o82 (b o60 (b o44 (b o333 (l o599) n) (b o465 (l o43) n)) (b o267 (b o43 (l o667) n) (b o531 (l o799) n))) (b o167 (b o233 (b o44 (l o631) n) (b o44 (l o765) n)) (b o299 (b o43 (l o699) n) (l o44))))) (b o44 (b o44 (b o124 (b o43 (b o44 (l o591) n) (b o43 (l o723) n)) (b o60 (b o43 (l o44) n) (b o523 (l o791) n))) (b o43 (b o225 (b o43 (l o623) n) (b o43 (l o757) n)) (b o291 (b o423 (l o691) n) (b o555 (l o823) n)))) (b o44 (b o143 (b o209 (b o341 (l o607) n) (b o473 (l o43) n)) (b o43 (b o407 (l o43) n) (b o43 (l o807) n))) (b o177 (b o241 (b o373 (l o43) n) (b o507 (l o43) n)) (b o43 (b o44 (l o43) n) (l o573))))))))
def t863:=b boot_o_0 (b boot_o_1 (b o830 (b boot_o_7 (b o43 (b o68 (b o106 (b o178 (b o44 (l o43) (l o842)) (b o442 (l o44) n)) (b o43 (b o43 (l o44) n) (b o43 (l o44) n))) (b o144 (b o43 (b o342 (l o43) n) (b o474 (l o742) n)) (b o276 (b o408 (l o676) n) (b o540 (l o43) n)))) (b o87 (b o125 (b o44 (b o326 (l o592) (l o44)) (b o458 (l o724) n)) (b o260 (b o392 (l o658) n) (b o43 (l o792) n))) (b o160 (b o226 (b o44 (l o624) n) (b o44 (l o758) n)) (b o292 (b o43 (l o692) n) (b o556 (l o824) n))))) (b o60 (b o76 (b o114 (b o43 (b o318 (l o582) (l o44)) (b o43 (l o716) n)) (b o44 (b o384 (l o648) n) (b o516 (l o784) n))) (b o152 (b o218 (b o43 (l o44) n) (b o43 (l o750) n)) (b o284 (b o416 (l o684) n) (b o548 (l o43) n)))) (b o60 (b o136 (b o202 (b o334 (l o600) n) (b o466 (l o734) n)) (b o43 (b o400 (l o43) n) (b o43 (l o800) n))) (b o168 (b o234 (b o366 (l o43) n) (b o500 (l o766) n)) (b o43 (b o60 (l o43) n) (b o566 (l o834) n)))))) (b o43 (b o56 (b o72 (b o110 (b o43 (b o312 (l o43) (l o846)) (b o446 (l o712) n)) (b o246 (b o43 (l o644) n) (b o43 (l o778) n))) (b o43 (b o43 (b o43 (l o612) n) (b o43 (l o44) n)) (b o44 (b o412 (l o44) n) (b o44 (l o812) n)))) (b o91 (b o129 (b o198 (b o330 (l o596) (l o862)) (b o462 (l o43) n)) (b o264 (b o43 (l o662) n) (b o528 (l o796) n))) (b o44 (b o230 (b o362 (l o43) n) (b o496 (l o43) n)) (b o296 (b o428 (l o43) n) (b o560 (l o828) n))))) (b o64 (b o60 (b o121 (b o190 (b o322 (l o60) (l o854)) (b o43 (l o720) n)) (b o254 (b o43 (l o652) n) (b o44 (l o44) n))) (b o43 (b o44 (b o354 (l o43) n) (b o486 (l o754) n)) (b o288 (b o43 (l o688) n) (b o552 (l o820) n)))) (b o102 (b o140 (b o206 (b o338 (l o43) n) (b o470 (l o43) n)) (b o43 (b o44 (l o43) n) (b o43 (l o43) n))) (b o174 (b o43 (b o370 (l o636) n) (b o504 (l o770) n)) (b o304 (b o438 (l o704) n) (b o570 (l o838) n))))))) (b boot_o_5 (b boot_o_9 (b o54 (b o70 (b o108 (b o44 (b o43 (l o576) (l o844)) (b o444 (l o43) n)) (b o244 (b o376 (l o43) n) (b o510 (l o43) n))) (b o146 (b o212 (b o44 (l o610) n) (b o44 (l o744) n)) (b o278 (b o43 (l o678) n) (b o542 (l o810) n)))) (b o43 (b o127 (b o43 (b o328 (l o43) (l o43)) (b o460 (l o726) n)) (b o262 (b o394 (l o660) n) (b o526 (l o43) n))) (b o162 (b o43 (b o43 (l o44) n) (b o43 (l o44) n)) (b o294 (b o426 (l o44) n) (b o44 (l o826) n))))) (b o43 (b o78 (b o82 (b o188 (b o320 (l o584) (l o43)) (b o452 (l o718) n)) (b o43 (b o386 (l o650) n) (b o518 (l o786) n))) (b o154 (b o220 (b o352 (l o618) n) (b o484 (l o43) n)) (b o43 (b o44 (l o43) n) (b o43 (l o818) n)))) (b o43 (b o44 (b o204 (b o43 (l o44) n) (b o43 (l o736) n)) (b o270 (b o402 (l o670) n) (b o534 (l o60) n))) (b o43 (b o44 (b o368 (l o634) n) (b o502 (l o768) n)) (b o302 (b o43 (l o702) n) (b o568 (l o836) n)))))) (b o45 (b o58 (b o74 (b o112 (b o184 (b o43 (l o580) (l o848)) (b o44 (l o43) n)) (b o248 (b o382 (l o646) n) (b o514 (l o43) n))) (b o150 (b o216 (b o348 (l o614) n) (b o480 (l o43) n)) (b o43 (b o414 (l o43) n) (b o43 (l o814) n)))) (b o93 (b o82 (b o43 (b o44 (l o598) n) (b o464 (l o43) n)) (b o44 (b o398 (l o60) n) (b o44 (l o798) n))) (b o43 (b o232 (b o43 (l o630) n) (b o43 (l o764) n)) (b o298 (b o430 (l o698) n) (b o43 (l o43) n))))) (b o43 (b o43 (b o44 (b o192 (b o43 (l o43) (l o856)) (b o456 (l o722) n)) (b o43 (b o390 (l o43) n) (b o522 (l o43) n))) (b o158 (b o43 (b o356 (l o622) n) (b o488 (l o756) n)) (b o290 (b o422 (l o690) n) (b o554 (l o822) n)))) (b o43 (b o142 (b o44 (b o340 (l o606) n) (b o472 (l o740) n)) (b o274 (b o43 (l o674) n) (b o538 (l o806) n))) (b o176 (b o240 (b o44 (l o638) n) (b o44 (l o772) n)) (b o306 (b o43 (l o706) n) (b o44 (l o43) n)))))))) (b o49 (b boot_o_4 (b boot_o_8 (b o44 (b o43 (b o43 (b o43 (b o309 (l o575) (l o43)) (b o43 (l o709) n)) (b o44 (b o375 (l o641) n) (b o509 (l o775) n))) (b o145 (b o211 (b o43 (l o44) n) (b o43 (l o743) n)) (b o277 (b o409 (l o677) n) (b o541 (l o44) n)))) (b o88 (b o43 (b o195 (b o43 (l o593) (l o859)) (b o459 (l o725) n)) (b o43 (b o393 (l o43) n) (b o44 (l o793) n))) (b o161 (b o227 (b o359 (l o43) n) (b o493 (l o43) n)) (b o293 (b o44 (l o43) n) (b o43 (l o825) n))))) (b o61 (b o77 (b o115 (b o44 (b o43 (l o583) (l o851)) (b o451 (l o43) n)) (b o251 (b o385 (l o649) n) (b o517 (l o785) n))) (b o153 (b o219 (b o44 (l o617) n) (b o44 (l o751) n)) (b o285 (b o43 (l o685) n) (b o549 (l o44) n)))) (b o99 (b o43 (b o43 (b o335 (l o43) n) (b o467 (l o735) n)) (b o269 (b o401 (l o669) n) (b o533 (l o43) n))) (b o169 (b o43 (b o43 (l o44) n) (b o43 (l o767) n)) (b o44 (b o435 (l o44) n) (b o43 (l o43) n)))))) (b o831 (b o57 (b o73 (b o111 (b o183 (b o313 (l o44) (l o847)) (b o43 (l o713) n)) (b o247 (b o44 (l o645) n) (b o44 (l o779) n))) (b o44 (b o44 (b o347 (l o613) n) (b o479 (l o747) n)) (b o281 (b o43 (l o681) n) (b o545 (l o813) n)))) (b o92 (b o130 (b o199 (b o43 (l o43) (l o863)) (b o463 (l o44) n)) (b o43 (b o44 (l o43) n) (b o43 (l o43) n))) (b o165 (b o43 (b o363 (l o629) n) (b o497 (l o763) n)) (b o297 (b o429 (l o697) n) (b o561 (l o829) n))))) (b o65 (b o84 (b o43 (b o191 (b o323 (l o589) (l o855)) (b o44 (l o721) n)) (b o255 (b o44 (l o655) n) (b o521 (l o789) n))) (b o44 (b o223 (b o355 (l o44) n) (b o487 (l o43) n)) (b o43 (b o421 (l o43) n) (b o43 (l o821) n)))) (b o103 (b o43 (b o43 (b o339 (l o605) n) (b o43 (l o60) n)) (b o44 (b o405 (l o44) n) (b o44 (l o805) n))) (b o43 (b o239 (b o43 (l o637) n) (b o43 (l o771) n)) (b o305 (b o439 (l o705) n) (b o43 (l o839) n))))))) (b boot_o_6 (b boot_o_10 (b o43 (b o71 (b o109 (b o181 (b o311 (l o577) (l o845)) (b o445 (l o711) n)) (b o43 (b o377 (l o643) n) (b o511 (l o777) n))) (b o147 (b o213 (b o345 (l o43) n) (b o477 (l o43) n)) (b o43 (b o44 (l o43) n) (b o43 (l o43) n)))) (b o90 (b o128 (b o197 (b o329 (l o44) (l o861)) (b o461 (l o727) n)) (b o263 (b o395 (l o661) n) (b o527 (l o44) n))) (b o43 (b o44 (b o361 (l o627) n) (b o495 (l o761) n)) (b o295 (b o43 (l o695) n) (b o559 (l o827) n))))) (b o63 (b o82 (b o60 (b o43 (b o321 (l o43) (l o853)) (b o453 (l o719) n)) (b o253 (b o387 (l o651) n) (b o43 (l o43) n))) (b o155 (b o43 (b o43 (l o619) n) (b o43 (l o44) n)) (b o44 (b o419 (l o44) n) (b o44 (l o43) n)))) (b o101 (b o139 (b o205 (b o44 (l o603) n) (b o44 (l o737) n)) (b o271 (b o43 (l o671) n) (b o535 (l o803) n))) (b o44 (b o237 (b o369 (l o43) n) (b o503 (l o769) n)) (b o43 (b o437 (l o43) n) (b o569 (l o837) n)))))) (b o46 (b o59 (b o133 (b o113 (b o185 (b o44 (l o43) (l o43)) (b o449 (l o44) n)) (b o43 (b o43 (l o647) n) (b o43 (l o44) n))) (b o43 (b o43 (b o349 (l o43) n) (b o481 (l o749) n)) (b o283 (b o415 (l o683) n) (b o547 (l o815) n)))) (b o82 (b o60 (b o44 (b o333 (l o599) n) (b o465 (l o43) n)) (b o267 (b o43 (l o667) n) (b o531 (l o799) n))) (b o167 (b o233 (b o44 (l o631) n) (b o44 (l o765) n)) (b o299 (b o43 (l o699) n) (b o44 (l o44) n))))) (b o44 (b o44 (b o124 (b o43 (b o44 (l o591) (l o43)) (b o43 (l o723) n)) (b o60 (b o43 (l o44) n) (b o523 (l o791) n))) (b o43 (b o225 (b o43 (l o623) n) (b o43 (l o757) n)) (b o291 (b o423 (l o691) n) (b o555 (l o823) n)))) (b o44 (b o143 (b o209 (b o341 (l o607) n) (b o473 (l o43) n)) (b o43 (b o407 (l o43) n) (b o43 (l o807) n))) (b o177 (b o241 (b o373 (l o43) n) (b o507 (l o43) n)) (b o43 (b o44 (l o43) n) (b o573 (l o44) n))))))))
def t922:=b boot_o_0 (b boot_o_1 (b o864 (b boot_o_7 (b o43 (b o68 (b o106 (b o178 (b o44 (l o43) (l o842)) (b o442 (l o44) n)) (b o43 (b o43 (l o44) (l o908)) (b o43 (l o44) n))) (b o144 (b o43 (b o342 (l o43) (l o876)) (b o474 (l o742) n)) (b o276 (b o408 (l o676) n) (b o540 (l o43) n)))) (b o87 (b o125 (b o44 (b o326 (l o592) (l o44)) (b o458 (l o724) n)) (b o260 (b o392 (l o658) n) (b o43 (l o792) n))) (b o160 (b o226 (b o44 (l o624) (l o892)) (b o44 (l o758) n)) (b o292 (b o43 (l o692) n) (b o556 (l o824) n))))) (b o60 (b o76 (b o114 (b o43 (b o318 (l o582) (l o44)) (b o43 (l o716) n)) (b o44 (b o384 (l o648) (l o43)) (b o516 (l o784) n))) (b o152 (b o218 (b o43 (l o44) (l o44)) (b o43 (l o750) n)) (b o284 (b o416 (l o684) n) (b o548 (l o43) n)))) (b o60 (b o136 (b o202 (b o334 (l o600) (l o868)) (b o466 (l o734) n)) (b o43 (b o400 (l o43) n) (b o43 (l o800) n))) (b o168 (b o234 (b o366 (l o43) (l o900)) (b o500 (l o766) n)) (b o43 (b o60 (l o43) n) (b o566 (l o834) n)))))) (b o43 (b o56 (b o72 (b o110 (b o43 (b o312 (l o43) (l o846)) (b o446 (l o712) n)) (b o246 (b o43 (l o644) (l o43)) (b o43 (l o778) n))) (b o43 (b o43 (b o43 (l o612) (l o880)) (b o43 (l o44) n)) (b o44 (b o412 (l o44) n) (b o44 (l o812) n)))) (b o91 (b o129 (b o198 (b o330 (l o596) (l o862)) (b o462 (l o43) n)) (b o264 (b o43 (l o662) n) (b o528 (l o796) n))) (b o44 (b o230 (b o362 (l o43) (l o896)) (b o496 (l o43) n)) (b o296 (b o428 (l o43) n) (b o560 (l o828) n))))) (b o64 (b o60 (b o121 (b o190 (b o322 (l o60) (l o854)) (b o43 (l o720) n)) (b o254 (b o43 (l o652) (l o920)) (b o44 (l o44) n))) (b o43 (b o44 (b o354 (l o43) (l o43)) (b o486 (l o754) n)) (b o288 (b o43 (l o688) n) (b o552 (l o820) n)))) (b o102 (b o140 (b o206 (b o338 (l o43) (l o872)) (b o470 (l o43) n)) (b o43 (b o44 (l o43) n) (b o43 (l o43) n))) (b o174 (b o43 (b o370 (l o636) (l o904)) (b o504 (l o770) n)) (b o304 (b o438 (l o704) n) (b o570 (l o838) n))))))) (b boot_o_5 (b boot_o_9 (b o54 (b o70 (b o108 (b o44 (b o43 (l o576) (l o844)) (b o444 (l o43) n)) (b o244 (b o376 (l o43) (l o44)) (b o510 (l o43) n))) (b o146 (b o212 (b o44 (l o610) (l o878)) (b o44 (l o744) n)) (b o278 (b o43 (l o678) n) (b o542 (l o810) n)))) (b o43 (b o127 (b o43 (b o328 (l o43) (l o43)) (b o460 (l o726) n)) (b o262 (b o394 (l o660) n) (b o526 (l o43) n))) (b o162 (b o43 (b o43 (l o44) (l o894)) (b o43 (l o44) n)) (b o294 (b o426 (l o44) n) (b o44 (l o826) n))))) (b o43 (b o78 (b o82 (b o188 (b o320 (l o584) (l o43)) (b o452 (l o718) n)) (b o43 (b o386 (l o650) (l o918)) (b o518 (l o786) n))) (b o154 (b o220 (b o352 (l o618) (l o886)) (b o484 (l o43) n)) (b o43 (b o44 (l o43) n) (b o43 (l o818) n)))) (b o43 (b o44 (b o204 (b o43 (l o44) (l o870)) (b o43 (l o736) n)) (b o270 (b o402 (l o670) n) (b o534 (l o60) n))) (b o43 (b o44 (b o368 (l o634) (l o43)) (b o502 (l o768) n)) (b o302 (b o43 (l o702) n) (b o568 (l o836) n)))))) (b o45 (b o58 (b o74 (b o112 (b o184 (b o43 (l o580) (l o848)) (b o44 (l o43) n)) (b o248 (b o382 (l o646) (l o914)) (b o514 (l o43) n))) (b o150 (b o216 (b o348 (l o614) (l o882)) (b o480 (l o43) n)) (b o43 (b o414 (l o43) n) (b o43 (l o814) n)))) (b o93 (b o82 (b o43 (b o44 (l o598) (l o43)) (b o464 (l o43) n)) (b o44 (b o398 (l o60) n) (b o44 (l o798) n))) (b o43 (b o232 (b o43 (l o630) (l o898)) (b o43 (l o764) n)) (b o298 (b o430 (l o698) n) (b o43 (l o43) n))))) (b o43 (b o43 (b o44 (b o192 (b o43 (l o43) (l o856)) (b o456 (l o722) n)) (b o43 (b o390 (l o43) (l o922)) (b o522 (l o43) n))) (b o158 (b o43 (b o356 (l o622) (l o890)) (b o488 (l o756) n)) (b o290 (b o422 (l o690) n) (b o554 (l o822) n)))) (b o43 (b o142 (b o44 (b o340 (l o606) (l o43)) (b o472 (l o740) n)) (b o274 (b o43 (l o674) n) (b o538 (l o806) n))) (b o176 (b o240 (b o44 (l o638) (l o906)) (b o44 (l o772) n)) (b o306 (b o43 (l o706) n) (b o44 (l o43) n)))))))) (b o49 (b boot_o_4 (b boot_o_8 (b o44 (b o43 (b o43 (b o43 (b o309 (l o575) (l o43)) (b o43 (l o709) n)) (b o44 (b o375 (l o641) (l o43)) (b o509 (l o775) n))) (b o145 (b o211 (b o43 (l o44) (l o43)) (b o43 (l o743) n)) (b o277 (b o409 (l o677) n) (b o541 (l o44) n)))) (b o88 (b o43 (b o195 (b o43 (l o593) (l o859)) (b o459 (l o725) n)) (b o43 (b o393 (l o43) n) (b o44 (l o793) n))) (b o161 (b o227 (b o359 (l o43) (l o893)) (b o493 (l o43) n)) (b o293 (b o44 (l o43) n) (b o43 (l o825) n))))) (b o61 (b o77 (b o115 (b o44 (b o43 (l o583) (l o851)) (b o451 (l o43) n)) (b o251 (b o385 (l o649) (l o44)) (b o517 (l o785) n))) (b o153 (b o219 (b o44 (l o617) (l o885)) (b o44 (l o751) n)) (b o285 (b o43 (l o685) n) (b o549 (l o44) n)))) (b o99 (b o43 (b o43 (b o335 (l o43) (l o43)) (b o467 (l o735) n)) (b o269 (b o401 (l o669) n) (b o533 (l o43) n))) (b o169 (b o43 (b o43 (l o44) (l o901)) (b o43 (l o767) n)) (b o44 (b o435 (l o44) n) (b o43 (l o43) n)))))) (b o865 (b o57 (b o73 (b o111 (b o183 (b o313 (l o44) (l o847)) (b o43 (l o713) n)) (b o247 (b o44 (l o645) (l o913)) (b o44 (l o779) n))) (b o44 (b o44 (b o347 (l o613) (l o43)) (b o479 (l o747) n)) (b o281 (b o43 (l o681) n) (b o545 (l o813) n)))) (b o92 (b o130 (b o199 (b o43 (l o43) (l o863)) (b o463 (l o44) n)) (b o43 (b o44 (l o43) n) (b o43 (l o43) n))) (b o165 (b o43 (b o363 (l o629) (l o897)) (b o497 (l o763) n)) (b o297 (b o429 (l o697) n) (b o561 (l o829) n))))) (b o65 (b o84 (b o43 (b o191 (b o323 (l o589) (l o855)) (b o44 (l o721) n)) (b o255 (b o44 (l o655) (l o921)) (b o521 (l o789) n))) (b o44 (b o223 (b o355 (l o44) (l o44)) (b o487 (l o43) n)) (b o43 (b o421 (l o43) n) (b o43 (l o821) n)))) (b o103 (b o43 (b o43 (b o339 (l o605) (l o873)) (b o43 (l o60) n)) (b o44 (b o405 (l o44) n) (b o44 (l o805) n))) (b o43 (b o239 (b o43 (l o637) (l o43)) (b o43 (l o771) n)) (b o305 (b o439 (l o705) n) (b o43 (l o839) n))))))) (b boot_o_6 (b boot_o_10 (b o43 (b o71 (b o109 (b o181 (b o311 (l o577) (l o845)) (b o445 (l o711) n)) (b o43 (b o377 (l o643) (l o911)) (b o511 (l o777) n))) (b o147 (b o213 (b o345 (l o43) (l o879)) (b o477 (l o43) n)) (b o43 (b o44 (l o43) n) (b o43 (l o43) n)))) (b o90 (b o128 (b o197 (b o329 (l o44) (l o861)) (b o461 (l o727) n)) (b o263 (b o395 (l o661) n) (b o527 (l o44) n))) (b o43 (b o44 (b o361 (l o627) (l o895)) (b o495 (l o761) n)) (b o295 (b o43 (l o695) n) (b o559 (l o827) n))))) (b o63 (b o82 (b o60 (b o43 (b o321 (l o43) (l o853)) (b o453 (l o719) n)) (b o253 (b o387 (l o651) (l o43)) (b o43 (l o43) n))) (b o155 (b o43 (b o43 (l o619) (l o887)) (b o43 (l o44) n)) (b o44 (b o419 (l o44) n) (b o44 (l o43) n)))) (b o101 (b o139 (b o205 (b o44 (l o603) (l o871)) (b o44 (l o737) n)) (b o271 (b o43 (l o671) n) (b o535 (l o803) n))) (b o44 (b o237 (b o369 (l o43) (l o44)) (b o503 (l o769) n)) (b o43 (b o437 (l o43) n) (b o569 (l o837) n)))))) (b o46 (b o59 (b o133 (b o113 (b o185 (b o44 (l o43) (l o43)) (b o449 (l o44) n)) (b o43 (b o43 (l o647) (l o915)) (b o43 (l o44) n))) (b o43 (b o43 (b o349 (l o43) (l o43)) (b o481 (l o749) n)) (b o283 (b o415 (l o683) n) (b o547 (l o815) n)))) (b o82 (b o60 (b o44 (b o333 (l o599) (l o60)) (b o465 (l o43) n)) (b o267 (b o43 (l o667) n) (b o531 (l o799) n))) (b o167 (b o233 (b o44 (l o631) (l o899)) (b o44 (l o765) n)) (b o299 (b o43 (l o699) n) (b o44 (l o44) n))))) (b o44 (b o44 (b o124 (b o43 (b o44 (l o591) (l o43)) (b o43 (l o723) n)) (b o60 (b o43 (l o44) n) (b o523 (l o791) n))) (b o43 (b o225 (b o43 (l o623) (l o43)) (b o43 (l o757) n)) (b o291 (b o423 (l o691) n) (b o555 (l o823) n)))) (b o44 (b o143 (b o209 (b o341 (l o607) (l o44)) (b o473 (l o43) n)) (b o43 (b o407 (l o43) n) (b o43 (l o807) n))) (b o177 (b o241 (b o373 (l o43) (l o907)) (b o507 (l o43) n)) (b o43 (b o44 (l o43) n) (b o573 (l o44) n))))))))
def t995:=b boot_o_0 (b boot_o_1 (b o923 (b boot_o_7 (b o43 (b o68 (b o106 (b o178 (b o44 (l o43) (l o842)) (b o442 (l o44) (l o974))) (b o43 (b o43 (l o44) (l o908)) (b o43 (l o44) n))) (b o144 (b o43 (b o342 (l o43) (l o876)) (b o474 (l o742) n)) (b o276 (b o408 (l o676) (l o43)) (b o540 (l o43) n)))) (b o87 (b o125 (b o44 (b o326 (l o592) (l o44)) (b o458 (l o724) (l o990))) (b o260 (b o392 (l o658) (l o44)) (b o43 (l o792) n))) (b o160 (b o226 (b o44 (l o624) (l o892)) (b o44 (l o758) n)) (b o292 (b o43 (l o692) (l o958)) (b o556 (l o824) n))))) (b o60 (b o76 (b o114 (b o43 (b o318 (l o582) (l o44)) (b o43 (l o716) (l o982))) (b o44 (b o384 (l o648) (l o43)) (b o516 (l o784) n))) (b o152 (b o218 (b o43 (l o44) (l o44)) (b o43 (l o750) n)) (b o284 (b o416 (l o684) (l o950)) (b o548 (l o43) n)))) (b o60 (b o136 (b o202 (b o334 (l o600) (l o868)) (b o466 (l o734) n)) (b o43 (b o400 (l o43) (l o934)) (b o43 (l o800) n))) (b o168 (b o234 (b o366 (l o43) (l o900)) (b o500 (l o766) n)) (b o43 (b o60 (l o43) (l o966)) (b o566 (l o834) n)))))) (b o43 (b o56 (b o72 (b o110 (b o43 (b o312 (l o43) (l o846)) (b o446 (l o712) (l o44))) (b o246 (b o43 (l o644) (l o43)) (b o43 (l o778) n))) (b o43 (b o43 (b o43 (l o612) (l o880)) (b o43 (l o44) n)) (b o44 (b o412 (l o44) (l o43)) (b o44 (l o812) n)))) (b o91 (b o129 (b o198 (b o330 (l o596) (l o862)) (b o462 (l o43) (l o994))) (b o264 (b o43 (l o662) (l o930)) (b o528 (l o796) n))) (b o44 (b o230 (b o362 (l o43) (l o896)) (b o496 (l o43) n)) (b o296 (b o428 (l o43) (l o962)) (b o560 (l o828) n))))) (b o64 (b o60 (b o121 (b o190 (b o322 (l o60) (l o854)) (b o43 (l o720) (l o986))) (b o254 (b o43 (l o652) (l o920)) (b o44 (l o44) n))) (b o43 (b o44 (b o354 (l o43) (l o43)) (b o486 (l o754) n)) (b o288 (b o43 (l o688) (l o44)) (b o552 (l o820) n)))) (b o102 (b o140 (b o206 (b o338 (l o43) (l o872)) (b o470 (l o43) n)) (b o43 (b o44 (l o43) (l o938)) (b o43 (l o43) n))) (b o174 (b o43 (b o370 (l o636) (l o904)) (b o504 (l o770) n)) (b o304 (b o438 (l o704) (l o970)) (b o570 (l o838) n))))))) (b boot_o_5 (b boot_o_9 (b o54 (b o70 (b o108 (b o44 (b o43 (l o576) (l o844)) (b o444 (l o43) (l o976))) (b o244 (b o376 (l o43) (l o44)) (b o510 (l o43) n))) (b o146 (b o212 (b o44 (l o610) (l o878)) (b o44 (l o744) n)) (b o278 (b o43 (l o678) (l o944)) (b o542 (l o810) n)))) (b o43 (b o127 (b o43 (b o328 (l o43) (l o43)) (b o460 (l o726) (l o44))) (b o262 (b o394 (l o660) (l o43)) (b o526 (l o43) n))) (b o162 (b o43 (b o43 (l o44) (l o894)) (b o43 (l o44) n)) (b o294 (b o426 (l o44) (l o43)) (b o44 (l o826) n))))) (b o43 (b o78 (b o82 (b o188 (b o320 (l o584) (l o43)) (b o452 (l o718) (l o43))) (b o43 (b o386 (l o650) (l o918)) (b o518 (l o786) n))) (b o154 (b o220 (b o352 (l o618) (l o886)) (b o484 (l o43) n)) (b o43 (b o44 (l o43) (l o952)) (b o43 (l o818) n)))) (b o43 (b o44 (b o204 (b o43 (l o44) (l o870)) (b o43 (l o736) n)) (b o270 (b o402 (l o670) (l o936)) (b o534 (l o60) n))) (b o43 (b o44 (b o368 (l o634) (l o43)) (b o502 (l o768) n)) (b o302 (b o43 (l o702) (l o44)) (b o568 (l o836) n)))))) (b o45 (b o58 (b o74 (b o112 (b o184 (b o43 (l o580) (l o848)) (b o44 (l o43) (l o43))) (b o248 (b o382 (l o646) (l o914)) (b o514 (l o43) n))) (b o150 (b o216 (b o348 (l o614) (l o882)) (b o480 (l o43) n)) (b o43 (b o414 (l o43) (l o948)) (b o43 (l o814) n)))) (b o93 (b o82 (b o43 (b o44 (l o598) (l o43)) (b o464 (l o43) n)) (b o44 (b o398 (l o60) (l o43)) (b o44 (l o798) n))) (b o43 (b o232 (b o43 (l o630) (l o898)) (b o43 (l o764) n)) (b o298 (b o430 (l o698) (l o964)) (b o43 (l o43) n))))) (b o43 (b o43 (b o44 (b o192 (b o43 (l o43) (l o856)) (b o456 (l o722) (l o988))) (b o43 (b o390 (l o43) (l o922)) (b o522 (l o43) n))) (b o158 (b o43 (b o356 (l o622) (l o890)) (b o488 (l o756) n)) (b o290 (b o422 (l o690) (l o43)) (b o554 (l o822) n)))) (b o43 (b o142 (b o44 (b o340 (l o606) (l o43)) (b o472 (l o740) n)) (b o274 (b o43 (l o674) (l o44)) (b o538 (l o806) n))) (b o176 (b o240 (b o44 (l o638) (l o906)) (b o44 (l o772) n)) (b o306 (b o43 (l o706) (l o43)) (b o44 (l o43) n)))))))) (b o49 (b boot_o_4 (b boot_o_8 (b o44 (b o43 (b o43 (b o43 (b o309 (l o575) (l o43)) (b o43 (l o709) (l o975))) (b o44 (b o375 (l o641) (l o43)) (b o509 (l o775) n))) (b o145 (b o211 (b o43 (l o44) (l o43)) (b o43 (l o743) n)) (b o277 (b o409 (l o677) (l o943)) (b o541 (l o44) n)))) (b o88 (b o43 (b o195 (b o43 (l o593) (l o859)) (b o459 (l o725) (l o43))) (b o43 (b o393 (l o43) (l o927)) (b o44 (l o793) n))) (b o161 (b o227 (b o359 (l o43) (l o893)) (b o493 (l o43) n)) (b o293 (b o44 (l o43) (l o959)) (b o43 (l o825) n))))) (b o61 (b o77 (b o115 (b o44 (b o43 (l o583) (l o851)) (b o451 (l o43) (l o983))) (b o251 (b o385 (l o649) (l o44)) (b o517 (l o785) n))) (b o153 (b o219 (b o44 (l o617) (l o885)) (b o44 (l o751) n)) (b o285 (b o43 (l o685) (l o951)) (b o549 (l o44) n)))) (b o99 (b o43 (b o43 (b o335 (l o43) (l o43)) (b o467 (l o735) n)) (b o269 (b o401 (l o669) (l o43)) (b o533 (l o43) n))) (b o169 (b o43 (b o43 (l o44) (l o901)) (b o43 (l o767) n)) (b o44 (b o435 (l o44) (l o43)) (b o43 (l o43) n)))))) (b o924 (b o57 (b o73 (b o111 (b o183 (b o313 (l o44) (l o847)) (b o43 (l o713) (l o979))) (b o247 (b o44 (l o645) (l o913)) (b o44 (l o779) n))) (b o44 (b o44 (b o347 (l o613) (l o43)) (b o479 (l o747) n)) (b o281 (b o43 (l o681) (l o44)) (b o545 (l o813) n)))) (b o92 (b o130 (b o199 (b o43 (l o43) (l o863)) (b o463 (l o44) (l o995))) (b o43 (b o44 (l o43) (l o931)) (b o43 (l o43) n))) (b o165 (b o43 (b o363 (l o629) (l o897)) (b o497 (l o763) n)) (b o297 (b o429 (l o697) (l o43)) (b o561 (l o829) n))))) (b o65 (b o84 (b o43 (b o191 (b o323 (l o589) (l o855)) (b o44 (l o721) (l o43))) (b o255 (b o44 (l o655) (l o921)) (b o521 (l o789) n))) (b o44 (b o223 (b o355 (l o44) (l o44)) (b o487 (l o43) n)) (b o43 (b o421 (l o43) (l o955)) (b o43 (l o821) n)))) (b o103 (b o43 (b o43 (b o339 (l o605) (l o873)) (b o43 (l o60) n)) (b o44 (b o405 (l o44) (l o43)) (b o44 (l o805) n))) (b o43 (b o239 (b o43 (l o637) (l o43)) (b o43 (l o771) n)) (b o305 (b o439 (l o705) (l o971)) (b o43 (l o839) n))))))) (b boot_o_6 (b boot_o_10 (b o43 (b o71 (b o109 (b o181 (b o311 (l o577) (l o845)) (b o445 (l o711) (l o43))) (b o43 (b o377 (l o643) (l o911)) (b o511 (l o777) n))) (b o147 (b o213 (b o345 (l o43) (l o879)) (b o477 (l o43) n)) (b o43 (b o44 (l o43) (l o945)) (b o43 (l o43) n)))) (b o90 (b o128 (b o197 (b o329 (l o44) (l o861)) (b o461 (l o727) (l o993))) (b o263 (b o395 (l o661) (l o929)) (b o527 (l o44) n))) (b o43 (b o44 (b o361 (l o627) (l o895)) (b o495 (l o761) n)) (b o295 (b o43 (l o695) (l o44)) (b o559 (l o827) n))))) (b o63 (b o82 (b o60 (b o43 (b o321 (l o43) (l o853)) (b o453 (l o719) (l o44))) (b o253 (b o387 (l o651) (l o43)) (b o43 (l o43) n))) (b o155 (b o43 (b o43 (l o619) (l o887)) (b o43 (l o44) n)) (b o44 (b o419 (l o44) (l o43)) (b o44 (l o43) n)))) (b o101 (b o139 (b o205 (b o44 (l o603) (l o871)) (b o44 (l o737) n)) (b o271 (b o43 (l o671) (l o937)) (b o535 (l o803) n))) (b o44 (b o237 (b o369 (l o43) (l o44)) (b o503 (l o769) n)) (b o43 (b o437 (l o43) (l o969)) (b o569 (l o837) n)))))) (b o46 (b o59 (b o133 (b o113 (b o185 (b o44 (l o43) (l o43)) (b o449 (l o44) (l o981))) (b o43 (b o43 (l o647) (l o915)) (b o43 (l o44) n))) (b o43 (b o43 (b o349 (l o43) (l o43)) (b o481 (l o749) n)) (b o283 (b o415 (l o683) (l o43)) (b o547 (l o815) n)))) (b o82 (b o60 (b o44 (b o333 (l o599) (l o60)) (b o465 (l o43) n)) (b o267 (b o43 (l o667) (l o44)) (b o531 (l o799) n))) (b o167 (b o233 (b o44 (l o631) (l o899)) (b o44 (l o765) n)) (b o299 (b o43 (l o699) (l o965)) (b o44 (l o44) n))))) (b o44 (b o44 (b o124 (b o43 (b o44 (l o591) (l o43)) (b o43 (l o723) (l o989))) (b o60 (b o43 (l o44) (l o43)) (b o523 (l o791) n))) (b o43 (b o225 (b o43 (l o623) (l o43)) (b o43 (l o757) n)) (b o291 (b o423 (l o691) (l o957)) (b o555 (l o823) n)))) (b o44 (b o143 (b o209 (b o341 (l o607) (l o44)) (b o473 (l o43) n)) (b o43 (b o407 (l o43) (l o941)) (b o43 (l o807) n))) (b o177 (b o241 (b o373 (l o43) (l o907)) (b o507 (l o43) n)) (b o43 (b o44 (l o43) (l o44)) (b o573 (l o44) n))))))))
def h46 (P:Params):Heap:=⟨⟨[(boot_o_0 P),(boot_o_1 P),(boot_o_2 P),(boot_o_3 P),(boot_o_4 P),(boot_o_5 P),(boot_o_6 P),(boot_o_7 P),(boot_o_8 P),(boot_o_9 P),(boot_o_10 P),(o43 P),(o44 P),(o45 P),(o46 P)]⟩,⟨[],[],[],0,[],[],false,#[],[],0,false,false,false,0,[2000,10,10],false,0,true,[],[],0,false⟩⟩
noncomputable abbrev y (o:O)(x:Params→List Obj):Params→List Obj:=fun P=>o P::x P
noncomputable def h996 (P:Params):Heap:=⟨⟨(y boot_o_0<|y boot_o_1<|y o49<|y o923<|y boot_o_4<|y boot_o_5<|y boot_o_6<|y boot_o_7<|y boot_o_8<|y boot_o_9<|y boot_o_10<|y o43<|y o924<|y o45<|y o46<|y o43<|y o44<|y o54<|y o43<|y o56<|y o57<|y o58<|y o59<|y o60<|y o61<|y o43<|y o63<|y o64<|y o65<|y o43<|y o44<|y o68<|y o43<|y o70<|y o71<|y o72<|y o73<|y o74<|y o133<|y o76<|y o77<|y o78<|y o82<|y o60<|y o84<|y o43<|y o44<|y o87<|y o88<|y o43<|y o90<|y o91<|y o92<|y o93<|y o82<|y o60<|y o99<|y o43<|y o101<|y o102<|y o103<|y o43<|y o44<|y o106<|y o43<|y o108<|y o109<|y o110<|y o111<|y o112<|y o113<|y o114<|y o115<|y o82<|y o60<|y o121<|y o43<|y o44<|y o124<|y o125<|y o43<|y o127<|y o128<|y o129<|y o130<|y o82<|y o60<|y o136<|y o43<|y o44<|y o139<|y o140<|y o43<|y o142<|y o143<|y o144<|y o145<|y o146<|y o147<|y o43<|y o44<|y o150<|y o43<|y o152<|y o153<|y o154<|y o155<|y o43<|y o44<|y o158<|y o43<|y o160<|y o161<|y o162<|y o43<|y o44<|y o165<|y o43<|y o167<|y o168<|y o169<|y o43<|y o44<|y o174<|y o43<|y o176<|y o177<|y o178<|y o43<|y o44<|y o181<|y o43<|y o183<|y o184<|y o185<|y o43<|y o44<|y o188<|y o43<|y o190<|y o191<|y o192<|y o43<|y o44<|y o195<|y o43<|y o197<|y o198<|y o199<|y o43<|y o44<|y o202<|y o43<|y o204<|y o205<|y o206<|y o43<|y o44<|y o209<|y o43<|y o211<|y o212<|y o213<|y o43<|y o44<|y o216<|y o43<|y o218<|y o219<|y o220<|y o43<|y o44<|y o223<|y o43<|y o225<|y o226<|y o227<|y o43<|y o44<|y o230<|y o43<|y o232<|y o233<|y o234<|y o43<|y o44<|y o237<|y o43<|y o239<|y o240<|y o241<|y o43<|y o44<|y o244<|y o43<|y o246<|y o247<|y o248<|y o43<|y o44<|y o251<|y o43<|y o253<|y o254<|y o255<|y o43<|y o60<|y o260<|y o43<|y o262<|y o263<|y o264<|y o43<|y o44<|y o267<|y o43<|y o269<|y o270<|y o271<|y o43<|y o44<|y o274<|y o43<|y o276<|y o277<|y o278<|y o43<|y o44<|y o281<|y o43<|y o283<|y o284<|y o285<|y o43<|y o44<|y o288<|y o43<|y o290<|y o291<|y o292<|y o293<|y o294<|y o295<|y o296<|y o297<|y o298<|y o299<|y o43<|y o44<|y o302<|y o43<|y o304<|y o305<|y o306<|y o43<|y o44<|y o309<|y o43<|y o311<|y o312<|y o313<|y o43<|y o44<|y o318<|y o43<|y o320<|y o321<|y o322<|y o323<|y o43<|y o44<|y o326<|y o43<|y o328<|y o329<|y o330<|y o43<|y o44<|y o333<|y o334<|y o335<|y o43<|y o44<|y o338<|y o339<|y o340<|y o341<|y o342<|y o43<|y o44<|y o345<|y o43<|y o347<|y o348<|y o349<|y o43<|y o44<|y o352<|y o43<|y o354<|y o355<|y o356<|y o43<|y o44<|y o359<|y o43<|y o361<|y o362<|y o363<|y o43<|y o44<|y o366<|y o43<|y o368<|y o369<|y o370<|y o43<|y o44<|y o373<|y o43<|y o375<|y o376<|y o377<|y o43<|y o44<|y o382<|y o43<|y o384<|y o385<|y o386<|y o387<|y o43<|y o44<|y o390<|y o43<|y o392<|y o393<|y o394<|y o395<|y o43<|y o44<|y o398<|y o43<|y o400<|y o401<|y o402<|y o43<|y o44<|y o405<|y o43<|y o407<|y o408<|y o409<|y o43<|y o44<|y o412<|y o43<|y o414<|y o415<|y o416<|y o43<|y o44<|y o419<|y o43<|y o421<|y o422<|y o423<|y o43<|y o44<|y o426<|y o43<|y o428<|y o429<|y o430<|y o43<|y o60<|y o435<|y o43<|y o437<|y o438<|y o439<|y o43<|y o44<|y o442<|y o43<|y o444<|y o445<|y o446<|y o43<|y o44<|y o449<|y o43<|y o451<|y o452<|y o453<|y o43<|y o44<|y o456<|y o43<|y o458<|y o459<|y o460<|y o461<|y o462<|y o463<|y o464<|y o465<|y o466<|y o467<|y o43<|y o44<|y o470<|y o43<|y o472<|y o473<|y o474<|y o43<|y o44<|y o477<|y o43<|y o479<|y o480<|y o481<|y o43<|y o44<|y o484<|y o43<|y o486<|y o487<|y o488<|y o43<|y o44<|y o493<|y o43<|y o495<|y o496<|y o497<|y o43<|y o44<|y o500<|y o43<|y o502<|y o503<|y o504<|y o43<|y o44<|y o507<|y o43<|y o509<|y o510<|y o511<|y o43<|y o44<|y o514<|y o43<|y o516<|y o517<|y o518<|y o43<|y o44<|y o521<|y o522<|y o523<|y o43<|y o44<|y o526<|y o527<|y o528<|y o43<|y o44<|y o531<|y o43<|y o533<|y o534<|y o535<|y o43<|y o44<|y o538<|y o43<|y o540<|y o541<|y o542<|y o43<|y o44<|y o545<|y o43<|y o547<|y o548<|y o549<|y o43<|y o44<|y o552<|y o43<|y o554<|y o555<|y o556<|y o43<|y o44<|y o559<|y o560<|y o561<|y o43<|y o44<|y o566<|y o43<|y o568<|y o569<|y o570<|y o43<|y o44<|y o573<|y o43<|y o575<|y o576<|y o577<|y o43<|y o44<|y o580<|y o43<|y o582<|y o583<|y o584<|y o43<|y o60<|y o589<|y o43<|y o591<|y o592<|y o593<|y o43<|y o44<|y o596<|y o43<|y o598<|y o599<|y o600<|y o43<|y o44<|y o603<|y o43<|y o605<|y o606<|y o607<|y o43<|y o44<|y o610<|y o43<|y o612<|y o613<|y o614<|y o43<|y o44<|y o617<|y o618<|y o619<|y o43<|y o44<|y o622<|y o623<|y o624<|y o43<|y o44<|y o627<|y o43<|y o629<|y o630<|y o631<|y o43<|y o44<|y o634<|y o43<|y o636<|y o637<|y o638<|y o43<|y o44<|y o641<|y o43<|y o643<|y o644<|y o645<|y o646<|y o647<|y o648<|y o649<|y o650<|y o651<|y o652<|y o655<|y o43<|y o44<|y o658<|y o43<|y o660<|y o661<|y o662<|y o43<|y o60<|y o667<|y o43<|y o669<|y o670<|y o671<|y o43<|y o44<|y o674<|y o43<|y o676<|y o677<|y o678<|y o43<|y o44<|y o681<|y o43<|y o683<|y o684<|y o685<|y o43<|y o44<|y o688<|y o43<|y o690<|y o691<|y o692<|y o43<|y o44<|y o695<|y o43<|y o697<|y o698<|y o699<|y o43<|y o44<|y o702<|y o43<|y o704<|y o705<|y o706<|y o43<|y o44<|y o709<|y o43<|y o711<|y o712<|y o713<|y o43<|y o44<|y o716<|y o43<|y o718<|y o719<|y o720<|y o721<|y o722<|y o723<|y o724<|y o725<|y o726<|y o727<|y o43<|y o44<|y o43<|y o43<|y o734<|y o735<|y o736<|y o737<|y o43<|y o60<|y o740<|y o43<|y o742<|y o743<|y o744<|y o43<|y o44<|y o747<|y o43<|y o749<|y o750<|y o751<|y o43<|y o44<|y o754<|y o43<|y o756<|y o757<|y o758<|y o43<|y o44<|y o761<|y o43<|y o763<|y o764<|y o765<|y o766<|y o767<|y o768<|y o769<|y o770<|y o771<|y o772<|y o43<|y o44<|y o775<|y o43<|y o777<|y o778<|y o779<|y o43<|y o44<|y o784<|y o785<|y o786<|y o43<|y o44<|y o789<|y o43<|y o791<|y o792<|y o793<|y o43<|y o44<|y o796<|y o43<|y o798<|y o799<|y o800<|y o43<|y o60<|y o803<|y o43<|y o805<|y o806<|y o807<|y o43<|y o44<|y o810<|y o43<|y o812<|y o813<|y o814<|y o815<|y o43<|y o44<|y o818<|y o43<|y o820<|y o821<|y o822<|y o823<|y o824<|y o825<|y o826<|y o827<|y o828<|y o829<|y o43<|y o44<|y o834<|y o43<|y o836<|y o837<|y o838<|y o839<|y o43<|y o44<|y o842<|y o43<|y o844<|y o845<|y o846<|y o847<|y o848<|y o43<|y o44<|y o851<|y o43<|y o853<|y o854<|y o855<|y o856<|y o43<|y o44<|y o859<|y o43<|y o861<|y o862<|y o863<|y o43<|y o60<|y o868<|y o43<|y o870<|y o871<|y o872<|y o873<|y o43<|y o44<|y o876<|y o43<|y o878<|y o879<|y o880<|y o43<|y o882<|y o43<|y o44<|y o885<|y o886<|y o887<|y o43<|y o44<|y o890<|y o43<|y o892<|y o893<|y o894<|y o895<|y o896<|y o897<|y o898<|y o899<|y o900<|y o901<|y o43<|y o44<|y o904<|y o43<|y o906<|y o907<|y o908<|y o43<|y o44<|y o911<|y o43<|y o913<|y o914<|y o915<|y o43<|y o44<|y o918<|y o43<|y o920<|y o921<|y o922<|y o43<|y o44<|y o927<|y o43<|y o929<|y o930<|y o931<|y o43<|y o44<|y o934<|y o43<|y o936<|y o937<|y o938<|y o43<|y o44<|y o941<|y o43<|y o943<|y o944<|y o945<|y o43<|y o44<|y o948<|y o43<|y o950<|y o951<|y o952<|y o43<|y o44<|y o955<|y o43<|y o957<|y o958<|y o959<|y o43<|y o44<|y o962<|y o43<|y o964<|y o965<|y o966<|y o43<|y o44<|y o969<|y o970<|y o971<|y o43<|y o44<|y o974<|y o975<|y o976<|y o43<|y o44<|y o979<|y o43<|y o981<|y o982<|y o983<|y o43<|y o44<|y o986<|y o43<|y o988<|y o989<|y o990<|y o43<|y o44<|y o993<|y o994<|y o995<|fun _=>[]) P⟩,⟨[],[],[],0,[],[],false,#[],[],0,false,false,false,0,[2000,10,10],false,0,true,[],[],0,false⟩⟩
noncomputable abbrev k (a:Nat)(o:O)(x:Params→Frag):Params→Frag:=fun P=>(a,o P)::x P
noncomputable def K:Params→Frag:=k (nat_lit 2) o49<|k (nat_lit 3) o923<|k (nat_lit 15) o43<|k (nat_lit 17) o54<|k (nat_lit 18) o43<|k (nat_lit 20) o57<|k (nat_lit 21) o58<|k (nat_lit 22) o59<|k (nat_lit 29) o43<|k (nat_lit 31) o68<|k (nat_lit 32) o43<|k (nat_lit 34) o71<|k (nat_lit 35) o72<|k (nat_lit 36) o73<|k (nat_lit 37) o74<|k (nat_lit 38) o133<|k (nat_lit 39) o76<|k (nat_lit 42) o82<|k (nat_lit 49) o43<|k (nat_lit 50) o90<|k (nat_lit 51) o91<|k (nat_lit 54) o82<|k (nat_lit 61) o43<|k (nat_lit 63) o106<|k (nat_lit 64) o43<|k (nat_lit 66) o109<|k (nat_lit 67) o110<|k (nat_lit 68) o111<|k (nat_lit 69) o112<|k (nat_lit 70) o113<|k (nat_lit 73) o82<|k (nat_lit 80) o43<|k (nat_lit 81) o127<|k (nat_lit 82) o128<|k (nat_lit 85) o82<|k (nat_lit 92) o43<|k (nat_lit 93) o142<|k (nat_lit 94) o143<|k (nat_lit 97) o146<|k (nat_lit 98) o147<|k (nat_lit 99) o43<|k (nat_lit 101) o150<|k (nat_lit 102) o43<|k (nat_lit 104) o153<|k (nat_lit 105) o154<|k (nat_lit 106) o155<|k (nat_lit 107) o43<|k (nat_lit 109) o158<|k (nat_lit 110) o43<|k (nat_lit 112) o161<|k (nat_lit 113) o162<|k (nat_lit 114) o43<|k (nat_lit 116) o165<|k (nat_lit 117) o43<|k (nat_lit 119) o168<|k (nat_lit 120) o169<|k (nat_lit 121) o43<|k (nat_lit 123) o174<|k (nat_lit 124) o43<|k (nat_lit 126) o177<|k (nat_lit 127) o178<|k (nat_lit 128) o43<|k (nat_lit 130) o181<|k (nat_lit 131) o43<|k (nat_lit 133) o184<|k (nat_lit 134) o185<|k (nat_lit 135) o43<|k (nat_lit 137) o188<|k (nat_lit 138) o43<|k (nat_lit 140) o191<|k (nat_lit 141) o192<|k (nat_lit 142) o43<|k (nat_lit 144) o195<|k (nat_lit 145) o43<|k (nat_lit 147) o198<|k (nat_lit 148) o199<|k (nat_lit 149) o43<|k (nat_lit 151) o202<|k (nat_lit 152) o43<|k (nat_lit 154) o205<|k (nat_lit 155) o206<|k (nat_lit 156) o43<|k (nat_lit 158) o209<|k (nat_lit 159) o43<|k (nat_lit 161) o212<|k (nat_lit 162) o213<|k (nat_lit 163) o43<|k (nat_lit 165) o216<|k (nat_lit 166) o43<|k (nat_lit 168) o219<|k (nat_lit 169) o220<|k (nat_lit 170) o43<|k (nat_lit 172) o223<|k (nat_lit 173) o43<|k (nat_lit 175) o226<|k (nat_lit 176) o227<|k (nat_lit 177) o43<|k (nat_lit 179) o230<|k (nat_lit 180) o43<|k (nat_lit 182) o233<|k (nat_lit 183) o234<|k (nat_lit 184) o43<|k (nat_lit 186) o237<|k (nat_lit 187) o43<|k (nat_lit 189) o240<|k (nat_lit 190) o241<|k (nat_lit 191) o43<|k (nat_lit 193) o244<|k (nat_lit 194) o43<|k (nat_lit 196) o247<|k (nat_lit 197) o248<|k (nat_lit 198) o43<|k (nat_lit 200) o251<|k (nat_lit 201) o43<|k (nat_lit 203) o254<|k (nat_lit 204) o255<|k (nat_lit 212) o43<|k (nat_lit 214) o267<|k (nat_lit 215) o43<|k (nat_lit 217) o270<|k (nat_lit 218) o271<|k (nat_lit 219) o43<|k (nat_lit 221) o274<|k (nat_lit 222) o43<|k (nat_lit 224) o277<|k (nat_lit 225) o278<|k (nat_lit 226) o43<|k (nat_lit 228) o281<|k (nat_lit 229) o43<|k (nat_lit 231) o284<|k (nat_lit 232) o285<|k (nat_lit 233) o43<|k (nat_lit 235) o288<|k (nat_lit 236) o43<|k (nat_lit 238) o291<|k (nat_lit 239) o292<|k (nat_lit 240) o293<|k (nat_lit 241) o294<|k (nat_lit 242) o295<|k (nat_lit 243) o296<|k (nat_lit 244) o297<|k (nat_lit 247) o43<|k (nat_lit 249) o302<|k (nat_lit 250) o43<|k (nat_lit 252) o305<|k (nat_lit 253) o306<|k (nat_lit 254) o43<|k (nat_lit 256) o309<|k (nat_lit 257) o43<|k (nat_lit 259) o312<|k (nat_lit 260) o313<|k (nat_lit 261) o43<|k (nat_lit 263) o318<|k (nat_lit 264) o43<|k (nat_lit 266) o321<|k (nat_lit 267) o322<|k (nat_lit 268) o323<|k (nat_lit 269) o43<|k (nat_lit 271) o326<|k (nat_lit 272) o43<|k (nat_lit 274) o329<|k (nat_lit 275) o330<|k (nat_lit 276) o43<|k (nat_lit 279) o334<|k (nat_lit 280) o335<|k (nat_lit 281) o43<|k (nat_lit 284) o339<|k (nat_lit 285) o340<|k (nat_lit 286) o341<|k (nat_lit 287) o342<|k (nat_lit 288) o43<|k (nat_lit 290) o345<|k (nat_lit 291) o43<|k (nat_lit 293) o348<|k (nat_lit 294) o349<|k (nat_lit 295) o43<|k (nat_lit 297) o352<|k (nat_lit 298) o43<|k (nat_lit 300) o355<|k (nat_lit 301) o356<|k (nat_lit 302) o43<|k (nat_lit 304) o359<|k (nat_lit 305) o43<|k (nat_lit 307) o362<|k (nat_lit 308) o363<|k (nat_lit 309) o43<|k (nat_lit 311) o366<|k (nat_lit 312) o43<|k (nat_lit 314) o369<|k (nat_lit 315) o370<|k (nat_lit 316) o43<|k (nat_lit 318) o373<|k (nat_lit 319) o43<|k (nat_lit 321) o376<|k (nat_lit 322) o377<|k (nat_lit 323) o43<|k (nat_lit 325) o382<|k (nat_lit 326) o43<|k (nat_lit 328) o385<|k (nat_lit 329) o386<|k (nat_lit 330) o387<|k (nat_lit 331) o43<|k (nat_lit 333) o390<|k (nat_lit 334) o43<|k (nat_lit 336) o393<|k (nat_lit 337) o394<|k (nat_lit 338) o395<|k (nat_lit 339) o43<|k (nat_lit 341) o398<|k (nat_lit 342) o43<|k (nat_lit 344) o401<|k (nat_lit 345) o402<|k (nat_lit 346) o43<|k (nat_lit 348) o405<|k (nat_lit 349) o43<|k (nat_lit 351) o408<|k (nat_lit 352) o409<|k (nat_lit 353) o43<|k (nat_lit 355) o412<|k (nat_lit 356) o43<|k (nat_lit 358) o415<|k (nat_lit 359) o416<|k (nat_lit 360) o43<|k (nat_lit 362) o419<|k (nat_lit 363) o43<|k (nat_lit 365) o422<|k (nat_lit 366) o423<|k (nat_lit 367) o43<|k (nat_lit 369) o426<|k (nat_lit 370) o43<|k (nat_lit 372) o429<|k (nat_lit 373) o430<|k (nat_lit 381) o43<|k (nat_lit 383) o442<|k (nat_lit 384) o43<|k (nat_lit 386) o445<|k (nat_lit 387) o446<|k (nat_lit 388) o43<|k (nat_lit 390) o449<|k (nat_lit 391) o43<|k (nat_lit 393) o452<|k (nat_lit 394) o453<|k (nat_lit 395) o43<|k (nat_lit 397) o456<|k (nat_lit 398) o43<|k (nat_lit 400) o459<|k (nat_lit 401) o460<|k (nat_lit 402) o461<|k (nat_lit 403) o462<|k (nat_lit 404) o463<|k (nat_lit 405) o464<|k (nat_lit 406) o465<|k (nat_lit 409) o43<|k (nat_lit 411) o470<|k (nat_lit 412) o43<|k (nat_lit 414) o473<|k (nat_lit 415) o474<|k (nat_lit 416) o43<|k (nat_lit 418) o477<|k (nat_lit 419) o43<|k (nat_lit 421) o480<|k (nat_lit 422) o481<|k (nat_lit 423) o43<|k (nat_lit 425) o484<|k (nat_lit 426) o43<|k (nat_lit 428) o487<|k (nat_lit 429) o488<|k (nat_lit 430) o43<|k (nat_lit 432) o493<|k (nat_lit 433) o43<|k (nat_lit 435) o496<|k (nat_lit 436) o497<|k (nat_lit 437) o43<|k (nat_lit 439) o500<|k (nat_lit 440) o43<|k (nat_lit 442) o503<|k (nat_lit 443) o504<|k (nat_lit 444) o43<|k (nat_lit 446) o507<|k (nat_lit 447) o43<|k (nat_lit 449) o510<|k (nat_lit 450) o511<|k (nat_lit 451) o43<|k (nat_lit 453) o514<|k (nat_lit 454) o43<|k (nat_lit 456) o517<|k (nat_lit 457) o518<|k (nat_lit 458) o43<|k (nat_lit 461) o522<|k (nat_lit 462) o523<|k (nat_lit 463) o43<|k (nat_lit 466) o527<|k (nat_lit 467) o528<|k (nat_lit 468) o43<|k (nat_lit 470) o531<|k (nat_lit 471) o43<|k (nat_lit 473) o534<|k (nat_lit 474) o535<|k (nat_lit 475) o43<|k (nat_lit 477) o538<|k (nat_lit 478) o43<|k (nat_lit 480) o541<|k (nat_lit 481) o542<|k (nat_lit 482) o43<|k (nat_lit 484) o545<|k (nat_lit 485) o43<|k (nat_lit 487) o548<|k (nat_lit 488) o549<|k (nat_lit 489) o43<|k (nat_lit 491) o552<|k (nat_lit 492) o43<|k (nat_lit 494) o555<|k (nat_lit 495) o556<|k (nat_lit 496) o43<|k (nat_lit 499) o560<|k (nat_lit 500) o561<|k (nat_lit 501) o43<|k (nat_lit 503) o566<|k (nat_lit 504) o43<|k (nat_lit 506) o569<|k (nat_lit 507) o570<|k (nat_lit 508) o43<|k (nat_lit 510) o573<|k (nat_lit 511) o43<|k (nat_lit 513) o576<|k (nat_lit 514) o577<|k (nat_lit 515) o43<|k (nat_lit 517) o580<|k (nat_lit 518) o43<|k (nat_lit 520) o583<|k (nat_lit 521) o584<|k (nat_lit 529) o43<|k (nat_lit 531) o596<|k (nat_lit 532) o43<|k (nat_lit 534) o599<|k (nat_lit 535) o600<|k (nat_lit 536) o43<|k (nat_lit 538) o603<|k (nat_lit 539) o43<|k (nat_lit 541) o606<|k (nat_lit 542) o607<|k (nat_lit 543) o43<|k (nat_lit 545) o610<|k (nat_lit 546) o43<|k (nat_lit 548) o613<|k (nat_lit 549) o614<|k (nat_lit 550) o43<|k (nat_lit 553) o618<|k (nat_lit 554) o619<|k (nat_lit 555) o43<|k (nat_lit 558) o623<|k (nat_lit 559) o624<|k (nat_lit 560) o43<|k (nat_lit 562) o627<|k (nat_lit 563) o43<|k (nat_lit 565) o630<|k (nat_lit 566) o631<|k (nat_lit 567) o43<|k (nat_lit 569) o634<|k (nat_lit 570) o43<|k (nat_lit 572) o637<|k (nat_lit 573) o638<|k (nat_lit 574) o43<|k (nat_lit 576) o641<|k (nat_lit 577) o43<|k (nat_lit 579) o644<|k (nat_lit 580) o645<|k (nat_lit 581) o646<|k (nat_lit 582) o647<|k (nat_lit 583) o648<|k (nat_lit 584) o649<|k (nat_lit 585) o650<|k (nat_lit 588) o655<|k (nat_lit 589) o43<|k (nat_lit 591) o658<|k (nat_lit 592) o43<|k (nat_lit 594) o661<|k (nat_lit 595) o662<|k (nat_lit 603) o43<|k (nat_lit 605) o674<|k (nat_lit 606) o43<|k (nat_lit 608) o677<|k (nat_lit 609) o678<|k (nat_lit 610) o43<|k (nat_lit 612) o681<|k (nat_lit 613) o43<|k (nat_lit 615) o684<|k (nat_lit 616) o685<|k (nat_lit 617) o43<|k (nat_lit 619) o688<|k (nat_lit 620) o43<|k (nat_lit 622) o691<|k (nat_lit 623) o692<|k (nat_lit 624) o43<|k (nat_lit 626) o695<|k (nat_lit 627) o43<|k (nat_lit 629) o698<|k (nat_lit 630) o699<|k (nat_lit 631) o43<|k (nat_lit 633) o702<|k (nat_lit 634) o43<|k (nat_lit 636) o705<|k (nat_lit 637) o706<|k (nat_lit 638) o43<|k (nat_lit 640) o709<|k (nat_lit 641) o43<|k (nat_lit 643) o712<|k (nat_lit 644) o713<|k (nat_lit 645) o43<|k (nat_lit 647) o716<|k (nat_lit 648) o43<|k (nat_lit 650) o719<|k (nat_lit 651) o720<|k (nat_lit 652) o721<|k (nat_lit 653) o722<|k (nat_lit 654) o723<|k (nat_lit 655) o724<|k (nat_lit 656) o725<|k (nat_lit 659) o43<|k (nat_lit 661) o43<|k (nat_lit 662) o43<|k (nat_lit 664) o735<|k (nat_lit 665) o736<|k (nat_lit 666) o737<|k (nat_lit 674) o43<|k (nat_lit 676) o747<|k (nat_lit 677) o43<|k (nat_lit 679) o750<|k (nat_lit 680) o751<|k (nat_lit 681) o43<|k (nat_lit 683) o754<|k (nat_lit 684) o43<|k (nat_lit 686) o757<|k (nat_lit 687) o758<|k (nat_lit 688) o43<|k (nat_lit 690) o761<|k (nat_lit 691) o43<|k (nat_lit 693) o764<|k (nat_lit 694) o765<|k (nat_lit 695) o766<|k (nat_lit 696) o767<|k (nat_lit 697) o768<|k (nat_lit 698) o769<|k (nat_lit 699) o770<|k (nat_lit 702) o43<|k (nat_lit 704) o775<|k (nat_lit 705) o43<|k (nat_lit 707) o778<|k (nat_lit 708) o779<|k (nat_lit 709) o43<|k (nat_lit 712) o785<|k (nat_lit 713) o786<|k (nat_lit 714) o43<|k (nat_lit 716) o789<|k (nat_lit 717) o43<|k (nat_lit 719) o792<|k (nat_lit 720) o793<|k (nat_lit 721) o43<|k (nat_lit 723) o796<|k (nat_lit 724) o43<|k (nat_lit 726) o799<|k (nat_lit 727) o800<|k (nat_lit 735) o43<|k (nat_lit 737) o810<|k (nat_lit 738) o43<|k (nat_lit 740) o813<|k (nat_lit 741) o814<|k (nat_lit 742) o815<|k (nat_lit 743) o43<|k (nat_lit 745) o818<|k (nat_lit 746) o43<|k (nat_lit 748) o821<|k (nat_lit 749) o822<|k (nat_lit 750) o823<|k (nat_lit 751) o824<|k (nat_lit 752) o825<|k (nat_lit 753) o826<|k (nat_lit 754) o827<|k (nat_lit 757) o43<|k (nat_lit 759) o834<|k (nat_lit 760) o43<|k (nat_lit 762) o837<|k (nat_lit 763) o838<|k (nat_lit 764) o839<|k (nat_lit 765) o43<|k (nat_lit 767) o842<|k (nat_lit 768) o43<|k (nat_lit 770) o845<|k (nat_lit 771) o846<|k (nat_lit 772) o847<|k (nat_lit 773) o848<|k (nat_lit 774) o43<|k (nat_lit 776) o851<|k (nat_lit 777) o43<|k (nat_lit 779) o854<|k (nat_lit 780) o855<|k (nat_lit 781) o856<|k (nat_lit 782) o43<|k (nat_lit 784) o859<|k (nat_lit 785) o43<|k (nat_lit 787) o862<|k (nat_lit 788) o863<|k (nat_lit 796) o873<|k (nat_lit 797) o43<|k (nat_lit 799) o876<|k (nat_lit 800) o43<|k (nat_lit 802) o879<|k (nat_lit 803) o880<|k (nat_lit 804) o43<|k (nat_lit 805) o882<|k (nat_lit 806) o43<|k (nat_lit 809) o886<|k (nat_lit 810) o887<|k (nat_lit 811) o43<|k (nat_lit 813) o890<|k (nat_lit 814) o43<|k (nat_lit 816) o893<|k (nat_lit 817) o894<|k (nat_lit 818) o895<|k (nat_lit 819) o896<|k (nat_lit 820) o897<|k (nat_lit 821) o898<|k (nat_lit 822) o899<|k (nat_lit 825) o43<|k (nat_lit 827) o904<|k (nat_lit 828) o43<|k (nat_lit 830) o907<|k (nat_lit 831) o908<|k (nat_lit 832) o43<|k (nat_lit 834) o911<|k (nat_lit 835) o43<|k (nat_lit 837) o914<|k (nat_lit 838) o915<|k (nat_lit 839) o43<|k (nat_lit 841) o918<|k (nat_lit 842) o43<|k (nat_lit 844) o921<|k (nat_lit 845) o922<|k (nat_lit 846) o43<|k (nat_lit 848) o927<|k (nat_lit 849) o43<|k (nat_lit 851) o930<|k (nat_lit 852) o931<|k (nat_lit 853) o43<|k (nat_lit 855) o934<|k (nat_lit 856) o43<|k (nat_lit 858) o937<|k (nat_lit 859) o938<|k (nat_lit 860) o43<|k (nat_lit 862) o941<|k (nat_lit 863) o43<|k (nat_lit 865) o944<|k (nat_lit 866) o945<|k (nat_lit 867) o43<|k (nat_lit 869) o948<|k (nat_lit 870) o43<|k (nat_lit 872) o951<|k (nat_lit 873) o952<|k (nat_lit 874) o43<|k (nat_lit 876) o955<|k (nat_lit 877) o43<|k (nat_lit 879) o958<|k (nat_lit 880) o959<|k (nat_lit 881) o43<|k (nat_lit 883) o962<|k (nat_lit 884) o43<|k (nat_lit 886) o965<|k (nat_lit 887) o966<|k (nat_lit 888) o43<|k (nat_lit 891) o970<|k (nat_lit 892) o971<|k (nat_lit 893) o43<|k (nat_lit 896) o975<|k (nat_lit 897) o976<|k (nat_lit 898) o43<|k (nat_lit 900) o979<|k (nat_lit 901) o43<|k (nat_lit 903) o982<|k (nat_lit 904) o983<|k (nat_lit 905) o43<|k (nat_lit 907) o986<|k (nat_lit 908) o43<|k (nat_lit 910) o989<|k (nat_lit 911) o990<|k (nat_lit 912) o43<|k (nat_lit 915) o994<|k (nat_lit 916) o995<|fun _=>[]
noncomputable abbrev q (a:Nat)(l:List Nat):List Nat:=a::l
noncomputable def Kas:List Addr:=q 2<|q 3<|q 15<|q 17<|q 18<|q 20<|q 21<|q 22<|q 29<|q 31<|q 32<|q 34<|q 35<|q 36<|q 37<|q 38<|q 39<|q 42<|q 49<|q 50<|q 51<|q 54<|q 61<|q 63<|q 64<|q 66<|q 67<|q 68<|q 69<|q 70<|q 73<|q 80<|q 81<|q 82<|q 85<|q 92<|q 93<|q 94<|q 97<|q 98<|q 99<|q 101<|q 102<|q 104<|q 105<|q 106<|q 107<|q 109<|q 110<|q 112<|q 113<|q 114<|q 116<|q 117<|q 119<|q 120<|q 121<|q 123<|q 124<|q 126<|q 127<|q 128<|q 130<|q 131<|q 133<|q 134<|q 135<|q 137<|q 138<|q 140<|q 141<|q 142<|q 144<|q 145<|q 147<|q 148<|q 149<|q 151<|q 152<|q 154<|q 155<|q 156<|q 158<|q 159<|q 161<|q 162<|q 163<|q 165<|q 166<|q 168<|q 169<|q 170<|q 172<|q 173<|q 175<|q 176<|q 177<|q 179<|q 180<|q 182<|q 183<|q 184<|q 186<|q 187<|q 189<|q 190<|q 191<|q 193<|q 194<|q 196<|q 197<|q 198<|q 200<|q 201<|q 203<|q 204<|q 212<|q 214<|q 215<|q 217<|q 218<|q 219<|q 221<|q 222<|q 224<|q 225<|q 226<|q 228<|q 229<|q 231<|q 232<|q 233<|q 235<|q 236<|q 238<|q 239<|q 240<|q 241<|q 242<|q 243<|q 244<|q 247<|q 249<|q 250<|q 252<|q 253<|q 254<|q 256<|q 257<|q 259<|q 260<|q 261<|q 263<|q 264<|q 266<|q 267<|q 268<|q 269<|q 271<|q 272<|q 274<|q 275<|q 276<|q 279<|q 280<|q 281<|q 284<|q 285<|q 286<|q 287<|q 288<|q 290<|q 291<|q 293<|q 294<|q 295<|q 297<|q 298<|q 300<|q 301<|q 302<|q 304<|q 305<|q 307<|q 308<|q 309<|q 311<|q 312<|q 314<|q 315<|q 316<|q 318<|q 319<|q 321<|q 322<|q 323<|q 325<|q 326<|q 328<|q 329<|q 330<|q 331<|q 333<|q 334<|q 336<|q 337<|q 338<|q 339<|q 341<|q 342<|q 344<|q 345<|q 346<|q 348<|q 349<|q 351<|q 352<|q 353<|q 355<|q 356<|q 358<|q 359<|q 360<|q 362<|q 363<|q 365<|q 366<|q 367<|q 369<|q 370<|q 372<|q 373<|q 381<|q 383<|q 384<|q 386<|q 387<|q 388<|q 390<|q 391<|q 393<|q 394<|q 395<|q 397<|q 398<|q 400<|q 401<|q 402<|q 403<|q 404<|q 405<|q 406<|q 409<|q 411<|q 412<|q 414<|q 415<|q 416<|q 418<|q 419<|q 421<|q 422<|q 423<|q 425<|q 426<|q 428<|q 429<|q 430<|q 432<|q 433<|q 435<|q 436<|q 437<|q 439<|q 440<|q 442<|q 443<|q 444<|q 446<|q 447<|q 449<|q 450<|q 451<|q 453<|q 454<|q 456<|q 457<|q 458<|q 461<|q 462<|q 463<|q 466<|q 467<|q 468<|q 470<|q 471<|q 473<|q 474<|q 475<|q 477<|q 478<|q 480<|q 481<|q 482<|q 484<|q 485<|q 487<|q 488<|q 489<|q 491<|q 492<|q 494<|q 495<|q 496<|q 499<|q 500<|q 501<|q 503<|q 504<|q 506<|q 507<|q 508<|q 510<|q 511<|q 513<|q 514<|q 515<|q 517<|q 518<|q 520<|q 521<|q 529<|q 531<|q 532<|q 534<|q 535<|q 536<|q 538<|q 539<|q 541<|q 542<|q 543<|q 545<|q 546<|q 548<|q 549<|q 550<|q 553<|q 554<|q 555<|q 558<|q 559<|q 560<|q 562<|q 563<|q 565<|q 566<|q 567<|q 569<|q 570<|q 572<|q 573<|q 574<|q 576<|q 577<|q 579<|q 580<|q 581<|q 582<|q 583<|q 584<|q 585<|q 588<|q 589<|q 591<|q 592<|q 594<|q 595<|q 603<|q 605<|q 606<|q 608<|q 609<|q 610<|q 612<|q 613<|q 615<|q 616<|q 617<|q 619<|q 620<|q 622<|q 623<|q 624<|q 626<|q 627<|q 629<|q 630<|q 631<|q 633<|q 634<|q 636<|q 637<|q 638<|q 640<|q 641<|q 643<|q 644<|q 645<|q 647<|q 648<|q 650<|q 651<|q 652<|q 653<|q 654<|q 655<|q 656<|q 659<|q 661<|q 662<|q 664<|q 665<|q 666<|q 674<|q 676<|q 677<|q 679<|q 680<|q 681<|q 683<|q 684<|q 686<|q 687<|q 688<|q 690<|q 691<|q 693<|q 694<|q 695<|q 696<|q 697<|q 698<|q 699<|q 702<|q 704<|q 705<|q 707<|q 708<|q 709<|q 712<|q 713<|q 714<|q 716<|q 717<|q 719<|q 720<|q 721<|q 723<|q 724<|q 726<|q 727<|q 735<|q 737<|q 738<|q 740<|q 741<|q 742<|q 743<|q 745<|q 746<|q 748<|q 749<|q 750<|q 751<|q 752<|q 753<|q 754<|q 757<|q 759<|q 760<|q 762<|q 763<|q 764<|q 765<|q 767<|q 768<|q 770<|q 771<|q 772<|q 773<|q 774<|q 776<|q 777<|q 779<|q 780<|q 781<|q 782<|q 784<|q 785<|q 787<|q 788<|q 796<|q 797<|q 799<|q 800<|q 802<|q 803<|q 804<|q 805<|q 806<|q 809<|q 810<|q 811<|q 813<|q 814<|q 816<|q 817<|q 818<|q 819<|q 820<|q 821<|q 822<|q 825<|q 827<|q 828<|q 830<|q 831<|q 832<|q 834<|q 835<|q 837<|q 838<|q 839<|q 841<|q 842<|q 844<|q 845<|q 846<|q 848<|q 849<|q 851<|q 852<|q 853<|q 855<|q 856<|q 858<|q 859<|q 860<|q 862<|q 863<|q 865<|q 866<|q 867<|q 869<|q 870<|q 872<|q 873<|q 874<|q 876<|q 877<|q 879<|q 880<|q 881<|q 883<|q 884<|q 886<|q 887<|q 888<|q 891<|q 892<|q 893<|q 896<|q 897<|q 898<|q 900<|q 901<|q 903<|q 904<|q 905<|q 907<|q 908<|q 910<|q 911<|q 912<|q 915<|q 916<|[]
theorem Kas_eq:∀ P,Kas=(K P).map (·.1):=fun _=>by kernel_rfl
def env0:Env:={ scope:=P0.main.scope,locals:=mainNs,globals:=mainNs,cells:=[],code:=.ref 13,frame:=some 14 }
noncomputable abbrev bd:List Stmt:=behindTheImports P0
def cE:Code:=.body bd env0
def q0:Pos:=⟨0,0,0,0⟩
def ann0:Option Value:=some (.ref 6)
def dr0:Drawn:=⟨0,0,0,0⟩
noncomputable def SS (t:Params→BT)(n k:Nat)(w:World)(os:OsState):SharedT:=⟨t w.params,n,{},⟨[]⟩,dr0,k,os⟩
def pc (l:List Stmt)(p:Pos):Thread:=piecesOf l env0 cE p [topFrame q0]
noncomputable def Sa (w:World)(os:OsState):Shared:=⟨h46 w.params,⟨[]⟩,dr0,187,os⟩
noncomputable def Sf (w:World)(os:OsState):Shared:=⟨h996 w.params,⟨[]⟩,dr0,1538,os⟩
def s0:List Stmt:=(bd.drop 0).take 3
theorem p0 (w:World):(fun os=>segRunT treeTable P0 w 11 ann0 1 267 (SS t47 15 187 w os) (pc s0 ⟨0,0,0,0⟩))=fun os=>some (.next,SS t78 42 225 w os,cE,⟨5,0,8,30⟩):=by
 rw [PySem.W.Fast.te10110043849684766642,PySem.W.Fast.te14364793385576792824];kernel_rfl
def s1:List Stmt:=(bd.drop 3).take 1
theorem p1 (w:World):(fun os=>segRunT treeTable P0 w 11 ann0 1 214 (SS t78 42 225 w os) (pc s1 ⟨5,0,8,30⟩))=fun os=>some (.next,SS t93 54 241 w os,cE,⟨9,0,10,8⟩):=by
 rw [PySem.W.Fast.te10110043849684766642,PySem.W.Fast.te14364793385576792824];kernel_rfl
def s2:List Stmt:=(bd.drop 4).take 1
theorem p2 (w:World):(fun os=>segRunT treeTable P0 w 11 ann0 1 248 (SS t93 54 241 w os) (pc s2 ⟨9,0,10,8⟩))=fun os=>some (.next,SS t115 73 268 w os,cE,⟨11,0,15,26⟩):=by
 rw [PySem.W.Fast.te10110043849684766642,PySem.W.Fast.te14364793385576792824];kernel_rfl
def s3:List Stmt:=(bd.drop 5).take 1
theorem p3 (w:World):(fun os=>segRunT treeTable P0 w 11 ann0 1 214 (SS t115 73 268 w os) (pc s3 ⟨11,0,15,26⟩))=fun os=>some (.next,SS t130 85 284 w os,cE,⟨16,0,17,8⟩):=by
 rw [PySem.W.Fast.te10110043849684766642,PySem.W.Fast.te14364793385576792824];kernel_rfl
def s4:List Stmt:=(bd.drop 6).take 12
theorem p4 (w:World):(fun os=>segRunT treeTable P0 w 11 ann0 1 399 (SS t130 85 284 w os) (pc s4 ⟨16,0,17,8⟩))=fun os=>some (.next,SS t169 121 350 w os,cE,⟨40,0,41,59⟩):=by
 rw [PySem.W.Fast.te10110043849684766642,PySem.W.Fast.te14364793385576792824];kernel_rfl
def s5:List Stmt:=(bd.drop 18).take 12
theorem p5 (w:World):(fun os=>segRunT treeTable P0 w 11 ann0 1 359 (SS t169 121 350 w os) (pc s5 ⟨40,0,41,59⟩))=fun os=>some (.next,SS t255 205 444 w os,cE,⟨78,0,90,16⟩):=by
 rw [PySem.W.Fast.te10110043849684766642,PySem.W.Fast.te14364793385576792824];kernel_rfl
def s6:List Stmt:=(bd.drop 30).take 3
theorem p6 (w:World):(fun os=>segRunT treeTable P0 w 11 ann0 1 382 (SS t255 205 444 w os) (pc s6 ⟨78,0,90,16⟩))=fun os=>some (.next,SS t313 261 516 w os,cE,⟨116,0,122,65⟩):=by
 rw [PySem.W.Fast.te10110043849684766642,PySem.W.Fast.te14364793385576792824];kernel_rfl
def s7:List Stmt:=(bd.drop 33).take 17
theorem p7 (w:World):(fun os=>segRunT treeTable P0 w 11 ann0 1 382 (SS t313 261 516 w os) (pc s7 ⟨116,0,122,65⟩))=fun os=>some (.next,SS t377 323 630 w os,cE,⟨186,0,187,70⟩):=by
 rw [PySem.W.Fast.te10110043849684766642,PySem.W.Fast.te14364793385576792824];kernel_rfl
def s8:List Stmt:=(bd.drop 50).take 10
theorem p8 (w:World):(fun os=>segRunT treeTable P0 w 11 ann0 1 252 (SS t377 323 630 w os) (pc s8 ⟨186,0,187,70⟩))=fun os=>some (.next,SS t430 374 702 w os,cE,⟨221,0,222,36⟩):=by
 rw [PySem.W.Fast.te10110043849684766642,PySem.W.Fast.te14364793385576792824];kernel_rfl
def s9:List Stmt:=(bd.drop 60).take 4
theorem p9 (w:World):(fun os=>segRunT treeTable P0 w 11 ann0 1 398 (SS t430 374 702 w os) (pc s9 ⟨221,0,222,36⟩))=fun os=>some (.next,SS t488 430 792 w os,cE,⟨253,0,254,60⟩):=by
 rw [PySem.W.Fast.te10110043849684766642,PySem.W.Fast.te14364793385576792824];kernel_rfl
def s10:List Stmt:=(bd.drop 64).take 13
theorem p10 (w:World):(fun os=>segRunT treeTable P0 w 11 ann0 1 365 (SS t488 430 792 w os) (pc s10 ⟨253,0,254,60⟩))=fun os=>some (.next,SS t561 501 906 w os,cE,⟨328,0,335,71⟩):=by
 rw [PySem.W.Fast.te10110043849684766642,PySem.W.Fast.te14364793385576792824];kernel_rfl
def s11:List Stmt:=(bd.drop 77).take 3
theorem p11 (w:World):(fun os=>segRunT treeTable P0 w 11 ann0 1 99 (SS t561 501 906 w os) (pc s11 ⟨328,0,335,71⟩))=fun os=>some (.next,SS t584 522 938 w os,cE,⟨349,0,354,16⟩):=by
 rw [PySem.W.Fast.te10110043849684766642,PySem.W.Fast.te14364793385576792824];kernel_rfl
def s12:List Stmt:=(bd.drop 80).take 1
theorem p12 (w:World):(fun os=>segRunT treeTable P0 w 11 ann0 1 458 (SS t584 522 938 w os) (pc s12 ⟨349,0,354,16⟩))=fun os=>some (.next,SS t652 588 1038 w os,cE,⟨355,0,418,36⟩):=by
 rw [PySem.W.Fast.te10110043849684766642,PySem.W.Fast.te14364793385576792824];kernel_rfl
def s13:List Stmt:=(bd.drop 81).take 2
theorem p13 (w:World):(fun os=>segRunT treeTable P0 w 11 ann0 1 48 (SS t652 588 1038 w os) (pc s13 ⟨355,0,418,36⟩))=fun os=>some (.next,SS t662 596 1055 w os,cE,⟨425,0,425,8⟩):=by
 rw [PySem.W.Fast.te10110043849684766642,PySem.W.Fast.te14364793385576792824];kernel_rfl
def s14:List Stmt:=(bd.drop 83).take 1
theorem p14 (w:World):(fun os=>segRunT treeTable P0 w 11 ann0 1 432 (SS t662 596 1055 w os) (pc s14 ⟨425,0,425,8⟩))=fun os=>some (.next,SS t727 659 1149 w os,cE,⟨426,0,457,16⟩):=by
 rw [PySem.W.Fast.te10110043849684766642,PySem.W.Fast.te14364793385576792824];kernel_rfl
def s15:List Stmt:=(bd.drop 84).take 6
theorem p15 (w:World):(fun os=>segRunT treeTable P0 w 11 ann0 1 378 (SS t727 659 1149 w os) (pc s15 ⟨426,0,457,16⟩))=fun os=>some (.next,SS t779 709 1218 w os,cE,⟨476,0,479,62⟩):=by
 rw [PySem.W.Fast.te10110043849684766642,PySem.W.Fast.te14364793385576792824];kernel_rfl
def s16:List Stmt:=(bd.drop 90).take 7
theorem p16 (w:World):(fun os=>segRunT treeTable P0 w 11 ann0 1 380 (SS t779 709 1218 w os) (pc s16 ⟨476,0,479,62⟩))=fun os=>some (.next,SS t829 757 1294 w os,cE,⟨514,0,514,8⟩):=by
 rw [PySem.W.Fast.te10110043849684766642,PySem.W.Fast.te14364793385576792824];kernel_rfl
def s17:List Stmt:=(bd.drop 97).take 12
theorem p17 (w:World):(fun os=>segRunT treeTable P0 w 11 ann0 1 219 (SS t829 757 1294 w os) (pc s17 ⟨514,0,514,8⟩))=fun os=>some (.next,SS t863 789 1361 w os,cE,⟨547,0,551,16⟩):=by
 rw [PySem.W.Fast.te10110043849684766642,PySem.W.Fast.te14364793385576792824];kernel_rfl
def s18:List Stmt:=(bd.drop 109).take 4
theorem p18 (w:World):(fun os=>segRunT treeTable P0 w 11 ann0 1 394 (SS t863 789 1361 w os) (pc s18 ⟨547,0,551,16⟩))=fun os=>some (.next,SS t922 846 1441 w os,cE,⟨591,0,600,65⟩):=by
 rw [PySem.W.Fast.te10110043849684766642,PySem.W.Fast.te14364793385576792824];kernel_rfl
def s19:List Stmt:=(bd.drop 113).take 12
theorem p19 (w:World):(fun os=>segRunT treeTable P0 w 11 ann0 1 341 (SS t922 846 1441 w os) (pc s19 ⟨591,0,600,65⟩))=fun os=>some (.next,SS t995 917 1538 w os,cE,⟨665,0,685,15⟩):=by
 rw [PySem.W.Fast.te10110043849684766642,PySem.W.Fast.te14364793385576792824];kernel_rfl
def r20:List Stmt:=[]
def r19:List Stmt:=s19++r20
def r18:List Stmt:=s18++r19
def r17:List Stmt:=s17++r18
def r16:List Stmt:=s16++r17
def r15:List Stmt:=s15++r16
def r14:List Stmt:=s14++r15
def r13:List Stmt:=s13++r14
def r12:List Stmt:=s12++r13
def r11:List Stmt:=s11++r12
def r10:List Stmt:=s10++r11
def r9:List Stmt:=s9++r10
def r8:List Stmt:=s8++r9
def r7:List Stmt:=s7++r8
def r6:List Stmt:=s6++r7
def r5:List Stmt:=s5++r6
def r4:List Stmt:=s4++r5
def r3:List Stmt:=s3++r4
def r2:List Stmt:=s2++r3
def r1:List Stmt:=s1++r2
def r0:List Stmt:=s0++r1
theorem bd_eq:bd=r0:=by kernel_rfl
theorem pre0 (w:World):(fun os=>topGo treeTable P0 w 11 ann0 12 ⟨boot_heap w.params,⟨[]⟩,boot_drawn,boot_toks,os⟩ (topStub P0))=fun os=>some (Sa w os,⟨denote treeTable cE,cE,q0,[topFrame q0]⟩):=by
 rw [PySem.W.Fast.te15667345088766844465,PySem.W.Fast.te14364793385576792824,PySem.W.Fast.te11892475500146522536];kernel_rfl
theorem blk0 (w:World):(fun os=>segRun treeTable P0 w 11 ann0 1 1 (Sa w os) (blockOf bd env0 cE q0 [topFrame q0]))=fun os=>some (.next,(SS t47 15 187 w os).abs,cE,q0):=by
 rw [PySem.W.Fast.te14374325043358763698,PySem.W.Fast.te14364793385576792824];kernel_rfl
theorem fin0 (w:World):(fun os=>topRun treeTable P0 w 11 ann0 2 (SS t995 917 1538 w os).abs ⟨doneF .next,cE,⟨665,0,685,15⟩,[topFrame q0]⟩)=fun os=>some (Sf w os):=by
 rw [PySem.W.Fast.te14082659384304107361,PySem.W.Fast.te14364793385576792824];kernel_rfl
theorem c20 (w:World)(os:OsState):topRun treeTable P0 w 11 ann0 (2) (SS t995 917 1538 w os).abs (restOf r20 env0 cE ⟨665,0,685,15⟩ [topFrame q0])=some (Sf w os):=piece_nil (congrFun (fin0 w) os)
theorem c19 (w:World)(os:OsState):topRun treeTable P0 w 11 ann0 (341+(2)) (SS t922 846 1441 w os).abs (restOf r19 env0 cE ⟨591,0,600,65⟩ [topFrame q0])=some (Sf w os):=piece_app (segRun_of (congrFun (p19 w) os)) (c20 w os)
theorem c18 (w:World)(os:OsState):topRun treeTable P0 w 11 ann0 (394+(341+(2))) (SS t863 789 1361 w os).abs (restOf r18 env0 cE ⟨547,0,551,16⟩ [topFrame q0])=some (Sf w os):=piece_app (segRun_of (congrFun (p18 w) os)) (c19 w os)
theorem c17 (w:World)(os:OsState):topRun treeTable P0 w 11 ann0 (219+(394+(341+(2)))) (SS t829 757 1294 w os).abs (restOf r17 env0 cE ⟨514,0,514,8⟩ [topFrame q0])=some (Sf w os):=piece_app (segRun_of (congrFun (p17 w) os)) (c18 w os)
theorem c16 (w:World)(os:OsState):topRun treeTable P0 w 11 ann0 (380+(219+(394+(341+(2))))) (SS t779 709 1218 w os).abs (restOf r16 env0 cE ⟨476,0,479,62⟩ [topFrame q0])=some (Sf w os):=piece_app (segRun_of (congrFun (p16 w) os)) (c17 w os)
theorem c15 (w:World)(os:OsState):topRun treeTable P0 w 11 ann0 (378+(380+(219+(394+(341+(2)))))) (SS t727 659 1149 w os).abs (restOf r15 env0 cE ⟨426,0,457,16⟩ [topFrame q0])=some (Sf w os):=piece_app (segRun_of (congrFun (p15 w) os)) (c16 w os)
theorem c14 (w:World)(os:OsState):topRun treeTable P0 w 11 ann0 (432+(378+(380+(219+(394+(341+(2))))))) (SS t662 596 1055 w os).abs (restOf r14 env0 cE ⟨425,0,425,8⟩ [topFrame q0])=some (Sf w os):=piece_app (segRun_of (congrFun (p14 w) os)) (c15 w os)
theorem c13 (w:World)(os:OsState):topRun treeTable P0 w 11 ann0 (48+(432+(378+(380+(219+(394+(341+(2)))))))) (SS t652 588 1038 w os).abs (restOf r13 env0 cE ⟨355,0,418,36⟩ [topFrame q0])=some (Sf w os):=piece_app (segRun_of (congrFun (p13 w) os)) (c14 w os)
theorem c12 (w:World)(os:OsState):topRun treeTable P0 w 11 ann0 (458+(48+(432+(378+(380+(219+(394+(341+(2))))))))) (SS t584 522 938 w os).abs (restOf r12 env0 cE ⟨349,0,354,16⟩ [topFrame q0])=some (Sf w os):=piece_app (segRun_of (congrFun (p12 w) os)) (c13 w os)
theorem c11 (w:World)(os:OsState):topRun treeTable P0 w 11 ann0 (99+(458+(48+(432+(378+(380+(219+(394+(341+(2)))))))))) (SS t561 501 906 w os).abs (restOf r11 env0 cE ⟨328,0,335,71⟩ [topFrame q0])=some (Sf w os):=piece_app (segRun_of (congrFun (p11 w) os)) (c12 w os)
theorem c10 (w:World)(os:OsState):topRun treeTable P0 w 11 ann0 (365+(99+(458+(48+(432+(378+(380+(219+(394+(341+(2))))))))))) (SS t488 430 792 w os).abs (restOf r10 env0 cE ⟨253,0,254,60⟩ [topFrame q0])=some (Sf w os):=piece_app (segRun_of (congrFun (p10 w) os)) (c11 w os)
theorem c9 (w:World)(os:OsState):topRun treeTable P0 w 11 ann0 (398+(365+(99+(458+(48+(432+(378+(380+(219+(394+(341+(2)))))))))))) (SS t430 374 702 w os).abs (restOf r9 env0 cE ⟨221,0,222,36⟩ [topFrame q0])=some (Sf w os):=piece_app (segRun_of (congrFun (p9 w) os)) (c10 w os)
theorem c8 (w:World)(os:OsState):topRun treeTable P0 w 11 ann0 (252+(398+(365+(99+(458+(48+(432+(378+(380+(219+(394+(341+(2))))))))))))) (SS t377 323 630 w os).abs (restOf r8 env0 cE ⟨186,0,187,70⟩ [topFrame q0])=some (Sf w os):=piece_app (segRun_of (congrFun (p8 w) os)) (c9 w os)
theorem c7 (w:World)(os:OsState):topRun treeTable P0 w 11 ann0 (382+(252+(398+(365+(99+(458+(48+(432+(378+(380+(219+(394+(341+(2)))))))))))))) (SS t313 261 516 w os).abs (restOf r7 env0 cE ⟨116,0,122,65⟩ [topFrame q0])=some (Sf w os):=piece_app (segRun_of (congrFun (p7 w) os)) (c8 w os)
theorem c6 (w:World)(os:OsState):topRun treeTable P0 w 11 ann0 (382+(382+(252+(398+(365+(99+(458+(48+(432+(378+(380+(219+(394+(341+(2))))))))))))))) (SS t255 205 444 w os).abs (restOf r6 env0 cE ⟨78,0,90,16⟩ [topFrame q0])=some (Sf w os):=piece_app (segRun_of (congrFun (p6 w) os)) (c7 w os)
theorem c5 (w:World)(os:OsState):topRun treeTable P0 w 11 ann0 (359+(382+(382+(252+(398+(365+(99+(458+(48+(432+(378+(380+(219+(394+(341+(2)))))))))))))))) (SS t169 121 350 w os).abs (restOf r5 env0 cE ⟨40,0,41,59⟩ [topFrame q0])=some (Sf w os):=piece_app (segRun_of (congrFun (p5 w) os)) (c6 w os)
theorem c4 (w:World)(os:OsState):topRun treeTable P0 w 11 ann0 (399+(359+(382+(382+(252+(398+(365+(99+(458+(48+(432+(378+(380+(219+(394+(341+(2))))))))))))))))) (SS t130 85 284 w os).abs (restOf r4 env0 cE ⟨16,0,17,8⟩ [topFrame q0])=some (Sf w os):=piece_app (segRun_of (congrFun (p4 w) os)) (c5 w os)
theorem c3 (w:World)(os:OsState):topRun treeTable P0 w 11 ann0 (214+(399+(359+(382+(382+(252+(398+(365+(99+(458+(48+(432+(378+(380+(219+(394+(341+(2)))))))))))))))))) (SS t115 73 268 w os).abs (restOf r3 env0 cE ⟨11,0,15,26⟩ [topFrame q0])=some (Sf w os):=piece_app (segRun_of (congrFun (p3 w) os)) (c4 w os)
theorem c2 (w:World)(os:OsState):topRun treeTable P0 w 11 ann0 (248+(214+(399+(359+(382+(382+(252+(398+(365+(99+(458+(48+(432+(378+(380+(219+(394+(341+(2))))))))))))))))))) (SS t93 54 241 w os).abs (restOf r2 env0 cE ⟨9,0,10,8⟩ [topFrame q0])=some (Sf w os):=piece_app (segRun_of (congrFun (p2 w) os)) (c3 w os)
theorem c1 (w:World)(os:OsState):topRun treeTable P0 w 11 ann0 (214+(248+(214+(399+(359+(382+(382+(252+(398+(365+(99+(458+(48+(432+(378+(380+(219+(394+(341+(2)))))))))))))))))))) (SS t78 42 225 w os).abs (restOf r1 env0 cE ⟨5,0,8,30⟩ [topFrame q0])=some (Sf w os):=piece_app (segRun_of (congrFun (p1 w) os)) (c2 w os)
theorem c0 (w:World)(os:OsState):topRun treeTable P0 w 11 ann0 (267+(214+(248+(214+(399+(359+(382+(382+(252+(398+(365+(99+(458+(48+(432+(378+(380+(219+(394+(341+(2))))))))))))))))))))) (SS t47 15 187 w os).abs (restOf r0 env0 cE ⟨0,0,0,0⟩ [topFrame q0])=some (Sf w os):=piece_app (segRun_of (congrFun (p0 w) os)) (c1 w os)
theorem run0 (w:World)(os:OsState):topRun treeTable P0 w 11 ann0 (12+(1+(267+(214+(248+(214+(399+(359+(382+(382+(252+(398+(365+(99+(458+(48+(432+(378+(380+(219+(394+(341+(2))))))))))))))))))))))) ⟨boot_heap w.params,⟨[]⟩,boot_drawn,boot_toks,os⟩ (topStub P0)=some (Sf w os) :=
 go_top (congrFun (pre0 w) os) (piece_block (congrFun (blk0 w) os) (by rw [bd_eq];exact c0 w os))
noncomputable def view0:Program:={ P0 with main:={ P0.main with body:=[st 0,st 2,st 3,st 4,st 5,st 6,st 8,st 9,st 10,st 11,st 12,st 13,st 14,st 15,st 17,st 18,st 19,st 20,st 21,st 22,st 23,st 24,st 25,st 26,st 27,st 28,st 29,st 30,st 31,st 32,st 33,st 36,st 37,st 39,st 40,st 41,st 42,st 43,st 44,st 45,st 46,st 47,st 48,st 49,st 50,st 53,st 54,st 56,st 57,st 58,st 59,st 60,st 61,st 62,st 63,st 64,st 65,st 66,st 67,st 68,st 69,st 71,st 73,st 74,st 75,st 76,st 77,st 78,st 79,st 80,st 83,st 84,st 86,st 87,st 88,st 89,st 90,st 91,st 93,st 95,st 97,st 99,st 100,st 103,st 104,st 105,st 106,st 107,st 108,st 109,st 110,st 111,st 112,st 114,st 115,st 116,st 117,st 118,st 119,st 120,st 121,st 122,st 123,st 124] } }
noncomputable abbrev loose0:List Str:=[Str.ofString "MOST_VALUE",Str.ofString "MOST_WRITTEN",Str.ofString "fraction",Str.ofString "write_decimal",Str.ofString "PI_BOTTOM",Str.ofString "MORE",Str.ofString "MOST_BOTTOM",Str.ofString "turn_of",Str.ofString "in_parts",Str.ofString "flattened",Str.ofString "length",Str.ofString "Uses"]
noncomputable abbrev lv0:List (Str × WData):=[(Str.ofString "MOST_VALUE",WData.int 1000000000000000000000000000000000000000000000000000000000000),(Str.ofString "MOST_WRITTEN",WData.int 10000000000000000000000000000000000000000000000000000000000000000000000000000000000000000000000000000000000000000000000000000000000000000000000000000000000000000000000000000000000000000000000000000000000000000000000000000000000000000000000000000000000000000000000000000000000000000000000000000000000000000000000000000000000000000000000000000000000000000000000000000000000000000000000000000000000000000000000000000000000000000000000000000000000000000000000000000000000000000000000000000000000000000000000000000000000000000000000000000000000000000000000000000000000000000000000000000000000000000000000000000000000000000000000000000000000000000000000000000000000000000000000000000000000000000000000000000000000000000000000000000000000000000000000000000000000000000000000000000000000000000000000000000000000000000000000000000000000000000000000000000000000000000000000000000000000000000000000000000000000000000000000000000000000000000000000000000000000000000000000000000000000000000000000000000000000000000000000000000000000000000000000000000000000000000000000000000000000000000000000000000000000000000000000000000000000000000000000000000000000000000000000000000000000000000000000000000000000000000000000000000000000000000000000000000000000000000000000000000000000000000000000000000000000000000000000000000000000000000000000000000000000000000000000000000000000000000000000000000000000000000000000000000000000000000000000000000000000000000000000000000000000000000000000000000000000000000000000000000000000000000000000000000000000000000000000000000000000000000000000000000000000000000000000000000000000000000000000000000000000000000000000000000000000000000000000000000000000000000000000000000000000000000000000000000000000000000000000000000000000000000000000000000000000000000000000000000000000000000000000000000000000000000000000000000000000000000000000000000000000000000000000000000000000000000000000000000000000000000000000000000000000000000000000000000000000000000000000000000000000000000000000000000000000000000000000000000000000000000000000000000000000000000000000000000000000000000000000000000000000000000000000000000000000000000000000000000000000000000000000000000000000000000000000000000000000000000000000000000000000000000000000000000000000000000000000000000000000000000000000000000000000000000000000000000000000000000000000000000000000000000000000000000000000000000000000000000000000000000000000000000000000000000000000000000000000000000000000000000000000000000000000000000000000000000000000000000000000000000000000000000000000000000000000000000000000000000000000000000000000000000000000000000000000000000000000000000000000000000000000000000000000000000000000000000000000000000000000000000000000000000000000000000000000000000000000000000000000000000000000000000000000000000000000000000000000000000000000000000000000000000000000000000000000000000000000000000000000000000000000000000000000000000000000000000000000000000000000000000000000000000000000000000000000000000000000000000000000000000000000000000000000000000000000000000000000000000000000000000000000000000000000000000000000000000000000000000000000000000000000000000000000000000000000000000000000000000000000000000000000000000000000000000000000000000000000000000000000000000000000000000000000000000000000000000000000000000000000000000000000000000000000000000000000000000000000000000000000000000000000000000000000000000000000000000000000000000000000000000000000000000000000000000000000000000000000000000000000000000000000000000000000000000000000000000000000000000000000000000000000000000000000000000000000000000000000000000000000000000000000000000000000000000000000000000000000000000000000000000000000000000000000000000000000000000000000000000000000000000000000000000000000000000000000000000000000000000000000000000000000000000000000000000000000000000000000000000000000000000000000000000000000000000000000000000000000000000000000000000000000000000000000000000000000000000000000000000000000000000000000000000000000000000000000000000000000000000),(Str.ofString "PI_BOTTOM",WData.int 100000000000000000000000000000000000000000000000000),(Str.ofString "MORE",WData.int 65536),(Str.ofString "MOST_BOTTOM",WData.int 10000000000000000000000000000000000000000)]
abbrev xt0:Shared→Bool:=fun s=>xlAt view0 lv0 s&&recOk (RowW.records PySem.Challenge.rw_qz0069_01.row.toRowW) s
theorem open0:∀ w:World,(fencedOpening treeTable P0 w 12544).map (fun s=>(s.heap,s.gens,s.drawn,s.toks))=some (boot_heap w.params,⟨[]⟩,boot_drawn,boot_toks) :=
 boot_open (by kernel_rfl) (by decide +kernel) (fun s=>by kernel_rfl)
theorem size0 (w:World):((boot_heap w.params).isNs mainGlobals&&(⟨[]⟩:Array GenState).size==0,(boot_heap w.params).objs.size,(boot_heap w.params).nsMap mainGlobals "__annotations__")=(true,11,ann0):=by
 rw [PySem.W.Fast.te8920871248978507458];kernel_rfl
theorem lk1 (w:World)(os:OsState):(staticsOk (importedModules P0.main.body) (boot_heap w.params) (h996 w.params)&&namesBound P0 (h996 w.params)&&gensDone (Sf w os)&&laidKept (boot_heap w.params) (h996 w.params))=true:=by
 rw [PySem.W.Fast.te5923862056798008813];kernel_rfl
theorem lk2 (w:World)(os:OsState):seen ((recsOf view0).map (·.name)) (ownsOf view0) [] { Sf w os with gens:=#[] }=expectedOf view0:=by
 rw [PySem.W.Fast.te5160383126252970620,PySem.W.R.mapR_eq,PySem.W.Fast.te3399658132070893891,PySem.W.Fast.te5991557255702980513];kernel_rfl
theorem lk3 (w:World)(os:OsState):(Sf w os).heap.bltView=bltViewBooted:=by kernel_rfl
theorem lk4 (w:World)(os:OsState):((Sf w os).heap.keysOk (looseW view0 loose0) ((recsOf view0).map (·.name)) ((litsOf view0).map (·.1)) ((clssOf view0 (looseW view0 loose0)).map (·.name))&&(Sf w os).heap.accountedOkI (importedModules P0.main.body)&&(Sf w os).heap.isNs mainGlobals&&(Sf w os).heap.isNs builtinsNs&&tablesOk view0 (Sf w os).heap&&xt0 (Sf w os)&&(if true then (Sf w os).gens.size==0 else !leftWithCleanup (Sf w os).gens))=true:=by
 rw [PySem.W.Fast.te10880121769531294198,PySem.W.Fast.te821141287760084731,PySem.W.Fast.te3399658132070893891,PySem.W.Fast.te7409074990110511671,PySem.W.Fast.te13664370479719496447,PySem.W.Fast.te14722251495701143533,PySem.W.Fast.te5923862056798008813,PySem.W.Fast.te10994771534591457954];kernel_rfl
theorem lk5 (w:World)(os:OsState):tabsOk view0 (Sf w os)=true:=by
 rw [PySem.W.Fast.te479339242167458305];kernel_rfl
theorem lk6 (w:World)(os:OsState):pinSeenD view0 (drecsOf view0) (Sf w os)=pinGoodD (drecsOf view0):=by
 rw [PySem.W.Fast.te16090120013241838585,PySem.W.Fast.te3247288618530077131];kernel_rfl
theorem lk7 (w:World)(os:OsState):plainSeenE view0 (looseW view0 loose0) (Sf w os)=plainGoodE view0 (looseW view0 loose0):=by
 rw [PySem.W.Fast.te2386780881361962483,PySem.W.Fast.te821141287760084731];kernel_rfl
theorem lk8 (w:World)(os:OsState):plainSeenD view0 loose0 (Sf w os)=plainGoodD view0 loose0:=by
 rw [PySem.W.Fast.te11698064438423848299];kernel_rfl
theorem lk9 (w:World)(os:OsState):wideSeen view0 (Sf w os)=wideGood view0:=by
 rw [PySem.W.Fast.te7317090234206586261];kernel_rfl
theorem lk10 (w:World)(os:OsState):clsSeenW view0 loose0 (Sf w os)=clsGoodW view0 loose0:=by
 rw [PySem.W.Fast.te7369524293546568484];kernel_rfl
theorem lk11 (w:World)(os:OsState):(kHook K Kas Kas_eq).obs (Sf w os)=(kHook K Kas Kas_eq).val w:=by
 kernel_rfl
theorem lkS (w:World)(os:OsState):openSeen view0 loose0 (importedModules P0.main.body) xt0 true (Sf w os)=openGood view0 loose0:=by
 unfold openSeen openGood
 exact looks_pair (lk2 w os) (looks_pair (lk3 w os) (looks_pair (lk4 w os) (looks_pair (lk5 w os) (looks_pair (lk6 w os) (looks_pair (lk7 w os) (looks_pair (lk8 w os) (looks_pair (lk9 w os) (lk10 w os))))))))
theorem looks0 (w:World):(fun os=>((staticsOk (importedModules P0.main.body) (boot_heap w.params) (h996 w.params)&&namesBound P0 (h996 w.params)&&gensDone (Sf w os)&&laidKept (boot_heap w.params) (h996 w.params)),openSeen view0 loose0 (importedModules P0.main.body) xt0 true (Sf w os),(kHook K Kas Kas_eq).obs (Sf w os)))=fun _=>(true,openGood view0 loose0,(kHook K Kas Kas_eq).val w) :=
 funext fun os=>looks_pair (lk1 w os) (looks_pair (lkS w os) (lk11 w os))
theorem left0:LeftO P0 view0 loose0 xt0 (kHook K Kas Kas_eq).obs (kHook K Kas Kas_eq).val 12544 :=
 LeftO.of_pieces open0 size0 run0 (by decide +kernel) looks0
theorem ws0:PySem.Challenge.rw_qz0069_01.wellSaid=true:=by
 rw [PySem.W.Fast.te9446332074065402090];kernel_rfl
theorem ok0:(chainsOk view0&&opensWell PySem.Challenge.rw_qz0069_01.row.prog&&(frees PySem.Challenge.rw_qz0069_01.row.toRowW&&PySem.Challenge.rw_qz0069_01.row.within.isEmpty))=true:=by decide +kernel
theorem bare0:PySem.Challenge.rw_qz0069_01.row.prog.bare:=⟨rfl,rfl,rfl,rfl,rfl,by decide +kernel⟩
theorem wit0:PySem.Challenge.rw_qz0069_01.row.toRowW.promised:=by
 w_on
 w_witness2
theorem hd0 (d:DefRec)(kwd:List (Str × PySem.Expr))(hdef:defOf view0 PySem.Challenge.rw_qz0069_01.row.name=some (d,kwd))(hp:PySem.Challenge.rw_qz0069_01.row.prog.theDef PySem.Challenge.rw_qz0069_01.row.name=some (d.params,d.body,d.scope))(hk:kwWritten? d.params.kwonlyargs d.params.kw_defaults=some kwd)
  (walk:WalkO view0 [Str.ofString "MOST_VALUE",Str.ofString "MOST_WRITTEN",Str.ofString "fraction",Str.ofString "write_decimal",Str.ofString "PI_BOTTOM",Str.ofString "MORE",Str.ofString "MOST_BOTTOM",Str.ofString "turn_of",Str.ofString "in_parts",Str.ofString "flattened",Str.ofString "length",Str.ofString "Uses"] (XL view0 [(Str.ofString "MOST_VALUE",WData.int 1000000000000000000000000000000000000000000000000000000000000),(Str.ofString "MOST_WRITTEN",WData.int 10000000000000000000000000000000000000000000000000000000000000000000000000000000000000000000000000000000000000000000000000000000000000000000000000000000000000000000000000000000000000000000000000000000000000000000000000000000000000000000000000000000000000000000000000000000000000000000000000000000000000000000000000000000000000000000000000000000000000000000000000000000000000000000000000000000000000000000000000000000000000000000000000000000000000000000000000000000000000000000000000000000000000000000000000000000000000000000000000000000000000000000000000000000000000000000000000000000000000000000000000000000000000000000000000000000000000000000000000000000000000000000000000000000000000000000000000000000000000000000000000000000000000000000000000000000000000000000000000000000000000000000000000000000000000000000000000000000000000000000000000000000000000000000000000000000000000000000000000000000000000000000000000000000000000000000000000000000000000000000000000000000000000000000000000000000000000000000000000000000000000000000000000000000000000000000000000000000000000000000000000000000000000000000000000000000000000000000000000000000000000000000000000000000000000000000000000000000000000000000000000000000000000000000000000000000000000000000000000000000000000000000000000000000000000000000000000000000000000000000000000000000000000000000000000000000000000000000000000000000000000000000000000000000000000000000000000000000000000000000000000000000000000000000000000000000000000000000000000000000000000000000000000000000000000000000000000000000000000000000000000000000000000000000000000000000000000000000000000000000000000000000000000000000000000000000000000000000000000000000000000000000000000000000000000000000000000000000000000000000000000000000000000000000000000000000000000000000000000000000000000000000000000000000000000000000000000000000000000000000000000000000000000000000000000000000000000000000000000000000000000000000000000000000000000000000000000000000000000000000000000000000000000000000000000000000000000000000000000000000000000000000000000000000000000000000000000000000000000000000000000000000000000000000000000000000000000000000000000000000000000000000000000000000000000000000000000000000000000000000000000000000000000000000000000000000000000000000000000000000000000000000000000000000000000000000000000000000000000000000000000000000000000000000000000000000000000000000000000000000000000000000000000000000000000000000000000000000000000000000000000000000000000000000000000000000000000000000000000000000000000000000000000000000000000000000000000000000000000000000000000000000000000000000000000000000000000000000000000000000000000000000000000000000000000000000000000000000000000000000000000000000000000000000000000000000000000000000000000000000000000000000000000000000000000000000000000000000000000000000000000000000000000000000000000000000000000000000000000000000000000000000000000000000000000000000000000000000000000000000000000000000000000000000000000000000000000000000000000000000000000000000000000000000000000000000000000000000000000000000000000000000000000000000000000000000000000000000000000000000000000000000000000000000000000000000000000000000000000000000000000000000000000000000000000000000000000000000000000000000000000000000000000000000000000000000000000000000000000000000000000000000000000000000000000000000000000000000000000000000000000000000000000000000000000000000000000000000000000000000000000000000000000000000000000000000000000000000000000000000000000000000000000000000000000000000000000000000000000000000000000000000000000000000000000000000000000000000000000000000000000000000000000000000000000000000000000000000000000000000000000000000000000000000000000000000000000000000000000000000000000000000000000000000000000000000000000000000000000000000000000000000000000000000000000000000000000000000000000000000000000000000000000000000000000000000000000000000000000000000000000000000000000000000000000000000000000000000000000000000000000000000000000000000000000000000000000000),(Str.ofString "PI_BOTTOM",WData.int 100000000000000000000000000000000000000000000000000),(Str.ofString "MORE",WData.int 65536),(Str.ofString "MOST_BOTTOM",WData.int 10000000000000000000000000000000000000000)]) (Hook.says (kHook K Kas Kas_eq)) PySem.Challenge.rw_qz0069_01.row.toRowW d kwd fun f vs=>PySem.call f vs):PySem.Challenge.rw_qz0069_01.Holds :=
 holds_law ws0 fun said=>holds_open (q:=view0) (loose:=[Str.ofString "MOST_VALUE",Str.ofString "MOST_WRITTEN",Str.ofString "fraction",Str.ofString "write_decimal",Str.ofString "PI_BOTTOM",Str.ofString "MORE",Str.ofString "MOST_BOTTOM",Str.ofString "turn_of",Str.ofString "in_parts",Str.ofString "flattened",Str.ofString "length",Str.ofString "Uses"]) (Xt:=fun s=>xlAt view0 lv0 s&&recOk (RowW.records PySem.Challenge.rw_qz0069_01.row.toRowW) s) (XP:=XL view0 [(Str.ofString "MOST_VALUE",WData.int 1000000000000000000000000000000000000000000000000000000000000),(Str.ofString "MOST_WRITTEN",WData.int 10000000000000000000000000000000000000000000000000000000000000000000000000000000000000000000000000000000000000000000000000000000000000000000000000000000000000000000000000000000000000000000000000000000000000000000000000000000000000000000000000000000000000000000000000000000000000000000000000000000000000000000000000000000000000000000000000000000000000000000000000000000000000000000000000000000000000000000000000000000000000000000000000000000000000000000000000000000000000000000000000000000000000000000000000000000000000000000000000000000000000000000000000000000000000000000000000000000000000000000000000000000000000000000000000000000000000000000000000000000000000000000000000000000000000000000000000000000000000000000000000000000000000000000000000000000000000000000000000000000000000000000000000000000000000000000000000000000000000000000000000000000000000000000000000000000000000000000000000000000000000000000000000000000000000000000000000000000000000000000000000000000000000000000000000000000000000000000000000000000000000000000000000000000000000000000000000000000000000000000000000000000000000000000000000000000000000000000000000000000000000000000000000000000000000000000000000000000000000000000000000000000000000000000000000000000000000000000000000000000000000000000000000000000000000000000000000000000000000000000000000000000000000000000000000000000000000000000000000000000000000000000000000000000000000000000000000000000000000000000000000000000000000000000000000000000000000000000000000000000000000000000000000000000000000000000000000000000000000000000000000000000000000000000000000000000000000000000000000000000000000000000000000000000000000000000000000000000000000000000000000000000000000000000000000000000000000000000000000000000000000000000000000000000000000000000000000000000000000000000000000000000000000000000000000000000000000000000000000000000000000000000000000000000000000000000000000000000000000000000000000000000000000000000000000000000000000000000000000000000000000000000000000000000000000000000000000000000000000000000000000000000000000000000000000000000000000000000000000000000000000000000000000000000000000000000000000000000000000000000000000000000000000000000000000000000000000000000000000000000000000000000000000000000000000000000000000000000000000000000000000000000000000000000000000000000000000000000000000000000000000000000000000000000000000000000000000000000000000000000000000000000000000000000000000000000000000000000000000000000000000000000000000000000000000000000000000000000000000000000000000000000000000000000000000000000000000000000000000000000000000000000000000000000000000000000000000000000000000000000000000000000000000000000000000000000000000000000000000000000000000000000000000000000000000000000000000000000000000000000000000000000000000000000000000000000000000000000000000000000000000000000000000000000000000000000000000000000000000000000000000000000000000000000000000000000000000000000000000000000000000000000000000000000000000000000000000000000000000000000000000000000000000000000000000000000000000000000000000000000000000000000000000000000000000000000000000000000000000000000000000000000000000000000000000000000000000000000000000000000000000000000000000000000000000000000000000000000000000000000000000000000000000000000000000000000000000000000000000000000000000000000000000000000000000000000000000000000000000000000000000000000000000000000000000000000000000000000000000000000000000000000000000000000000000000000000000000000000000000000000000000000000000000000000000000000000000000000000000000000000000000000000000000000000000000000000000000000000000000000000000000000000000000000000000000000000000000000000000000000000000000000000000000000000000000000000000000000000000000000000000000000000000000000000000000000000000000000000000000000000000000000000000000000000000000000000000000000000000000000000000000000000000000000000000000000000000000000000000000000000000000000000000000000000000000000000000000000000000000000000000000000000000000000000000000000000000000),(Str.ofString "PI_BOTTOM",WData.int 100000000000000000000000000000000000000000000000000),(Str.ofString "MORE",WData.int 65536),(Str.ofString "MOST_BOTTOM",WData.int 10000000000000000000000000000000000000000)]) (Yf:=Hook.obs (kHook K Kas Kas_eq)) (Ya:=Hook.val (kHook K Kas Kas_eq)) (YP:=Hook.says (kHook K Kas Kas_eq)) (N:=12544) left0 (Hook.of (kHook K Kas Kas_eq)) (Hook.keeps (kHook K Kas Kas_eq)) (fun s e=>xl_of s (Bool.and_eq_true_iff.mp e).1) XL.keeps hdef hp hk (fun s e=>recFacts_of (Bool.and_eq_true_iff.mp e).2) (by rfl) said ok0 bare0 wit0 walk
end
end Mine.H
end
section
set_option maxHeartbeats 8000000 
namespace Mine
theorem iB {a b:Bool}(h:(a&&b)=true):a=true∧b=true:=Bool.and_eq_true_iff.mp h
theorem iC {α:Type _}{a b:α}{l:List α}(h:a∈b::l):a=b∨a∈l:=List.mem_cons.mp h
theorem iA {α:Type _}{a:α}{l m:List α}(h:a∈l++m):a∈l∨a∈m:=List.mem_append.mp h
theorem iS {α:Type _}{a b:α}(h:a∈[b]):a=b:=List.mem_singleton.mp h
theorem iM {α:Type _}{β:Type _}{f:α→β}{b:β}{l:List α}(h:b∈l.map f):∃ a,a∈l∧f a=b:=List.mem_map.mp h
theorem iO {α:Type _}{β:Type _}{f:α→β}{b:β}{o:Option α}(h:o.map f=some b):∃ a,o=some a∧f a=b:=Option.map_eq_some_iff.mp h
theorem iD {α:Type _}{β:Type _}{f:α→Option β}{b:β}{o:Option α}(h:o.bind f=some b):∃ a,o=some a∧f a=some b:=Option.bind_eq_some_iff.mp h
theorem iT {α:Type _}{p:α→Bool}{l:List α}(h:l.all p=true):∀ x∈l,p x=true:=List.all_eq_true.mp h
theorem iN {α:Type _}{l:List α}(h:l.length=0):l=[]:=List.length_eq_zero_iff.mp h
theorem iL {α:Type _}{a:α}{l m:List α}(h:a∈l):a∈l++m:=List.mem_append_left _ h
theorem iR {α:Type _}{a:α}{l m:List α}(h:a∈m):a∈l++m:=List.mem_append_right _ h
theorem iE {a b:Nat}(h:Nat.ble a b=true):a≤b:=Nat.le_of_ble_eq_true h
--ELB
theorem el0a3 {M N O:Prop}{Z:Prop}(y:M∧N∧O)(z:M→N→O→Z):Z:=z  y.1 y.2.1 y.2.2
theorem el0a4 {M N O P:Prop}{Z:Prop}(y:M∧N∧O∧P)(z:M→N→O→P→Z):Z:=z  y.1 y.2.1 y.2.2.1 y.2.2.2
theorem el0a7 {M N O P Q R S:Prop}{Z:Prop}(y:M∧N∧O∧P∧Q∧R∧S)(z:M→N→O→P→Q→R→S→Z):Z:=z  y.1 y.2.1 y.2.2.1 y.2.2.2.1 y.2.2.2.2.1 y.2.2.2.2.2.1 y.2.2.2.2.2.2
theorem el0a8 {M N O P Q R S T:Prop}{Z:Prop}(y:M∧N∧O∧P∧Q∧R∧S∧T)(z:M→N→O→P→Q→R→S→T→Z):Z:=z  y.1 y.2.1 y.2.2.1 y.2.2.2.1 y.2.2.2.2.1 y.2.2.2.2.2.1 y.2.2.2.2.2.2.1 y.2.2.2.2.2.2.2
theorem el1a2 {A:Sort _}{M N:A→Prop}{Z:Prop}(y:∃ a,M a∧N a)(z:∀ a,M a→N a→Z):Z:=y.elim fun a y=>z a y.1 y.2
theorem el1a3 {A:Sort _}{M N O:A→Prop}{Z:Prop}(y:∃ a,M a∧N a∧O a)(z:∀ a,M a→N a→O a→Z):Z:=y.elim fun a y=>z a y.1 y.2.1 y.2.2
theorem el1a4 {A:Sort _}{M N O P:A→Prop}{Z:Prop}(y:∃ a,M a∧N a∧O a∧P a)(z:∀ a,M a→N a→O a→P a→Z):Z:=y.elim fun a y=>z a y.1 y.2.1 y.2.2.1 y.2.2.2
theorem el1a8 {A:Sort _}{M N O P Q R S T:A→Prop}{Z:Prop}(y:∃ a,M a∧N a∧O a∧P a∧Q a∧R a∧S a∧T a)(z:∀ a,M a→N a→O a→P a→Q a→R a→S a→T a→Z):Z:=y.elim fun a y=>z a y.1 y.2.1 y.2.2.1 y.2.2.2.1 y.2.2.2.2.1 y.2.2.2.2.2.1 y.2.2.2.2.2.2.1 y.2.2.2.2.2.2.2
theorem el2a1 {A B:Sort _}{M:A→B→Prop}{Z:Prop}(y:∃ a b,M a b)(z:∀ a b,M a b→Z):Z:=y.elim fun a y=>y.elim fun b y=>z a b y
theorem el2a2 {A B:Sort _}{M N:A→B→Prop}{Z:Prop}(y:∃ a b,M a b∧N a b)(z:∀ a b,M a b→N a b→Z):Z:=y.elim fun a y=>y.elim fun b y=>z a b y.1 y.2
theorem el2a3 {A B:Sort _}{M N O:A→B→Prop}{Z:Prop}(y:∃ a b,M a b∧N a b∧O a b)(z:∀ a b,M a b→N a b→O a b→Z):Z:=y.elim fun a y=>y.elim fun b y=>z a b y.1 y.2.1 y.2.2
theorem el2a4 {A B:Sort _}{M N O P:A→B→Prop}{Z:Prop}(y:∃ a b,M a b∧N a b∧O a b∧P a b)(z:∀ a b,M a b→N a b→O a b→P a b→Z):Z:=y.elim fun a y=>y.elim fun b y=>z a b y.1 y.2.1 y.2.2.1 y.2.2.2
theorem el2a5 {A B:Sort _}{M N O P Q:A→B→Prop}{Z:Prop}(y:∃ a b,M a b∧N a b∧O a b∧P a b∧Q a b)(z:∀ a b,M a b→N a b→O a b→P a b→Q a b→Z):Z:=y.elim fun a y=>y.elim fun b y=>z a b y.1 y.2.1 y.2.2.1 y.2.2.2.1 y.2.2.2.2
theorem el2a6 {A B:Sort _}{M N O P Q R:A→B→Prop}{Z:Prop}(y:∃ a b,M a b∧N a b∧O a b∧P a b∧Q a b∧R a b)(z:∀ a b,M a b→N a b→O a b→P a b→Q a b→R a b→Z):Z:=y.elim fun a y=>y.elim fun b y=>z a b y.1 y.2.1 y.2.2.1 y.2.2.2.1 y.2.2.2.2.1 y.2.2.2.2.2
theorem el3a1 {A B C:Sort _}{M:A→B→C→Prop}{Z:Prop}(y:∃ a b c,M a b c)(z:∀ a b c,M a b c→Z):Z:=y.elim fun a y=>y.elim fun b y=>y.elim fun c y=>z a b c y
theorem el3a2 {A B C:Sort _}{M N:A→B→C→Prop}{Z:Prop}(y:∃ a b c,M a b c∧N a b c)(z:∀ a b c,M a b c→N a b c→Z):Z:=y.elim fun a y=>y.elim fun b y=>y.elim fun c y=>z a b c y.1 y.2
theorem el3a3 {A B C:Sort _}{M N O:A→B→C→Prop}{Z:Prop}(y:∃ a b c,M a b c∧N a b c∧O a b c)(z:∀ a b c,M a b c→N a b c→O a b c→Z):Z:=y.elim fun a y=>y.elim fun b y=>y.elim fun c y=>z a b c y.1 y.2.1 y.2.2
theorem el3a4 {A B C:Sort _}{M N O P:A→B→C→Prop}{Z:Prop}(y:∃ a b c,M a b c∧N a b c∧O a b c∧P a b c)(z:∀ a b c,M a b c→N a b c→O a b c→P a b c→Z):Z:=y.elim fun a y=>y.elim fun b y=>y.elim fun c y=>z a b c y.1 y.2.1 y.2.2.1 y.2.2.2
theorem el3a6 {A B C:Sort _}{M N O P Q R:A→B→C→Prop}{Z:Prop}(y:∃ a b c,M a b c∧N a b c∧O a b c∧P a b c∧Q a b c∧R a b c)(z:∀ a b c,M a b c→N a b c→O a b c→P a b c→Q a b c→R a b c→Z):Z:=y.elim fun a y=>y.elim fun b y=>y.elim fun c y=>z a b c y.1 y.2.1 y.2.2.1 y.2.2.2.1 y.2.2.2.2.1 y.2.2.2.2.2
theorem el4a2 {A B C D:Sort _}{M N:A→B→C→D→Prop}{Z:Prop}(y:∃ a b c d,M a b c d∧N a b c d)(z:∀ a b c d,M a b c d→N a b c d→Z):Z:=y.elim fun a y=>y.elim fun b y=>y.elim fun c y=>y.elim fun d y=>z a b c d y.1 y.2
theorem el4a4 {A B C D:Sort _}{M N O P:A→B→C→D→Prop}{Z:Prop}(y:∃ a b c d,M a b c d∧N a b c d∧O a b c d∧P a b c d)(z:∀ a b c d,M a b c d→N a b c d→O a b c d→P a b c d→Z):Z:=y.elim fun a y=>y.elim fun b y=>y.elim fun c y=>y.elim fun d y=>z a b c d y.1 y.2.1 y.2.2.1 y.2.2.2
theorem el4a5 {A B C D:Sort _}{M N O P Q:A→B→C→D→Prop}{Z:Prop}(y:∃ a b c d,M a b c d∧N a b c d∧O a b c d∧P a b c d∧Q a b c d)(z:∀ a b c d,M a b c d→N a b c d→O a b c d→P a b c d→Q a b c d→Z):Z:=y.elim fun a y=>y.elim fun b y=>y.elim fun c y=>y.elim fun d y=>z a b c d y.1 y.2.1 y.2.2.1 y.2.2.2.1 y.2.2.2.2
theorem el4a6 {A B C D:Sort _}{M N O P Q R:A→B→C→D→Prop}{Z:Prop}(y:∃ a b c d,M a b c d∧N a b c d∧O a b c d∧P a b c d∧Q a b c d∧R a b c d)(z:∀ a b c d,M a b c d→N a b c d→O a b c d→P a b c d→Q a b c d→R a b c d→Z):Z:=y.elim fun a y=>y.elim fun b y=>y.elim fun c y=>y.elim fun d y=>z a b c d y.1 y.2.1 y.2.2.1 y.2.2.2.1 y.2.2.2.2.1 y.2.2.2.2.2
theorem el4a7 {A B C D:Sort _}{M N O P Q R S:A→B→C→D→Prop}{Z:Prop}(y:∃ a b c d,M a b c d∧N a b c d∧O a b c d∧P a b c d∧Q a b c d∧R a b c d∧S a b c d)(z:∀ a b c d,M a b c d→N a b c d→O a b c d→P a b c d→Q a b c d→R a b c d→S a b c d→Z):Z:=y.elim fun a y=>y.elim fun b y=>y.elim fun c y=>y.elim fun d y=>z a b c d y.1 y.2.1 y.2.2.1 y.2.2.2.1 y.2.2.2.2.1 y.2.2.2.2.2.1 y.2.2.2.2.2.2
theorem el4a9 {A B C D:Sort _}{M N O P Q R S T U:A→B→C→D→Prop}{Z:Prop}(y:∃ a b c d,M a b c d∧N a b c d∧O a b c d∧P a b c d∧Q a b c d∧R a b c d∧S a b c d∧T a b c d∧U a b c d)(z:∀ a b c d,M a b c d→N a b c d→O a b c d→P a b c d→Q a b c d→R a b c d→S a b c d→T a b c d→U a b c d→Z):Z:=y.elim fun a y=>y.elim fun b y=>y.elim fun c y=>y.elim fun d y=>z a b c d y.1 y.2.1 y.2.2.1 y.2.2.2.1 y.2.2.2.2.1 y.2.2.2.2.2.1 y.2.2.2.2.2.2.1 y.2.2.2.2.2.2.2.1 y.2.2.2.2.2.2.2.2
theorem el5a2 {A B C D E:Sort _}{M N:A→B→C→D→E→Prop}{Z:Prop}(y:∃ a b c d e,M a b c d e∧N a b c d e)(z:∀ a b c d e,M a b c d e→N a b c d e→Z):Z:=y.elim fun a y=>y.elim fun b y=>y.elim fun c y=>y.elim fun d y=>y.elim fun e y=>z a b c d e y.1 y.2
theorem el5a6 {A B C D E:Sort _}{M N O P Q R:A→B→C→D→E→Prop}{Z:Prop}(y:∃ a b c d e,M a b c d e∧N a b c d e∧O a b c d e∧P a b c d e∧Q a b c d e∧R a b c d e)(z:∀ a b c d e,M a b c d e→N a b c d e→O a b c d e→P a b c d e→Q a b c d e→R a b c d e→Z):Z:=y.elim fun a y=>y.elim fun b y=>y.elim fun c y=>y.elim fun d y=>y.elim fun e y=>z a b c d e y.1 y.2.1 y.2.2.1 y.2.2.2.1 y.2.2.2.2.1 y.2.2.2.2.2
theorem el5a7 {A B C D E:Sort _}{M N O P Q R S:A→B→C→D→E→Prop}{Z:Prop}(y:∃ a b c d e,M a b c d e∧N a b c d e∧O a b c d e∧P a b c d e∧Q a b c d e∧R a b c d e∧S a b c d e)(z:∀ a b c d e,M a b c d e→N a b c d e→O a b c d e→P a b c d e→Q a b c d e→R a b c d e→S a b c d e→Z):Z:=y.elim fun a y=>y.elim fun b y=>y.elim fun c y=>y.elim fun d y=>y.elim fun e y=>z a b c d e y.1 y.2.1 y.2.2.1 y.2.2.2.1 y.2.2.2.2.1 y.2.2.2.2.2.1 y.2.2.2.2.2.2
theorem el5a8 {A B C D E:Sort _}{M N O P Q R S T:A→B→C→D→E→Prop}{Z:Prop}(y:∃ a b c d e,M a b c d e∧N a b c d e∧O a b c d e∧P a b c d e∧Q a b c d e∧R a b c d e∧S a b c d e∧T a b c d e)(z:∀ a b c d e,M a b c d e→N a b c d e→O a b c d e→P a b c d e→Q a b c d e→R a b c d e→S a b c d e→T a b c d e→Z):Z:=y.elim fun a y=>y.elim fun b y=>y.elim fun c y=>y.elim fun d y=>y.elim fun e y=>z a b c d e y.1 y.2.1 y.2.2.1 y.2.2.2.1 y.2.2.2.2.1 y.2.2.2.2.2.1 y.2.2.2.2.2.2.1 y.2.2.2.2.2.2.2
theorem el5a9 {A B C D E:Sort _}{M N O P Q R S T U:A→B→C→D→E→Prop}{Z:Prop}(y:∃ a b c d e,M a b c d e∧N a b c d e∧O a b c d e∧P a b c d e∧Q a b c d e∧R a b c d e∧S a b c d e∧T a b c d e∧U a b c d e)(z:∀ a b c d e,M a b c d e→N a b c d e→O a b c d e→P a b c d e→Q a b c d e→R a b c d e→S a b c d e→T a b c d e→U a b c d e→Z):Z:=y.elim fun a y=>y.elim fun b y=>y.elim fun c y=>y.elim fun d y=>y.elim fun e y=>z a b c d e y.1 y.2.1 y.2.2.1 y.2.2.2.1 y.2.2.2.2.1 y.2.2.2.2.2.1 y.2.2.2.2.2.2.1 y.2.2.2.2.2.2.2.1 y.2.2.2.2.2.2.2.2
theorem el6a9 {A B C D E F:Sort _}{M N O P Q R S T U:A→B→C→D→E→F→Prop}{Z:Prop}(y:∃ a b c d e f,M a b c d e f∧N a b c d e f∧O a b c d e f∧P a b c d e f∧Q a b c d e f∧R a b c d e f∧S a b c d e f∧T a b c d e f∧U a b c d e f)(z:∀ a b c d e f,M a b c d e f→N a b c d e f→O a b c d e f→P a b c d e f→Q a b c d e f→R a b c d e f→S a b c d e f→T a b c d e f→U a b c d e f→Z):Z:=y.elim fun a y=>y.elim fun b y=>y.elim fun c y=>y.elim fun d y=>y.elim fun e y=>y.elim fun f y=>z a b c d e f y.1 y.2.1 y.2.2.1 y.2.2.2.1 y.2.2.2.2.1 y.2.2.2.2.2.1 y.2.2.2.2.2.2.1 y.2.2.2.2.2.2.2.1 y.2.2.2.2.2.2.2.2
theorem el8a1 {A B C D E F G H:Sort _}{M:A→B→C→D→E→F→G→H→Prop}{Z:Prop}(y:∃ a b c d e f g h,M a b c d e f g h)(z:∀ a b c d e f g h,M a b c d e f g h→Z):Z:=y.elim fun a y=>y.elim fun b y=>y.elim fun c y=>y.elim fun d y=>y.elim fun e y=>y.elim fun f y=>y.elim fun g y=>y.elim fun h y=>z a b c d e f g h y
theorem el12a1 {A B C D E F G H I J K L:Sort _}{M:A→B→C→D→E→F→G→H→I→J→K→L→Prop}{Z:Prop}(y:∃ a b c d e f g h i j k l,M a b c d e f g h i j k l)(z:∀ a b c d e f g h i j k l,M a b c d e f g h i j k l→Z):Z:=y.elim fun a y=>y.elim fun b y=>y.elim fun c y=>y.elim fun d y=>y.elim fun e y=>y.elim fun f y=>y.elim fun g y=>y.elim fun h y=>y.elim fun i y=>y.elim fun j y=>y.elim fun k y=>y.elim fun l y=>z a b c d e f g h i j k l y
--ELE
noncomputable def Stop (P:Prop):Prop:=P
theorem stop {P:Prop}(h:Stop P):P:=h
theorem go {P:Prop}(h:P):Stop P:=h
noncomputable def Spec (w:World)(p:Program)(loose:List Str)(mean:ExcName→Option Value)(mg mb:Str→Option Value)(f:Addr)(vs:List Value)(led:List (Addr × Obj))(k:Nat)
  (pre:Heap→Prop) (post:Value→List (Addr × Obj)→Prop):Prop :=
 ∀ (dp un:Nat) (gd:Option (List Code)) (cn:Str) (cs:Scope) (a:Addr) (ccd:Value) (cl:List (Str × Addr)) (outer:List Env) (A₀:Around) (base h₀:Heap) (L:Addr) (m:Str→Option Value) (s:Shared) (Q E:Value→Shared→Prop),
  Below A₀ base outer h₀→Fr h₀ L s.heap m→(H.K w.params).In h₀→News h₀ L s.heap led→Top p loose mean mg mb h₀→cs.kind=.function →
  dp+k < recursionLimit→un+8 * k < cLine→pre s.heap →
  (∀ v h' tk' led',Fr h₀ L h' m→News h₀ L h' led'→(∀ b o,s.heap.get? b=some o→b ∉ led.map (·.1)→h'.get? b=some o)→(∀ q∈led',q.1∈led.map (·.1)∨s.heap.get? q.1=none)→post v led'→Q v { s with heap:=h',toks:=tk' }) →
  wpAny (model PySem.Challenge.rw_qz0069_01.row.prog w) (ktrTop dp un gd cn cs L a ccd cl outer) (call (.ref f) vs) Q E s
section
variable {w:World}{p:Program}{loose:List Str}{mean:ExcName→Option Value}{mg mb:Str→Option Value}{f:Addr}{vs:List Value}{led:List (Addr × Obj)}{k:Nat}
  {pre:Heap→Prop} {post:Value→List (Addr × Obj)→Prop}
theorem off1_of {d:Addr}:∀ {l:List (Addr × Obj)},(∀ q∈l,q.1≠d)→LCg.Off1 d l
 | [],_=>True.intro
 | q::_,h=>⟨h q (.head _),off1_of fun x hx=>h x (.tail _ hx)⟩
noncomputable def Off1' (d:Addr):List (Addr × Obj)→Prop
 | []=>True
 | [q]=>@Ne Nat q.1 d
 | q::l=>@Ne Nat q.1 d∧Off1' d l
noncomputable def OffAll (rest:List (Addr × Obj)):List (Addr × Obj)→Prop
 | []=>True
 | [q]=>Off1' q.1 rest
 | q::l=>Off1' q.1 rest∧OffAll rest l
theorem off1'_of {d:Addr}:∀ {l:List (Addr × Obj)},LCg.Off1 d l→Off1' d l
 | [],_=>True.intro
 | [_],h=>h.1
 | _::_::_,h=>⟨h.1,off1'_of h.2⟩
theorem offAll_of {rest:List (Addr × Obj)}:∀ {l:List (Addr × Obj)},(∀ q∈l,LCg.Off1 q.1 rest)→OffAll rest l
 | [],_=>True.intro
 | [_],h=>off1'_of (h _ (.head _))
 | _::_::_,h=>⟨off1'_of (h _ (.head _)),offAll_of fun q hq=>h q (.tail _ hq)⟩
theorem tok_gen {M:Model}{α:Type}{A:Around}{t:Sem α}{Q:α→Shared→Prop}{E:Value→Shared→Prop}{h:Heap}{g:Array GenState}{d:Drawn}{o:OsState}{x:Nat}(H:∀ n,wpAny M A t Q E ⟨h,g,d,n,o⟩):wpAny M A t Q E ⟨h,g,d,x+1+1,o⟩:=H _
theorem tok_genL {M:Model}{α β:Type}{A:Around}{t:Sem α}{Q:α→Shared→Prop}{E:Value→Shared→Prop}{h:Heap}{g:Array GenState}{d:Drawn}{o:OsState}{x:Nat}{l:List β}(H:∀ n,wpAny M A t Q E ⟨h,g,d,n,o⟩):wpAny M A t Q E ⟨h,g,d,x+l.length,o⟩:=H _
theorem let_st {M:Model}{α:Type}{A:Around}{t:Sem α}{Q:α→Shared→Prop}{E:Value→Shared→Prop}{h:Heap}{g:Array GenState}{d:Drawn}{n:Nat}{o:OsState}{h₀:Heap}{L:Addr}{m:Str→Option Value}{news:List (Addr × Obj)}
  (F:Fr h₀ L h m) (N:News h₀ L h news) (k:let m₁:=m;let n₁:=news;Fr h₀ L h m₁→News h₀ L h n₁→wpAny M A t Q E ⟨h,g,d,n,o⟩):wpAny M A t Q E ⟨h,g,d,n,o⟩:=k F N
theorem Spec.ret {h₀ g h':Heap}{L L':Addr}{m m':Str→Option Value}{s:Shared}{Q:Value→Shared→Prop}{v:Value}{tk':Nat}{all all':List (Addr × Obj)}
  (hret:∀ v h' tk' led',Fr h₀ L h' m→News h₀ L h' led'→(∀ b o,s.heap.get? b=some o→b ∉ led.map (·.1)→h'.get? b=some o)→(∀ q∈led',q.1∈led.map (·.1)∨s.heap.get? q.1=none)→post v led'→Q v { s with heap:=h',toks:=tk' })
  (GS:GSub s.heap g (led.map (·.1))) (F:Fr h₀ L h' m) (N:News h₀ L h' all) (F':Fr g L' h' m') (N':News g L' h' all') (led':List (Addr × Obj)) (hs:∀ q∈led',q∈all) (hs':∀ q∈led',q∈all') (hp:post v led'):Q v { s with heap:=h',toks:=tk' }:=by
 refine hret v h' tk' led' F (fun q hq=>N q (hs q hq)) (fun b o e hb=>F'.keep b o (GS b o e hb)) (fun q hq=>?_) hp
 by_cases hm:q.1∈led.map (·.1)
 ·exact .inl hm
 ·right
  cases e:s.heap.get? q.1 with
  | none=>rfl
  | some o=>have:=GS _ _ e hm;rw [(N' q (hs' q hq)).2.2] at this;cases this
end
noncomputable abbrev tupOf (vs:List Value):Obj:={ cls:=.type "tuple",data:=.seq vs.toArray }
theorem isTup_g {h g:Heap}{a:Addr}{vs:Array Value}(GS:GSub h g (([]:List (Addr × Obj)).map (·.1)))(H:IsTup h a vs):IsTup g a vs:=IsTup.keeps H fun b o e=>GS b o e (fun h=>nomatch h)
noncomputable def RetI (x:Int)(v:Value)(led':List (Addr × Obj)):Prop:=[]=led'∧∃ t,v=.int x t
noncomputable def RetB (b:Bool)(v:Value)(led':List (Addr × Obj)):Prop:=[]=led'∧v=.bool b
noncomputable def RetL (led:List (Addr × Obj))(b:Bool)(v:Value)(led':List (Addr × Obj)):Prop:=led=led'∧v=.bool b
noncomputable def RetT2 (x y:Int)(v:Value)(led':List (Addr × Obj)):Prop:=∃ D t u,v=.ref D∧[(D,tupOf [.int x t,.int y u])]=led'
noncomputable def Tup2 (h:Heap)(a:Addr)(x y:Int):Prop:=∃ t u,IsTup h a #[.int x t,.int y u]
-- the fractions
noncomputable def nT (p q:Int):Int:=p.fdiv (Int.gcd p q)
noncomputable def nB (p q:Int):Int:=q.fdiv (Int.gcd p q)
theorem gcd_step {a b x y:Int}(ha:0≤a)(hb:0 < b)(h:Int.gcd a b=Int.gcd x y):Int.gcd b (a.fmod b)=Int.gcd x y:=by
 rw [← h,Int.fmod_eq_emod_of_nonneg _ (Int.le_of_lt hb)]
 unfold Int.gcd
 rw [Int.natAbs_emod _ (by walk_at "o")]
 simp [ha]
 rw [Nat.gcd_comm,← Nat.gcd_rec,Nat.gcd_comm]
theorem gcd_pos {p q:Int}(hq:0 < q):0 < (Int.gcd p q:Int):=by
 have:0 < Int.gcd p q:=Int.gcd_pos_of_ne_zero_right _ (by walk_at "o")
 walk_at "o"
theorem gcd_le {p q:Int}(hq:0 < q):(Int.gcd p q:Int)≤q:=by
 have:=Int.gcd_le_right (a:=p) (b:=q) hq
 walk_at "o"
theorem noPyl {x y:Int}(h1:-(2 ^ 200) < y)(h2:y < 2 ^ 200):Builtin.divisionGoesByPylong x y=false:=by
 refine PyProof.noPylong_of_log2 ?_
 by_cases h0:y.natAbs=0
 ·rw [h0];decide +kernel
 ·have h3:y.natAbs < 2 ^ 200:=by walk_at "o"
  have h30:y.natAbs.log2 < 200:=(Nat.log2_lt h0).mpr h3
  walk_at "o"
noncomputable def sgn (x:Int):Int:=if 0 < x then 1 else if x < 0 then -1 else 0
theorem mul_pos_lt {a b:Int}(ha:0 < a)(hb:0 < b)(ha2:a < 2 ^ 64)(hb2:b < 2 ^ 64):0 < a * b∧a * b < 2 ^ 200:=by
 refine ⟨Int.mul_pos ha hb,?_⟩
 have h1:a * b≤a * 2 ^ 64:=Int.mul_le_mul_of_nonneg_left (by walk_at "o") (by walk_at "o")
 have h2:a * 2 ^ 64≤2 ^ 64 * 2 ^ 64:=Int.mul_le_mul_of_nonneg_right (by walk_at "o") (by walk_at "o")
 have h3:(2:Int) ^ 64 * 2 ^ 64 < 2 ^ 200:=by decide
 walk_at "o"
theorem gcd_end {a b x y:Int}(ha:0≤a)(hb:0≤b)(h:Int.gcd a b=Int.gcd x y)(hn:¬ 0 < b):a=(Int.gcd x y:Int):=by
 have e:b=0:=by walk_at "o"
 subst e
 rw [← h,Int.gcd_zero_right]
 walk_at "o"
theorem gcd_less {a b:Int}(hb:0 < b):(a.fmod b).toNat < b.toNat:=by
 have h1:=Int.fmod_lt_of_pos a hb
 walk_at "o"
theorem gcd_nn {a b:Int}(hb:0 < b):0≤a.fmod b:=Int.fmod_nonneg_of_pos a hb
theorem rf_up {f n:Int}(hf:1≤f)(hn:n < 2 ^ 62)(h:f * f≤n):f < 2 ^ 31:=by
 apply Int.lt_of_not_ge
 intro hc
 have:(2:Int) ^ 31 * 2 ^ 31≤f * f:=Int.mul_le_mul hc hc (by walk_at "o") (by walk_at "o")
 have e:(2:Int) ^ 31 * 2 ^ 31=2 ^ 62:=by decide
 walk_at "o"
theorem rf_le {f n:Int}(hf:1≤f)(h:f * f≤n):f≤n:=by
 have:f * 1≤f * f:=Int.mul_le_mul_of_nonneg_left hf (by walk_at "o")
 walk_at "o"
theorem rf_start {f n:Int}(hf:1≤f)(h:¬ f * f≤n):n < (f+1) * (f+1):=by
 have:(f+1) * (f+1)=f * f+2 * f+1:=by rw [Int.add_mul,Int.mul_add];walk_at "o"
 walk_at "o"
theorem fdiv_le {n f:Int}(hf:0 < f):f * (n.fdiv f)≤n∧n < f * (n.fdiv f)+f:=by
 rw [Int.fdiv_eq_ediv_of_nonneg _ (Int.le_of_lt hf)]
 have:=Int.mul_ediv_add_emod n f
 have:=Int.emod_nonneg n (by walk_at "o":f≠0)
 have:=Int.emod_lt_of_pos n hf
 walk_at "o"
theorem sq_ge {x y:Int}:4 * (x * y)≤(x+y) * (x+y):=by
 have h:0≤(x - y) * (x - y):=by
  rcases Int.le_total 0 (x - y) with h | h
  ·exact Int.mul_nonneg h h
  ·exact Int.mul_nonneg_of_nonpos_of_nonpos h h
 have e1:(x - y) * (x - y)=x * x - 2 * (x * y)+y * y:=by
  rw [Int.sub_mul,Int.mul_sub,Int.mul_sub,Int.mul_comm y x];walk_at "o"
 have e2:(x+y) * (x+y)=x * x+2 * (x * y)+y * y:=by
  rw [Int.add_mul,Int.mul_add,Int.mul_add,Int.mul_comm y x];walk_at "o"
 walk_at "o"
theorem sq_mono {x y:Int}(h0:0≤x)(h:x≤y):x * x≤y * y:=Int.mul_le_mul h h h0 (by walk_at "o")
theorem rf_turn {f l n:Int}(hn:1≤n)(hf:0 < f)(hl:l=(f+n.fdiv f).fdiv 2):0 < l∧n < (l+1) * (l+1):=by
 obtain ⟨h1,h2⟩:=fdiv_le (n:=n) hf
 generalize hq:n.fdiv f=q at h1 h2 hl
 have hq0:0≤q:=by
  apply Int.le_of_not_gt
  intro hc
  have:f * q≤f * (-1):=Int.mul_le_mul_of_nonneg_left (by walk_at "o") (by walk_at "o")
  walk_at "o"
 obtain ⟨h3,h4⟩:=fdiv_le (n:=f+q) (f:=2) (by walk_at "o")
 rw [← hl] at h3 h4
 have hm:n < f * (q+1):=by rw [Int.mul_add];walk_at "o"
 have h5:=sq_ge (x:=f) (y:=q+1)
 have h6:(f+(q+1)) * (f+(q+1))≤(2 * (l+1)) * (2 * (l+1)):=sq_mono (by walk_at "o") (by walk_at "o")
 have h7:(2 * (l+1)) * (2 * (l+1))=4 * ((l+1) * (l+1)):=by rw [Int.mul_assoc,Int.mul_left_comm (l+1)];walk_at "o"
 refine ⟨?_,by walk_at "o"⟩
 apply Int.lt_of_not_ge
 intro hc
 have:f=1:=by walk_at "o"
 subst this
 walk_at "o"
theorem rf_end {f l n:Int}(hf:0 < f)(hl:l=(f+n.fdiv f).fdiv 2)(h:¬ l < f):f * f≤n:=by
 obtain ⟨h1,h2⟩:=fdiv_le (n:=n) hf
 obtain ⟨h3,h4⟩:=fdiv_le (n:=f+n.fdiv f) (f:=2) (by walk_at "o")
 rw [← hl] at h3 h4
 have:f * f≤f * n.fdiv f:=Int.mul_le_mul_of_nonneg_left (by walk_at "o") (by walk_at "o")
 walk_at "o"
theorem nT_eq {p q:Int}:nT p q=p / (Int.gcd p q:Int):=by
 unfold nT
 exact Int.fdiv_eq_ediv_of_nonneg _ (by walk_at "o")
theorem nB_eq {p q:Int}:nB p q=q / (Int.gcd p q:Int):=by
 unfold nB
 exact Int.fdiv_eq_ediv_of_nonneg _ (by walk_at "o")
theorem nT_mul {p q:Int}:(Int.gcd p q:Int) * nT p q=p:=by
 rw [nT_eq];exact Int.mul_ediv_cancel' (Int.gcd_dvd_left ..)
theorem nB_mul {p q:Int}:(Int.gcd p q:Int) * nB p q=q:=by
 rw [nB_eq];exact Int.mul_ediv_cancel' (Int.gcd_dvd_right ..)
theorem nf_gcd {p q k:Int}(hk:0 < k):(Int.gcd (p * k) (q * k):Int)=(Int.gcd p q:Int) * k:=by
 have e:(k.natAbs:Int)=k:=by walk_at "o"
 rw [Int.gcd_mul_right,Int.natCast_mul,e]
theorem nf_scale {p q k:Int}(hk:0 < k):nT (p * k) (q * k)=nT p q∧nB (p * k) (q * k)=nB p q:=by
 rw [nT_eq,nT_eq,nB_eq,nB_eq,nf_gcd hk]
 exact ⟨Int.mul_ediv_mul_of_pos_left _ _ hk,Int.mul_ediv_mul_of_pos_left _ _ hk⟩
theorem nf_congr {p q p' q':Int}(hq:0 < q)(hq':0 < q')(h:p * q'=p' * q):nT p q=nT p' q'∧nB p q=nB p' q':=by
 obtain ⟨a,b⟩:=nf_scale (p:=p) (q:=q) hq'
 obtain ⟨c,d⟩:=nf_scale (p:=p') (q:=q') hq
 rw [← a,← b,← c,← d,h,Int.mul_comm q q']
 exact ⟨rfl,rfl⟩
theorem nB_pos {p q:Int}(hq:0 < q):0 < nB p q:=by
 have h:=nB_mul (p:=p) (q:=q)
 have g:=gcd_pos (p:=p) hq
 apply Int.lt_of_not_ge
 intro hc
 have:(Int.gcd p q:Int) * nB p q≤(Int.gcd p q:Int) * 0:=Int.mul_le_mul_of_nonneg_left hc (by walk_at "o")
 walk_at "o"
theorem nB_le {p q:Int}(hq:0 < q):nB p q≤q:=by
 have h:=nB_mul (p:=p) (q:=q)
 have g:=gcd_pos (p:=p) hq
 have b:=nB_pos (p:=p) hq
 have:1 * nB p q≤(Int.gcd p q:Int) * nB p q:=Int.mul_le_mul_of_nonneg_right (by walk_at "o") (by walk_at "o")
 walk_at "o"
theorem nT_cross {p q:Int}:nT p q * q=p * nB p q:=by
 have h1:=nT_mul (p:=p) (q:=q)
 have h2:=nB_mul (p:=p) (q:=q)
 generalize nT p q=a at *
 generalize nB p q=b at *
 rw [← h2]
 conv=>rhs;rw [← h1]
 rw [Int.mul_left_comm,Int.mul_assoc]
theorem nT_lt {p q M:Int}(hq:0 < q)(h1:-M < p)(h2:p < M):-M < nT p q∧nT p q < M:=by
 have h:=nT_mul (p:=p) (q:=q)
 have g:=gcd_pos (p:=p) hq
 rcases Int.le_total 0 (nT p q) with hc | hc
 ·have:1 * nT p q≤(Int.gcd p q:Int) * nT p q:=Int.mul_le_mul_of_nonneg_right (by walk_at "o") hc
  walk_at "o"
 ·have:(Int.gcd p q:Int) * nT p q≤1 * nT p q:=Int.mul_le_mul_of_nonpos_right (by walk_at "o") hc
  walk_at "o"
theorem rat_add {a0 a1 b0 b1 p q r s P Q:Int}(ha:0 < a1)(hb:0 < b1)(hq:0 < q)(hs:0 < s)(ea:a0 * q=p * a1)(eb:b0 * s=r * b1)(h:(p * s+r * q) * Q=P * (q * s)) :
  (a0 * b1+b0 * a1) * Q=P * (a1 * b1):=by
 have hk:0 < q * s:=Int.mul_pos hq hs
 apply Int.eq_of_mul_eq_mul_right (a:=q * s) (by walk_at "o")
 grind
theorem rat_sub {a0 a1 b0 b1 p q r s P Q:Int}(ha:0 < a1)(hb:0 < b1)(hq:0 < q)(hs:0 < s)(ea:a0 * q=p * a1)(eb:b0 * s=r * b1)(h:(p * s - r * q) * Q=P * (q * s)) :
  (a0 * b1 - b0 * a1) * Q=P * (a1 * b1):=by
 have hk:0 < q * s:=Int.mul_pos hq hs
 apply Int.eq_of_mul_eq_mul_right (a:=q * s) (by walk_at "o")
 grind
theorem rat_mul {a0 a1 b0 b1 p q r s P Q:Int}(ha:0 < a1)(hb:0 < b1)(hq:0 < q)(hs:0 < s)(ea:a0 * q=p * a1)(eb:b0 * s=r * b1)(h:(p * r) * Q=P * (q * s)) :
  (a0 * b0) * Q=P * (a1 * b1):=by
 have hk:0 < q * s:=Int.mul_pos hq hs
 apply Int.eq_of_mul_eq_mul_right (a:=q * s) (by walk_at "o")
 grind
theorem fdiv_scale {p q k:Int}(hk:0 < k)(hq:0 < q):(k * p).fdiv (k * q)=p.fdiv q:=by
 rw [Int.fdiv_eq_ediv_of_nonneg _ (Int.le_of_lt hq),Int.fdiv_eq_ediv_of_nonneg _ (Int.le_of_lt (Int.mul_pos hk hq))]
 exact Int.mul_ediv_mul_of_pos _ _ hk
theorem fdiv_rep {a0 a1 p q:Int}(ha:0 < a1)(hq:0 < q)(e:a0 * q=p * a1):a0.fdiv a1=p.fdiv q:=by
 rw [← fdiv_scale (p:=a0) (q:=a1) hq ha,← fdiv_scale (p:=p) (q:=q) ha hq,Int.mul_comm q a0,e,Int.mul_comm p a1,Int.mul_comm q a1]
theorem rnd_rep {a0 a1 p q:Int}(ha:0 < a1)(hq:0 < q)(e:a0 * q=p * a1):(2 * a0+a1).fdiv (2 * a1)=(2 * p+q).fdiv (2 * q) :=
 fdiv_rep (by walk_at "o") (by walk_at "o") (by grind)
theorem sgn_rep {a0 a1 b0 b1 p q r s:Int}(ha:0 < a1)(hb:0 < b1)(hq:0 < q)(hs:0 < s)(ea:a0 * q=p * a1)(eb:b0 * s=r * b1) :
  (a0 * b1 - b0 * a1 < 0↔p * s - r * q < 0)∧(0 < a0 * b1 - b0 * a1↔0 < p * s - r * q):=by
 have hk:0 < q * s:=Int.mul_pos hq hs
 have hl:0 < a1 * b1:=Int.mul_pos ha hb
 have e:(a0 * b1 - b0 * a1) * (q * s)=(p * s - r * q) * (a1 * b1):=by grind
 generalize a0 * b1 - b0 * a1=X at *
 generalize p * s - r * q=Y at *
 have pos:∀ {x y k l:Int},0 < k→0 < l→x * k=y * l→0 < x→0 < y:=by
  intro x y k l hk hl e hx
  have:0 < x * k:=Int.mul_pos hx hk
  rw [e] at this
  exact Int.pos_of_mul_pos_left this (by walk_at "o")
 refine ⟨⟨fun h=>?_,fun h=>?_⟩,⟨pos hk hl e,pos hl hk e.symm⟩⟩
 ·have:=pos (x:=-X) (y:=-Y) hk hl (by rw [Int.neg_mul,Int.neg_mul,e]) (by walk_at "o");walk_at "o"
 ·have:=pos (x:=-Y) (y:=-X) hl hk (by rw [Int.neg_mul,Int.neg_mul,e]) (by walk_at "o");walk_at "o"
end Mine
end
section
set_option maxHeartbeats 8000000 
namespace Mine
noncomputable abbrev listO (vs:List Value)(n:Nat):Obj:={ cls:=.type "list",data:=.seq vs.toArray n }
section
variable {prog:Program}{w:World}{A:Around}{E:Value→Shared→Prop}{s:Shared}{h₀:Heap}{L:Addr}{m:Str→Option Value}{news:List (Addr × Obj)}
theorem slicePart_any {vl:Value}{lo:Option Int}(pl:IsPart vl lo){Q:Option Int→Shared→Prop}(h:Q lo s):wpAny (model prog w) A (Builtin.Slice.slicePartIndex vl) Q E s:=by
 cases pl with
 | none=>exact slicePart_none h
 | int i t=>exact slicePart_int h
theorem sliceApplied_any {sl:Addr}{n:Int}{vl vu:Value}{lo hi:Option Int}{a b:Int}{c:Nat}{Q:Int × Int × Nat→Shared→Prop}(pl:IsPart vl lo)(pu:IsPart vu hi)(hs:s.heap.IsSliceOf sl vl vu .none)
  (ea:Builtin.Slice.sliceAdjust lo hi 1 n=(a,b)) (ec:Builtin.Slice.slicePlaces a b 1=c) (h:Q (a,1,c) s) :
  wpAny (model prog w) A (Builtin.Slice.sliceApplied (.ref sl) (pure n)) Q E s:=by
 obtain ⟨os,hos,hcs,hds⟩:=id hs
 unfold Builtin.Slice.sliceApplied Builtin.Slice.sliceFields
 refine wpAny_bind (wpAny_bind (wpAny_field hos hds (x:=vl) rfl (wpAny_bind (wpAny_field hos hds (x:=vu) rfl (wpAny_bind (wpAny_field hos hds (x:=.none) rfl (wpAny_pure ?_)))))))
 refine wpAny_bind (slicePart_none ?_)
 show wpAny _ _ (if ((1:Int)==0)=true then _ else _) _ _ s
 rw [if_neg (by decide)]
 refine wpAny_bind (slicePart_any pl (wpAny_bind (slicePart_any pu (wpAny_bind (wpAny_pure ?_)))))
 show wpAny _ _ (match Builtin.Slice.sliceAdjust lo hi 1 n with | (lo,hi)=>pure (lo,(1:Int),Builtin.Slice.slicePlaces lo hi 1)) _ _ s
 rw [ea]
 show wpAny _ _ (pure (a,(1:Int),Builtin.Slice.slicePlaces a b 1)) _ _ s
 rw [ec]
 exact wpAny_pure h
theorem getItem_tuple_any {t sl:Addr}{items:Array Value}{zs:List Value}{vl vu:Value}{lo hi:Option Int}{a b:Int}{c:Nat}{Q:Value→Shared→Prop}(ht:IsTup s.heap t items)(pl:IsPart vl lo)(pu:IsPart vu hi)(hs:s.heap.IsSliceOf sl vl vu .none)
  (ea:Builtin.Slice.sliceAdjust lo hi 1 (items.size:Int)=(a,b)) (ec:Builtin.Slice.slicePlaces a b 1=c) (hno:(a==0&&(1:Int)==1&&c==items.size)=false)
  (ez:((List.range c).filterMap fun (k:Nat)=>items[(a+(k:Int) * 1).toNat]?)=zs)
  (h:Q (.ref s.heap.objs.size) { s with heap:=s.heap.push { cls:=.type "tuple",data:=.seq zs.toArray } })
  (hsz:zs.length≤sizeLine):wpAny (model prog w) A (getItem (.ref t) (.ref sl)) Q E s:=by
 have hdrop:sizeOk (.seq zs.toArray):=by
  show zs.toArray.size≤sizeLine
  rw [List.size_toArray]
  exact hsz
 obtain ⟨os,hos,hcs,hds⟩:=id hs
 have hTs:s.TypeIs (.ref sl) "slice":=⟨os,hos,hcs⟩
 unfold getItem
 try with_reducible refine wpAny_holding ?_
 first | refine wpAny_bind (wpAny_pure ?_) | skip
 refine wpAny_bind (wpAny_sequenceKey ht.typeIs (by decide) ?_)
 refine wpAny_bind (wpAny_callSpecial?_slot (name:=Str.ofString "__getitem__") ht.typeIs slot_tuple_getitem
  (wpAny_call_entry slot_tuple_getitem ht.typeIs entry_tuple_getitem ?_ (args_tuple_getitem _ _)))
 show wpAny _ _ (Builtin.Tuple.tupleItemsOf (.ref t) >>= _) _ _ s
 refine wpAny_bind (tupleItemsOf_ ht ?_)
 refine wpAny_bind (wpAny_typeOf hTs ?_)
 rw [if_pos (by decide)]
 refine wpAny_bind (sliceApplied_any pl pu hs ea ec ?_)
 show wpAny _ _ (if (a==0&&(1:Int)==1&&c==items.size)=true then _ else _) _ _ s
 rw [if_neg (by rw [hno];decide),ez]
 first
  | exact wpAny_bind (m:=Builtin.Tuple.tupleExact _) (wpAny_newObj_type (wpAny_pure ⟨_,rfl,wpAny_pure h⟩) hdrop)
  | exact wpAny_bind (m:=Builtin.Tuple.tupleExact _) (wpAny_newObj_type (wpAny_bind (wpAny_pure (wpAny_pure ⟨_,rfl,wpAny_pure h⟩))) hdrop)
  | exact wpAny_bind (wpAny_bind (m:=Builtin.Tuple.tupleExact _) (wpAny_newObj_type (wpAny_pure (wpAny_pure ⟨_,rfl,wpAny_pure h⟩)) hdrop))
  | exact wpAny_bind (wpAny_bind (m:=Builtin.Tuple.tupleExact _) (wpAny_newObj_type (wpAny_pure ⟨_,rfl,wpAny_pure h⟩) hdrop))
theorem pick_any (xs:Array Value)(a c:Nat):((List.range c).filterMap fun (k:Nat)=>xs[((a:Int)+(k:Int) * 1).toNat]?)=(xs.toList.drop a).take c:=by
 have e:(fun (k:Nat)=>xs[((a:Int)+(k:Int) * 1).toNat]?)=fun k=>xs[a+k]?:=by
  funext k
  have:((a:Int)+(k:Int) * 1).toNat=a+k:=by walk_at "o"
  rw [this]
 rw [e]
 have:=pick_run xs a c
 rw [List.filterMap_map] at this
 exact this
theorem slice_tup {value slice:Expr}{t:Addr}{items:Array Value}{zs:List Value}{vl vu:Value}{lo hi:Option Int}(a:Nat){b:Int}{c:Nat}{Q:Value→Shared→Prop}
  (F:Fr h₀ L s.heap m) (N:News h₀ L s.heap news) (ht:IsTup s.heap t items) (pl:IsPart vl lo) (pu:IsPart vu hi)
  (ea:Builtin.Slice.sliceAdjust lo hi 1 (items.size:Int)=((a:Int),b)) (ec:Builtin.Slice.slicePlaces (a:Int) b 1=c) (hno:((a:Int)==0&&(1:Int)==1&&c==items.size)=false)
  (ez:(items.toList.drop a).take c=zs)
  (h:∀ D h',Fr h₀ L h' m→News h₀ L h' ((D,tupOf zs)::news)→(∀ q∈news,q.1 < D)→Q (.ref D) { s with heap:=h' })
  (hs:subscripted slice false (.ref t) (.ref s.heap.objs.size)=operate [.ref s.heap.objs.size,.ref t] (getItem (.ref t) (.ref s.heap.objs.size)))
  (hg:∀ r,letTemporaryGo value (.ref t) r=pure ())
  (hsz:zs.length≤sizeLine) :
  wpAny (model prog w) A (subscriptTail value slice (.ref t) (.ref s.heap.objs.size)) Q E { s with heap:=s.heap.push { cls:=.type "slice",data:=.fields #[vl,vu,.none] } }:=by
 have ht':IsTup (s.heap.push { cls:=.type "slice",data:=.fields #[vl,vu,.none] }) t items:=ht.keeps fun _ _ e=>Heap.get?_push_of_some _ e
 refine subscriptTail_ops (s:={ s with heap:=s.heap.push { cls:=.type "slice",data:=.fields #[vl,vu,.none] } }) ht'.typeIs slot_tuple_getitem.lookup
  (getItem_tuple_any ht' pl pu (Heap.IsSliceOf.new ..) ea ec hno ((pick_any items a c).trans ez) ?_ hsz) hs hg
 have N1:=News.push (F.push { cls:=.type "slice",data:=.fields #[vl,vu,.none] }) (N.grown fun _ _ e=>Heap.get?_push_of_some _ e) { cls:=.type "tuple",data:=.seq zs.toArray }
 rw [Heap.size_push] at N1
 show Q (.ref (s.heap.push _).objs.size) _
 rw [Heap.size_push]
 exact h _ _ ((F.push _).push _) N1 fun q hq=>Nat.lt_succ_of_lt (Heap.lt_size (N q hq).1)
theorem item_lst {value slice:PySem.Expr}{l:Addr}{vs:List Value}{k:Int}{u:Tok}{v:Value}{Q:Value→Shared→Prop}
  (hl:s.heap.IsList l vs.toArray) (h0:0≤k) (hhi:k < 2 ^ 63) (hx:vs[k.toNat]? = some v) (h:Q v s)
  (hs:subscripted slice false (.ref l) (.int k u)=operate [.ref l,.int k u] (getItem (.ref l) (.int k u)):=by with_unfolding_all rfl) :
  wpAny (model prog w) A (subscriptTail value slice (.ref l) (.int k u)) Q E s :=
 tail_any hl.typeIs slot_list_getitem.lookup (wpAny_getItem_list hl h0 hhi (by simpa using hx) h) hs
theorem comp_any {env:Env}{elt:Expr}{x:Str}{scope:Scope}{cl:List (Str × Addr)}{S:List (Addr × Obj)→Prop}{P:Nat→Value→Prop}{Fin:List Value→List (Addr × Obj)→Prop}{n:Nat}
  (J:Nat→List Value→List (Addr × Obj)→Prop) (hJ:J 0 [] news)
  (turn:∀ i v ys nx I oI C oC D m₂ h tk (E':Value→Shared→Prop),i < n→P i v→J i ys nx→LCg.NsObj oC m₂→m₂ x=some v→Fr h₀ L h m→News h₀ L h ((I,oI)::(C,oC)::(D,LCg.lst ys)::nx)→LCg.Off3 I C D nx→((@Ne Nat I C)∧(@Ne Nat I D)∧(@Ne Nat C D)) →
   wpAny (model prog w) A (eval elt (compEnvC scope cl C env)) (LCg.CompEnd h₀ L m { s with heap:=h,toks:=tk } I oI C oC D (LCg.lst ys) S (fun y nx'=>J (i+1) (ys++[y]) nx')) E' { s with heap:=h,toks:=tk })
  (fin:∀ ys nx,J n ys nx→Fin ys nx):LCg.CompRest prog w A h₀ L m env elt x scope cl s S P Fin n 0 [] news:=by
 have key:∀ (j i:Nat) (ys:List Value) (nx:List (Addr × Obj)),i+j=n→J i ys nx→LCg.CompRest prog w A h₀ L m env elt x scope cl s S P Fin j i ys nx:=by
  intro j
  induction j with
  | zero =>
   intro i ys nx hi hy
   have e:i=n:=by walk_at "o"
   subst e
   exact LCg.CompRest.zero (fin ys nx hy)
  | succ j ih =>
   intro i ys nx hi hy
   refine LCg.CompRest.succ ?_
   intro v I oI C oC D m₂ h tk E' hv hC hx F N off ne
   refine wpAny_mono (turn i v ys nx I oI C oC D m₂ h tk E' (by walk_at "o") hv hy hC hx F N off ne) (fun y s₂ hq=>?_) fun _ _ e=>e
   obtain ⟨h',tk',nw,e,F',N',off',hS,hn⟩:=hq
   exact ⟨h',tk',nw,e,F',N',off',hS,ih (i+1) _ _ (by walk_at "o") hn⟩
 exact key n 0 [] news (by walk_at "o") hJ
end
theorem comp_end {h₀:Heap}{L I C D:Addr}{m:Str→Option Value}{s₁:Shared}{oI oC oD:Obj}{S:List (Addr × Obj)→Prop}{rest:Value→List (Addr × Obj)→Prop}{y:Value}{h':Heap}{tk:Nat}{all:List (Addr × Obj)}
  (F:Fr h₀ L h' m) (N:News h₀ L h' all) (news':List (Addr × Obj)) (sub:∀ q∈(I,oI)::(C,oC)::(D,oD)::news',q∈all) (off:LCg.Off3 I C D news') (hS:S news') (r:rest y news') :
  LCg.CompEnd h₀ L m s₁ I oI C oC D oD S rest y { s₁ with heap:=h',toks:=tk }:=LCg.CompEnd.intro F N news' sub off hS r
theorem comp_end0 {h₀:Heap}{L I C D:Addr}{m:Str→Option Value}{s₁:Shared}{oI oC oD:Obj}{S:List (Addr × Obj)→Prop}{rest:Value→List (Addr × Obj)→Prop}{y:Value}{h':Heap}{tk:Nat}{nx:List (Addr × Obj)}
  (F:Fr h₀ L h' m) (N:News h₀ L h' ((I,oI)::(C,oC)::(D,oD)::nx)) (off:LCg.Off3 I C D nx) (hS:S nx) (r:rest y nx) :
  LCg.CompEnd h₀ L m s₁ I oI C oC D oD S rest y { s₁ with heap:=h',toks:=tk } :=
 comp_end F N nx (fun q hq=>hq) off hS r
theorem mul_bnd {a b A B:Int}(ha:-A≤a∧a≤A)(hb:-B≤b∧b≤B):-(A * B)≤a * b∧a * b≤A * B:=by
 have h1:0≤(A - a) * (B+b):=Int.mul_nonneg (by walk_at "o") (by walk_at "o")
 have h2:0≤(A+a) * (B - b):=Int.mul_nonneg (by walk_at "o") (by walk_at "o")
 have h3:0≤(A - a) * (B - b):=Int.mul_nonneg (by walk_at "o") (by walk_at "o")
 have h4:0≤(A+a) * (B+b):=Int.mul_nonneg (by walk_at "o") (by walk_at "o")
 have e1:(A - a) * (B+b)+(A+a) * (B - b)=2 * (A * B) - 2 * (a * b):=by grind
 have e2:(A - a) * (B - b)+(A+a) * (B+b)=2 * (A * B)+2 * (a * b):=by grind
 walk_at "o"
theorem sq_nn (a:Int):0≤a * a:=by
 rcases Int.le_total 0 a with h | h
 ·exact Int.mul_nonneg h h
 ·exact Int.mul_nonneg_of_nonpos_of_nonpos h h
theorem cauchy (a b u v:Int):(a * u+b * v) * (a * u+b * v)≤(a * a+b * b) * (u * u+v * v):=by
 have h:=sq_nn (a * v - b * u)
 have e:(a * a+b * b) * (u * u+v * v) - (a * u+b * v) * (a * u+b * v)=(a * v - b * u) * (a * v - b * u):=by grind
 walk_at "o"
theorem fdiv4 {S n:Int}(e:S.fdiv 4=n):4 * n≤S∧S < 4 * n+4:=by
 rw [Int.fdiv_eq_ediv_of_nonneg _ (by walk_at "o")] at e
 walk_at "o"
theorem stretch_main {p0 p1 p2 p3 u v x n:Int}(e:(p0 * p0+p1 * p1+p2 * p2+p3 * p3).fdiv 4=n)(hx:0≤x)(h1:x * x≤n)(h2:n < (x+1) * (x+1)) :
  (p0 * u+p2 * v) * (p0 * u+p2 * v)+(p1 * u+p3 * v) * (p1 * u+p3 * v)≤4 * (1+x) * (1+x) * (u * u+v * v)∧4 * (x * x)≤p0 * p0+p1 * p1+p2 * p2+p3 * p3:=by
 obtain ⟨e1,e2⟩:=fdiv4 e
 refine ⟨?_,by walk_at "o"⟩
 have c1:=cauchy p0 p2 u v
 have c2:=cauchy p1 p3 u v
 have hu:=sq_nn u
 have hv:=sq_nn v
 have hS:p0 * p0+p1 * p1+p2 * p2+p3 * p3≤4 * (1+x) * (1+x):=by
  have:4 * (1+x) * (1+x)=4 * ((x+1) * (x+1)):=by grind
  walk_at "o"
 have:=Int.mul_le_mul_of_nonneg_right (c:=u * u+v * v) hS (by walk_at "o")
 have e3:(p0 * p0+p1 * p1+p2 * p2+p3 * p3) * (u * u+v * v)=(p0 * p0+p2 * p2) * (u * u+v * v)+(p1 * p1+p3 * p3) * (u * u+v * v):=by grind
 walk_at "o"
theorem sq_bnd {x n:Int}(hx:0≤x)(h:x * x≤n):x≤n:=by
 rcases Int.lt_or_le x 1 with h1 | h1
 ·have:=sq_nn x;walk_at "o"
 ·have:x * 1≤x * x:=Int.mul_le_mul_of_nonneg_left h1 hx
  walk_at "o"
theorem nB4 (P:Int):0 < nB P 4∧nB P 4 < 2 ^ 64:=by
 have h1:=nB_pos (p:=P) (q:=4) (by walk_at "o")
 have h2:=nB_le (p:=P) (q:=4) (by walk_at "o")
 walk_at "o"
theorem mulOk {a b:Int}(h1:-(2 ^ 62) < a)(h2:a < 2 ^ 62):IntMulOk a b:=IntMulOk.of_left (intBits_le_64 (by walk_at "o") (by walk_at "o"))
theorem ints_snoc {ys:List Value}{ns:List Int}{n:Int}{t:Tok}(h:IntsAre ys ns):IntsAre (ys++[.int n t]) (ns++[n]):=IntsAre.append h (.cons n t .nil)
theorem fdiv_nn {a b:Int}(ha:0≤a)(hb:0 < b):0≤a.fdiv b:=by
 rw [Int.fdiv_eq_ediv_of_nonneg _ (Int.le_of_lt hb)]
 exact Int.ediv_nonneg ha (Int.le_of_lt hb)
theorem fmod_nn (a:Int){b:Int}(hb:0 < b):0≤a.fmod b:=Int.fmod_nonneg_of_pos a hb
theorem fmod_lt (a:Int){b:Int}(hb:0 < b):a.fmod b < b:=Int.fmod_lt_of_pos a hb
theorem paired_mono {α β:Type}{F G:α→β→Prop}(h:∀ a b,F a b→G a b){l₁:List α}{l₂:List β}(p:Paired F l₁ l₂):Paired G l₁ l₂:=by
 induction p with
 | nil=>exact .nil
 | cons x _ ih=>exact .cons (h _ _ x) ih
theorem take_snoc {α:Type}{l:List α}{i:Nat}{a:α}(h:l[i]? = some a):l.take (i+1)=l.take i++[a]:=by rw [List.take_add_one,h];rfl
end Mine
end
section
open Sem (wp)
namespace Mine
noncomputable abbrev two (elt t1 i1 t2 i2:Expr)(scope:Scope)(pos:Pos):Expr:=.ListComp elt [⟨t1,i1,[],0⟩,⟨t2,i2,[],0⟩] scope pos
theorem turn_two0 (elt t1 i1 t2 i2:Expr)(scope:Scope)(pos:Pos)(it acc:Value)(env:Env) :
  compTurn (two elt t1 i1 t2 i2 scope pos) 0 it acc env=(standAt i1.pos >>= fun _=>pyNext it >>= fun r=>match r with
   | none=>pure (.done .next)
   | some v=>letOwnedTupleGo t1 it v >>= fun _=>assign t1 env v >>= fun _ =>
    eval i2 env >>= fun x=>standAt i2.pos >>= fun _=>foldedSetIterable i2 env x >>= fun x=>holding [x] (pyIter x) >>= fun it2 =>
     runOwn (.compStart (two elt t1 i1 t2 i2 scope pos) 1 it2 acc env) env >>= fun _=>again (.compLoop (two elt t1 i1 t2 i2 scope pos) 0 it acc env)):=by rfl
theorem turn_two1 (elt t1 i1 t2 i2:Expr)(scope:Scope)(pos:Pos)(it acc:Value)(env:Env) :
  compTurn (two elt t1 i1 t2 i2 scope pos) 1 it acc env=(standAt i2.pos >>= fun _=>pyNext it >>= fun r=>match r with
   | none=>pure (.done .next)
   | some v=>letOwnedTupleGo t2 it v >>= fun _=>assign t2 env v >>= fun _ =>
    (eval elt env >>= fun x=>call (.builtin "list.append") [acc,x] >>= fun _=>pure ()) >>= fun _=>again (.compLoop (two elt t1 i1 t2 i2 scope pos) 1 it acc env)):=by rfl
section
variable {prog:Program}{w:World}{A:Around}{R:Result→Shared→Prop}{s:Shared}
theorem start_two1 {elt t1 i1 t2 i2 scope pos it acc env}
  (h0:codeAny (model prog w) A (.compLoop (two elt t1 i1 t2 i2 scope pos) 1 it acc env) R s)
  (h:wpAny (model prog w) A (pyIter it) (fun it' s'=>codeAny (model prog w) A (.compLoop (two elt t1 i1 t2 i2 scope pos) 1 it' acc env) R s')
   (notedBy (model prog w) A env fun x s'=>R (.error x) s') s) :
  codeAny (model prog w) A (.compStart (two elt t1 i1 t2 i2 scope pos) 1 it acc env) R s:=by
 refine codeAny_of_tree ?_
 show wpAny _ _ ((compStart (two elt t1 i1 t2 i2 scope pos) 1 it acc env).onRaise (fun x=>do noteFrame x env;standAt theWindowsPlace)) _ _ s
 refine wpAny_notedAt ?_
 unfold compStart
 show wpAny _ _ (ask >>= _) _ _ s
 refine wpAny_bind (wpAny_askSetting (wpAny_ite ?_))
 split
 ·first
   | exact wpAny_bind (wpAny_pure (wpAny_pure (And.intro rfl h0)))
   | exact wpAny_pure (And.intro rfl h0)
 ·first
   | exact wpAny_bind (wpAny_rule (wpAny_bind (wpAny_standAt (wpAny_bind (wpAny_mono h (fun it' s' h'=>wpAny_pure (And.intro rfl h')) fun _ _ x=>x)))))
   | (refine wpAny_bind (wpAny_rule ?_);show wpAny _ _ (standAt i2.pos >>= _) _ _ s;exact wpAny_bind (wpAny_standAt (wpAny_bind (wpAny_mono h (fun it' s' h'=>wpAny_pure (And.intro rfl h')) fun _ _ x=>x))))
theorem loop_two1 {elt t1 i1 t2 i2:Expr}{scope:Scope}{pos:Pos}{it acc:Value}{env:Env}(I:Nat→Shared→Prop)
  (turn:∀ n s,I n s→wpAny (model prog w) A (pyNext it) (fun r s₁=>match r with
   | none=>R (.ok .next) s₁
   | some v=>wpAny (model prog w) A (assign t2 env v) (fun _ s₂=>wpAny (model prog w) A (eval elt env) (fun x s₃ =>
     wpAny (model prog w) A (call (.builtin "list.append") [acc,x]) (fun _ s₄=>∃ m,m < n∧I m s₄) (notedBy (model prog w) A env fun e s'=>R (.error e) s') s₃)
     (notedBy (model prog w) A env fun e s'=>R (.error e) s') s₂) (notedBy (model prog w) A env fun e s'=>R (.error e) s') s₁) (notedBy (model prog w) A env fun e s'=>R (.error e) s') s)
  (n:Nat) (h:I n s) (ht:∀ v,letOwnedTupleGo t2 it v=pure ():=by intro _;rfl) :
  codeAny (model prog w) A (.compLoop (two elt t1 i1 t2 i2 scope pos) 1 it acc env) R s:=by
 refine codeAny_loop rfl I (fun n s hI=>?_) n h
 show wpAny _ A ((compTurn (two elt t1 i1 t2 i2 scope pos) 1 it acc env).onRaise (fun x=>do noteFrame x env;theTreesLotGoes x)) _ _ s
 refine wpAny_noted ?_
 rw [turn_two1]
 refine wpAny_bind (wpAny_standAt (wpAny_bind (wpAny_mono (turn n s hI) (fun r s₁ h₁=>?_) fun _ _ h'=>h')))
 cases r with
 | none=>exact wpAny_pure h₁
 | some v =>
  refine wpAny_bind (wpAny_of_eq (ht v) ?_)
  exact wpAny_bind (wpAny_mono h₁ (fun _ s₂ h₂=>wpAny_bind (wpAny_bind (wpAny_mono h₂ (fun x s₃ h₃=>wpAny_bind (wpAny_mono h₃
   (fun _ s₄ h₄=>wpAny_pure (wpAny_pure ⟨rfl,h₄⟩)) fun _ _ h'=>h')) fun _ _ h'=>h'))) fun _ _ h'=>h')
theorem loop_two0 {elt t1 i1 t2 i2:Expr}{scope:Scope}{pos:Pos}{it acc:Value}{env:Env}(I:Nat→Shared→Prop)
  (turn:∀ n s,I n s→wpAny (model prog w) A (pyNext it) (fun r s₁=>match r with
   | none=>R (.ok .next) s₁
   | some v=>wpAny (model prog w) A (assign t1 env v) (fun _ s₂=>wpAny (model prog w) A (eval i2 env) (fun x s₃ =>
     wpAny (model prog w) A (pyIter x) (fun it2 s₄=>codeAny (model prog w) A (.compStart (two elt t1 i1 t2 i2 scope pos) 1 it2 acc env) (fun r s₅=>r=.ok .next∧∃ m,m < n∧I m s₅) s₄) (notedBy (model prog w) A env fun e s'=>R (.error e) s') s₃)
     (notedBy (model prog w) A env fun e s'=>R (.error e) s') s₂) (notedBy (model prog w) A env fun e s'=>R (.error e) s') s₁) (notedBy (model prog w) A env fun e s'=>R (.error e) s') s)
  (n:Nat) (h:I n s) (ht:∀ v,letOwnedTupleGo t1 it v=pure ():=by intro _;rfl) (hf:∀ x,foldedSetIterable i2 env x=pure x:=by intro _;rfl) :
  codeAny (model prog w) A (.compLoop (two elt t1 i1 t2 i2 scope pos) 0 it acc env) R s:=by
 refine codeAny_loop rfl I (fun n s hI=>?_) n h
 show wpAny _ A ((compTurn (two elt t1 i1 t2 i2 scope pos) 0 it acc env).onRaise (fun x=>do noteFrame x env;theTreesLotGoes x)) _ _ s
 refine wpAny_noted ?_
 rw [turn_two0]
 refine wpAny_bind (wpAny_standAt (wpAny_bind (wpAny_mono (turn n s hI) (fun r s₁ h₁=>?_) fun _ _ h'=>h')))
 cases r with
 | none=>exact wpAny_pure h₁
 | some v =>
  refine wpAny_bind (wpAny_of_eq (ht v) ?_)
  refine wpAny_bind (wpAny_mono h₁ (fun _ s₂ h₂=>wpAny_bind (wpAny_mono h₂ (fun x s₃ h₃=>wpAny_bind (wpAny_standAt (wpAny_bind (wpAny_of_eq (hf x) (wpAny_bind (wpAny_holding (wpAny_mono h₃ (fun it2 s₄ h₄=>?_) fun _ _ h'=>h'))))))) fun _ _ h'=>h')) fun _ _ h'=>h')
  refine wpAny_bind (wpAny_runOwn (h:=none) (codeAny_mono h₄ fun r s₅ h₅=>?_) (by intro x;cases x))
  obtain ⟨rfl,h₅⟩:=h₅
  exact wpAny_pure ⟨rfl,h₅⟩
theorem inner_two {t1 i1 i2:Expr}{y:Str}{py pe:Pos}{scope:Scope}{pos:Pos}{cl:List (Str × Addr)}{env:Env}{C D I2 T:Addr}{items ys:List Value}{m':Str→Option Value}
  (hh:A.handled=none) (hkind:scope.kind=.function) (hy:scope.names.lookup y=some .local) (hnd:(y==("__debug__":Str))=false) (hn:s.heap.Ns C m') (hD:s.heap.get? D=some (LCg.lst ys)) (hit:s.heap.IsTupleIter I2 T 0) (hT:s.heap.IsTuple T items.toArray)
  (hCD:C≠D) (hCI:I2≠C) (hDI:I2≠D) (hTI:T≠I2) (hTC:T≠C) (hTD:T≠D) (hsz:(ys++items).length≤sizeLine)
  (hR:∀ h' tk m'',(∀ b o,b≠C→b≠D→b≠I2→s.heap.get? b=some o→h'.get? b=some o)→h'.get? D=some (LCg.lst (ys++items))→h'.Ns C m''→R (.ok .next) { s with heap:=h',toks:=tk }) :
  codeAny (model prog w) A (.compLoop (two (.Name y pe) t1 i1 (.Name y py) i2 scope pos) 1 (.ref I2) (.ref D) (compEnvC scope cl C env)) R s:=by
 have W:=Walks.tuple (prog:=prog) (w:=w) hh I2 T hTI items.toArray
 have hlen:items.toArray.size=items.length:=by simp
 rw [hlen] at W
 refine loop_two1 (fun k s'=>∃ i h' tk m'',s'={ s with heap:=h',toks:=tk }∧i≤items.length∧k=items.length+1 - i∧(h'.IsTupleIter I2 T i∧h'.IsTuple T items.toArray)∧h'.get? D=some (LCg.lst (ys++items.take i))∧h'.Ns C m'' ∧
   (∀ b o,b≠C→b≠D→b≠I2→s.heap.get? b=some o→h'.get? b=some o)) ?_ (items.length+1) ⟨0,s.heap,s.toks,m',rfl,Nat.zero_le _,rfl,⟨hit,hT⟩,by simpa using hD,hn,fun _ _ _ _ _ e=>e⟩
 intro k s' hs'
 refine el4a7 hs' fun i h' tk m'' e hi e' hst hD' hn' hk'=>?_
 clear hs'
 subst e e'
 by_cases hlt:i < items.length
 ·refine W.item i _ _ _ hlt hst fun v h₂ tk₂ hPv hst₂ hk₂=>?_
  have hv:items[i]? = some v:=by simpa using hPv
  refine wpAny_assign_Name (wpAny_storeName_local (lookup_relabel_local hy) (hn'.at' fun o e=>hk₂ _ o (by simpa using Ne.symm hCI) e) (fun h₃ hn₃ hs₃=>?_) (by simp [compEnvC,relabel,hkind]))
  refine wpAny_Name (wpAny_loadName_local (by simp [compEnvC,relabel,hkind]) (lookup_relabel_local hy) hn₃ (v:=v) (by simp) ?_) hnd
  have zD:h₃.get? D=some (LCg.lst (ys++items.take i)):=hs₃.extBut _ _ (Ne.symm hCD) (hk₂ _ _ (by simpa using Ne.symm hDI) hD')
  have hst₃:h₃.IsTupleIter I2 T (i+1)∧h₃.IsTuple T items.toArray:=W.frame _ _ _ hst₂ fun b hb o e=>hs₃.extBut b o (fun q=>by
   have q':b=C:=q
   subst q'
   rcases iC hb with h | h
   ·exact hCI h.symm
   ·exact hTC (iS h).symm) e
  have l1:(ys++items.take i).length≤sizeLine:=by simp only [List.length_append,List.length_take] at hsz ⊢;walk_at "o"
  refine append_at (hsz:=by show (ys++items.take i).toArray.size≤sizeLine;rw [List.size_toArray];exact l1) zD fun h₅ hs₅ hD₅=>?_
  refine ⟨items.length+1 - (i+1),by walk_at "o",i+1,h₅,_,_,rfl,hlt,rfl,W.frame _ _ _ hst₃ fun b hb o e=>hs₅.extBut b o (fun q=>?_) e,?_,hn₃.sameBut hs₅ hCD,?_⟩
  ·have q':b=D:=q
   subst q'
   rcases iC hb with h | h
   ·exact hDI h.symm
   ·exact hTD (iS h).symm
  ·rw [hD₅.trans (congrArg some (LCg.lst_snoc _ v)),List.take_add_one,hv]
   simp
  ·intro b o h1 h2 h3 e
   exact hs₅.extBut _ _ h2 (hs₃.extBut _ _ h1 (hk₂ _ _ (by simpa using h3) (hk' b o h1 h2 h3 e)))
 ·obtain rfl:i=items.length:=Nat.le_antisymm hi (Nat.not_lt.mp hlt)
  refine W.done _ _ _ hst fun h₂ tk₂ hk₂=>?_
  refine hR h₂ tk₂ m'' (fun b o h1 h2 h3 e=>hk₂ _ _ (by simpa using h3) (hk' b o h1 h2 h3 e)) ?_ (hn'.at' fun o e=>hk₂ _ o (by simpa using Ne.symm hCI) e)
  rw [List.take_length] at hD'
  exact hk₂ _ _ (by simpa using Ne.symm hDI) hD'
noncomputable def TwoEnd (h₀:Heap)(L:Addr)(m:Str→Option Value)(s₁:Shared)(I:Addr)(oI:Obj)(C:Addr)(oC:Obj)(D:Addr)(ys:List Value)(J:List Value→List (Addr × Obj)→Prop)(xv:Value)(s₂:Shared):Prop :=
 ∃ T items h' tk' nx',xv=.ref T∧s₂={ s₁ with heap:=h',toks:=tk' }∧Fr h₀ L h' m∧News h₀ L h' ((I,oI)::(C,oC)::(D,LCg.lst ys)::nx')∧LCg.Off3 I C D nx'∧h'.IsTuple T (List.toArray items)∧(ys++items).length≤sizeLine∧J (ys++items) nx'
noncomputable def TwoSrc (prog:Program)(w:World)(A:Around)(h₀:Heap)(L:Addr)(m:Str→Option Value)(env:Env)(i2:Expr)(x:Str)(scope:Scope)(cl:List (Str × Addr))(z:Str)(Q:Flow→Shared→Prop)(xv:Value)(s₁:Shared):Prop :=
 ∃ (ax:Addr) (vs:List Value) (news:List (Addr × Obj)) (J:Nat→List Value→List (Addr × Obj)→Prop),xv=.ref ax∧Fr h₀ L s₁.heap m∧News h₀ L s₁.heap news∧LCg.SrcAt h₀ ax vs.toArray news∧vs.length≤sizeLine∧J 0 [] news ∧
   (∀ i ys nx,J i ys nx→LCg.SrcAt h₀ ax vs.toArray nx) ∧
   (∀ i v ys nx I oI C oC D m₂ h tk (E':Value→Shared→Prop),vs[i]? = some v→J i ys nx→LCg.NsObj oC m₂→m₂ x=some v→Fr h₀ L h m→News h₀ L h ((I,oI)::(C,oC)::(D,LCg.lst ys)::nx)→LCg.Off3 I C D nx→((@Ne Nat I C)∧(@Ne Nat I D)∧(@Ne Nat C D)) →
    wpAny (model prog w) A (eval i2 (compEnvC scope cl C env)) (TwoEnd h₀ L m s₁ I oI C oC D ys (J (i+1))) E' { s₁ with heap:=h,toks:=tk }) ∧
   (∀ ys nx,J vs.length ys nx→LCg.FinA h₀ L m s₁ z Q ys nx)
structure F3 (h₀:Heap)(L I C D:Addr):Prop where
 ci:@Ne Nat I C
 di:@Ne Nat I D
 dc:@Ne Nat D C
 dl:@Ne Nat D L
 cl:@Ne Nat C L
 il:@Ne Nat L I
 i0:h₀.get? I=none
 c0:h₀.get? C=none
 d0:h₀.get? D=none
noncomputable def CompGo (prog:Program)(w:World)(A:Around)(h₀:Heap)(m:Str→Option Value)(env:Env)(e:Expr)(scope:Scope)(cl:List (Str × Addr))(z:Str)(pz:Pos)(Q:Flow→Shared→Prop)(E:Value→Shared→Prop)(xv:Value)(s₁:Shared):Prop :=
 ∃ ax vs news,xv=.ref ax∧A.handled=none∧Fr h₀ env.locals s₁.heap m∧News h₀ env.locals s₁.heap news∧LCg.SrcAt h₀ ax vs news ∧
  ∀ I C D h₁ tk m₂,ax≠I→ax≠C→ax≠D→F3 h₀ env.locals I C D→Fr h₀ env.locals h₁ m→News h₀ env.locals h₁ ((D,LCg.lst [])::news)→LCg.Off3 I C D news→h₁.Ns C m₂→h₁.IsListIter I ax 0→h₁.IsList ax vs →
   codeAny (model prog w) A (.compLoop e 0 (.ref I) (.ref D) (compEnvC scope cl C env)) (compPost (model prog w) A E (some (assign (.Name z pz) env)) (fun _ s'=>Q .next s') (.ref D) C) { s₁ with heap:=h₁,toks:=tk }
theorem comp_start {h₀:Heap}{m:Str→Option Value}{env:Env}{E:Value→Shared→Prop}{elt tg i1:Expr}{gs:List Comprehension}{z:Str}{pz:Pos}{scope:Scope}{cl:List (Str × Addr)}{pos spos:Pos}{Q:Flow→Shared→Prop}
  (hsw:swapsWith (.ListComp elt (⟨tg,i1,[],0⟩::gs) scope pos) (some (.Name z pz)) spos.line env=pure true) (hclos:closureFor scope env=pure cl) (hcell:∀ z∈scope.names,z.2≠.cell) (hkind:scope.kind=.function)
  (hnames:∀ z∈scope.names,z.2=.local→scope.names.lookup z.1=some .local) (hs:∀ x,foldedSetIterable i1 env x=pure x)
  (h:wpAny (model prog w) A (eval i1 env) (CompGo prog w A h₀ m env (.ListComp elt (⟨tg,i1,[],0⟩::gs) scope pos) scope cl z pz Q E) E s):wpAny (model prog w) A (exec (.Assign [.Name z pz] (.ListComp elt (⟨tg,i1,[],0⟩::gs) scope pos) spos) env) Q E s:=by
 rw [exec_Assign_Name_used _ _ _ _ hsw]
 refine wpAny_bind (wpAny_standAt (wpAny_bind ?_))
 show wpAny _ A (do let _ ← comprehension (.ListComp elt (⟨tg,i1,[],0⟩::gs) scope pos) scope env _ (newList []) false (eval i1 env) (some (assign (.Name z pz) env))) _ _ s
 refine wpAny_bind (wpAny_mono (wpAny_comprehension_free (use:=some (assign (.Name z pz) env)) (Q:=fun _ s'=>Q .next s') rfl hs hclos hkind hnames
  (wpAny_mono h (fun xv s₁ h₁=>?_) fun _ _ e=>e)) (fun _ s' hq=>wpAny_pure (wpAny_pure hq)) fun _ _ e=>e)
 clear h hsw hclos hnames hs
 refine el3a6 h₁ fun ax vs news e hh F N S go=>?_
 clear h₁
 subst e
 have hl:=S.list F.keep N
 have hlt:ax < s₁.heap.objs.size:=by obtain ⟨_,e,_⟩:=hl;exact Heap.lt_size e
 refine wpAny_pyIter_list hl ?_
 refine wpAny_newObj_type (wpAny_newFunctionEnv hcell (by intro y hy;simp at hy) (fun h₁ hns₁ hsb₁=>?_) hkind)
 have sz:∀ {h:Heap} {o:Obj},(h.push o).objs.size=h.objs.size+1:=fun {h o}=>Heap.size_push ..
 have hI:=next_is_new F
 have fr:∀ a,s₁.heap.objs.size≤a→h₀.get? a=none:=fun a ha=>by
  cases e:h₀.get? a with
  | none=>rfl
  | some o'=>exact absurd (Heap.lt_size (F.keep a o' e)) (Nat.not_lt.mpr ha)
 have up:∀ b o,s₁.heap.get? b=some o→h₁.get? b=some o:=fun b o e=>hsb₁.extBut b o (by
  have:=Heap.lt_size e
  simp only [sz]
  exact Nat.ne_of_lt (Nat.lt_succ_of_lt (Nat.lt_succ_of_lt this))) (Heap.get?_push_of_some _ (Heap.get?_push_of_some _ (Heap.get?_push_of_some _ e)))
 have o1:s₁.heap.objs.size+1=(s₁.heap.push { cls:=.type "list_iterator",data:=.fields #[.ref ax,.int 0 0] }).objs.size:=(sz (h:=s₁.heap)).symm
 have lD:h₁.get? (s₁.heap.push { cls:=.type "list_iterator",data:=.fields #[.ref ax,.int 0 0] }).objs.size=some (LCg.lst []):=hsb₁.extBut _ _ (by rw [sz (o:={ cls:=.type "list",dict:=none,data:=.seq ([]:List Value).toArray })];exact Nat.ne_of_lt (Nat.lt_succ_self _)) (Heap.get?_push_of_some _ (Heap.get?_push_size _ rfl))
 have lI:h₁.IsListIter s₁.heap.objs.size ax 0:=⟨_,hsb₁.extBut _ _ (by simp only [sz];exact Nat.ne_of_lt (Nat.lt_succ_of_lt (Nat.lt_succ_self _))) (Heap.get?_push_of_some _ (Heap.get?_push_of_some _ (Heap.get?_push_size _ rfl))),rfl,rfl⟩
 have f3:F3 h₀ env.locals s₁.heap.objs.size ((s₁.heap.push { cls:=.type "list_iterator",data:=.fields #[.ref ax,.int 0 0] }).push { cls:=.type "list",dict:=none,data:=.seq ([]:List Value).toArray }).objs.size (s₁.heap.push { cls:=.type "list_iterator",data:=.fields #[.ref ax,.int 0 0] }).objs.size:=by
  rw [sz,sz]
  exact ⟨Nat.ne_of_lt (Nat.lt_succ_of_lt (Nat.lt_succ_self _)),Nat.ne_of_lt (Nat.lt_succ_self _),Nat.ne_of_lt (Nat.lt_succ_self _),Nat.ne_of_gt (Nat.lt_succ_of_lt F.ns.lt),Nat.ne_of_gt (Nat.lt_succ_of_lt (Nat.lt_succ_of_lt F.ns.lt)),Nat.ne_of_lt F.ns.lt,hI,fr _ (Nat.le_succ_of_le (Nat.le_succ _)),fr _ (Nat.le_succ _)⟩
 have lp:=go _ _ _ h₁ (s₁.toks+([]:List (Str × Value)).length) _ (Nat.ne_of_lt hlt) (by simp only [sz];exact Nat.ne_of_lt (Nat.lt_succ_of_lt (Nat.lt_succ_of_lt hlt))) (by simp only [sz];exact Nat.ne_of_lt (Nat.lt_succ_of_lt hlt)) f3 (F.keeps up) (fun p hp=>by
  rcases iC hp with rfl | hp
  ·exact ⟨lD,f3.dl,f3.d0⟩
  ·exact ⟨up _ _ (N p hp).1,(N p hp).2⟩) (LCg.Off3.of fun p hp=>by
  have:=Heap.lt_size (N p hp).1
  simp only [sz]
  exact ⟨Nat.ne_of_lt this,Nat.ne_of_lt (Nat.lt_succ_of_lt (Nat.lt_succ_of_lt this)),Nat.ne_of_lt (Nat.lt_succ_of_lt this)⟩) hns₁ lI (hl.at fun o e=>up _ _ e)
 have W:=Walks.list (prog:=prog) (w:=w) hh s₁.heap.objs.size ax (Nat.ne_of_lt hlt) vs
 exact codeAny_compStart_list lp (W.self 0 _ _ _ ⟨lI,hl.at fun o e=>up _ _ e⟩ lp)
theorem obj_ne {h:Heap}{a b:Addr}{o o':Obj}(e:h.get? a=some o)(e':h.get? b=some o')(n:o=o'→False):a≠b:=fun q=>n (Option.some.inj (e.symm.trans (q▸e')))
theorem Assign_two {h₀:Heap}{L:Addr}{m:Str→Option Value}{env:Env}{E:Value→Shared→Prop}{i1 i2:Expr}{x y z:Str}{px py pe pz:Pos}{scope:Scope}{cl:List (Str × Addr)}{pos spos:Pos}{Q:Flow→Shared→Prop}
  (F₀:Fr h₀ L s.heap m) (hLe:env.locals=L) (hh:A.handled=none)
  (hsw:swapsWith (two (.Name y pe) (.Name x px) i1 (.Name y py) i2 scope pos) (some (.Name z pz)) spos.line env=pure true)
  (hclos:closureFor scope env=pure cl) (hcell:∀ z∈scope.names,z.2≠.cell) (hkind:scope.kind=.function)
  (hnames:∀ z∈scope.names,z.2=.local→scope.names.lookup z.1=some .local) (hx:scope.names.lookup x=some .local) (hy:scope.names.lookup y=some .local) (hnd:(y==("__debug__":Str))=false)
  (hz:env.kindOf z=some .local) (hp:(env.scope.kind==.class || (env.scope.kind==.module&&env.locals != env.globals))=false)
  (h:wpAny (model prog w) A (eval i1 env) (TwoSrc prog w A h₀ L m env i2 x scope cl z Q) E s)
  (hs:∀ x,foldedSetIterable i1 env x=pure x:=by intro _;rfl) (hs2:∀ C x,foldedSetIterable i2 (compEnvC scope cl C env) x=pure x:=by intro _ _;rfl) :
  wpAny (model prog w) A (exec (.Assign [.Name z pz] (two (.Name y pe) (.Name x px) i1 (.Name y py) i2 scope pos) spos) env) Q E s:=by
 subst hLe
 refine comp_start (h₀:=h₀) (m:=m) hsw hclos hcell hkind hnames hs (wpAny_mono h (fun xv s₁ h₁=>?_) fun _ _ e=>e)
 clear h hsw hclos hcell hnames
 refine el4a9 h₁ fun ax vs news J e F N S hsz hJ hJS turn fin=>?_
 clear h₁
 subst e
 refine ⟨ax,vs.toArray,news,rfl,hh,F,N,S,fun I C D h₁ tk m₂ hIlt1 _ _ f3 F₁ N₁ off₀ hns₁ hIt hL=>?_⟩
 clear F N S
 have W:=Walks.list (prog:=prog) (w:=w) hh I ax hIlt1 vs.toArray
 have hlen:vs.toArray.size=vs.length:=by simp
 rw [hlen] at W
 obtain ⟨hCI,hDI,hDC,hDL,hCL,hIL,hI₀,hC₀,hD₀⟩:=f3
 refine loop_two0
  (fun k s'=>∃ h' tk i ys m' news',s'={ s₁ with heap:=h',toks:=tk }∧i≤vs.length∧k=vs.length+1 - i∧(h'.IsListIter I ax i∧h'.IsList ax vs.toArray)∧Fr h₀ env.locals h' m∧h'.Ns C m'∧News h₀ env.locals h' ((D,LCg.lst ys)::news') ∧
   LCg.Off3 I C D news'∧J i ys news') ?_ (vs.length+1)
  ⟨h₁,tk,0,[],_,news,rfl,Nat.zero_le _,rfl,⟨hIt,hL⟩,F₁,hns₁,N₁,off₀,hJ⟩ (hf:=hs2 C)
 ·intro k s' hs'
  refine el6a9 hs' fun h' tk i ys m' news' e hi e' hst' F' hn' N' off' hJ'=>?_
  clear hs'
  subst e e'
  by_cases hlt:i < vs.length
  ·refine W.item i _ _ _ hlt hst' fun v h₂ tk₂ hPv hst₂ hk₂=>?_
   have hv:vs[i]? = some v:=by simpa using hPv
   refine wpAny_assign_Name (wpAny_storeName_local (lookup_relabel_local hx) (hn'.at' fun o e=>hk₂ _ o (by simpa using Ne.symm hCI) e) (fun h₃ hn₃ hs₃=>?_) (by simp [compEnvC,relabel,hkind]))
   have hS':=hJS _ _ _ hJ'
   have off3:=off'.mem
   have N₂:News h₀ env.locals h₂ ((D,LCg.lst ys)::news'):=LCg.news_but N' hk₂ fun p hp=>by
    rcases iC hp with rfl | hp
    ·exact Ne.symm hDI
    ·exact (off3 p hp).1
   have hiter₃:h₃.IsListIter I ax (i+1):=hst₂.1.at fun o e=>hs₃.extBut I o hCI e
   obtain ⟨oI,heI,hcI⟩:=id hiter₃
   obtain ⟨oC,heC,hoC⟩:=LCg.ns_obj hn₃
   have F₃:Fr h₀ env.locals h₃ m:=(LCg.fr_but F' hk₂ hIL hI₀).change hs₃ hCL hC₀
   have N₃:News h₀ env.locals h₃ ((I,oI)::(C,oC)::(D,LCg.lst ys)::news'):=fun p hp=>by
    rcases iC hp with rfl | hp
    ·exact ⟨heI,Ne.symm hIL,hI₀⟩
    ·rcases iC hp with rfl | hp
     ·exact ⟨heC,hCL,hC₀⟩
     ·have z:=N₂ p hp
      refine ⟨hs₃.extBut _ _ ?_ z.1,z.2⟩
      rcases iC hp with rfl | hp
      ·exact fun h=>hDC h
      ·exact (off3 p hp).2.1
   refine wpAny_mono (turn i v ys news' I oI C oC D _ h₃ _ _ hv hJ' hoC (by simp) F₃ N₃ off' ⟨hCI,hDI,Ne.symm hDC⟩) (fun xv s₄ hx4=>?_) fun _ _ e=>e
   refine el5a8 hx4 fun T items h₄ tk₄ news₄ e e' F₄ N₄ off₄ hT₄ hsz₄ hJ₄=>?_
   clear hx4
   subst e e'
   have zI:=(N₄ (I,oI) List.mem_cons_self).1
   have zC:=(N₄ (C,oC) (List.mem_cons_of_mem _ List.mem_cons_self)).1
   have zD:=(N₄ (D,LCg.lst ys) (List.mem_cons_of_mem _ (List.mem_cons_of_mem _ List.mem_cons_self))).1
   obtain ⟨oT,heT,hcT,nT,hdT⟩:=id hT₄
   have hTD:T≠D:=obj_ne heT zD fun q=>absurd (show Value.type "list"=Value.type "tuple" from (congrArg Obj.cls q).symm.trans hcT) (by decide)
   have hTI:T≠I:=obj_ne heT zI fun q=>absurd (hcI.1.symm.trans ((congrArg Obj.cls q).symm.trans hcT)) (by decide)
   have hTC:T≠C:=obj_ne heT zC fun q=>by
    obtain ⟨_,_,hd,_⟩:=hoC
    exact nomatch hd.symm.trans ((congrArg Obj.data q).symm.trans hdT)
   refine wpAny_pyIter_tuple hT₄ ?_
   have lt4:∀ {b o},h₄.get? b=some o→b≠h₄.objs.size:=fun e=>Nat.ne_of_lt (Heap.lt_size e)
   have up4:∀ b o,h₄.get? b=some o→(h₄.push { cls:=.type "tuple_iterator",data:=.fields #[.ref T,.int 0 0] }).get? b=some o:=fun b o e=>Heap.get?_push_of_some _ e
   have hI2:(h₄.push { cls:=.type "tuple_iterator",data:=.fields #[.ref T,.int 0 0] }).IsTupleIter h₄.objs.size T 0:=⟨_,Heap.get?_push_size _ rfl,rfl,rfl⟩
   have hend:∀ (s5:Shared),s5={ s₁ with heap:=h₄.push { cls:=.type "tuple_iterator",data:=.fields #[.ref T,.int 0 0] },toks:=tk₄ }→codeAny (model prog w) A (.compLoop (two (.Name y pe) (.Name x px) i1 (.Name y py) i2 scope pos) 1 (.ref h₄.objs.size) (.ref D) (compEnvC scope cl C env)) (fun r s₅=>r=.ok .next∧∃ m_1,m_1 < vs.length+1 - i∧∃ h' tk i ys m' news',s₅={ s₁ with heap:=h',toks:=tk }∧i≤vs.length∧m_1=vs.length+1 - i∧(h'.IsListIter I ax i∧h'.IsList ax vs.toArray)∧Fr h₀ env.locals h' m∧h'.Ns C m'∧News h₀ env.locals h' ((D,LCg.lst ys)::news')∧LCg.Off3 I C D news'∧J i ys news') s5:=by
    rintro s5 rfl
    refine inner_two hh hkind hy hnd ((hoC.ns zC).at' fun o e=>up4 _ _ e) (up4 _ _ zD) hI2 (hT₄.at fun o e=>up4 _ _ e) (Ne.symm hDC) (Ne.symm (lt4 zC)) (Ne.symm (lt4 zD)) (lt4 heT) hTC hTD hsz₄ fun h' tk m'' hk hD' hn''=>?_
    have hk':∀ b o,b≠C→b≠D→h₄.get? b=some o→h'.get? b=some o:=fun b o h1 h2 e=>hk b o h1 h2 (lt4 e) (up4 b o e)
    have F5:Fr h₀ env.locals h' m:=⟨F₄.ns.at' fun o e=>hk' _ o (Ne.symm hCL) (Ne.symm hDL) e,fun b o e=>hk' b o (fun q=>by rw [q,hC₀] at e;cases e) (fun q=>by rw [q,hD₀] at e;cases e) (F₄.keep b o e),F₄.above⟩
    have off4:=off₄.mem
    refine ⟨rfl,vs.length+1 - (i+1),by walk_at "o",h',tk,i+1,ys++items,m'',news₄,rfl,hlt,rfl,?_,F5,hn'',fun p hp=>?_,off₄,hJ₄⟩
    ·refine ⟨⟨oI,hk' _ _ hCI hDI zI,hcI⟩,?_⟩
     exact (hJS _ _ _ hJ₄).list F5.keep (fun p hp=>by
      have z:=N₄ p (List.mem_cons_of_mem _ (List.mem_cons_of_mem _ (List.mem_cons_of_mem _ hp)))
      exact ⟨hk' _ _ (off4 p hp).2.1 (off4 p hp).2.2 z.1,z.2⟩)
    ·rcases iC hp with rfl | hp
     ·exact ⟨hD',hDL,hD₀⟩
     ·have z:=N₄ p (List.mem_cons_of_mem _ (List.mem_cons_of_mem _ (List.mem_cons_of_mem _ hp)))
      exact ⟨hk' _ _ (off4 p hp).2.1 (off4 p hp).2.2 z.1,z.2⟩
   refine start_two1 (hend _ rfl) ?_
   exact wpAny_pyIter_tupleiter hI2 (hend _ rfl)
  ·obtain rfl:i=vs.length:=Nat.le_antisymm hi (Nat.not_lt.mp hlt)
   refine W.done _ _ _ hst' fun h₂ tk₂ hk₂=>?_
   have off3:=off'.mem
   have F₂:=LCg.fr_but F' hk₂ hIL hI₀
   have hn₂:h₂.Ns C m':=hn'.at' fun o e=>hk₂ _ o (by simpa using Ne.symm hCI) e
   have N₂:News h₀ env.locals h₂ ((D,LCg.lst ys)::news'):=LCg.news_but N' hk₂ fun p hp=>by
    rcases iC hp with rfl | hp
    ·exact Ne.symm hDI
    ·exact (off3 p hp).1
   show wpAny _ A (assign (.Name z pz) env (.ref D)) _ _ _
   refine wpAny_assign_Name (wpAny_storeName_local hz F₂.ns (fun h₅ hn₅ hs₅=>?_) hp)
   have hL₀:h₀.get? env.locals=none:=Heap.get?_none_of_le F₂.above
   have F₅:Fr h₀ env.locals h₅ (fun q=>if q=z then some (.ref D) else m q):=⟨hn₅,fun b o e=>hs₅.extBut b o (fun q=>by rw [q,hL₀] at e;cases e) (F₂.keep b o e),F₂.above⟩
   refine ⟨m',hn₂.sameBut hs₅ hCL,fun h'' hs''=>fin _ _ hJ' D h'' _ (F₅.change hs'' hCL hC₀) (fun p hp=>?_) off'.one⟩
   have zz:h₅.get? p.1=some p.2:=hs₅.extBut _ _ (N₂ p hp).2.1 (N₂ p hp).1
   refine ⟨hs''.extBut _ _ ?_ zz,(N₂ p hp).2⟩
   rcases iC hp with rfl | hp
   ·exact hDC
   ·exact (off3 p hp).2.1
end
end Mine
end
section
namespace Mine
section
variable {prog:Program}{w:World}{A:Around}{E:Value→Shared→Prop}{s:Shared}{h₀:Heap}{L:Addr}{m:Str→Option Value}{news:List (Addr × Obj)}
noncomputable def Rd (n:Nat)(h:Heap)(v:Value):Prop:=∃ d as,Reads h v d as∧d.canLay0=true∧d.depth≤n
theorem Rd.int {n:Nat}{h:Heap}{i:Int}{t:Tok}:Rd n h (.int i t):=⟨_,_,.int i t,by simp [PyData.canLay0],by simp [PyData.depth]⟩
theorem rd_all {n:Nat}{h:Heap}:∀ {vs:List Value},(∀ v∈vs,Rd n h v)→∃ ds as,ReadsAll h vs ds as∧PyData.canLayAll0 ds=true∧PyData.depthAll ds≤n
 | [],_=>⟨[],[],.nil,by simp [PyData.canLayAll0],by simp [PyData.depthAll]⟩
 | v::r,H=>by
  obtain ⟨d,a1,h1,h2,h3⟩:=H v (.head _)
  obtain ⟨ds,a2,k1,k2,k3⟩:=rd_all (vs:=r) fun x hx=>H x (.tail _ hx)
  refine ⟨d::ds,a1++a2,.cons h1 k1,?_,?_⟩
  ·simp [PyData.canLayAll0,h2,k2]
  ·simp only [PyData.depthAll];walk_at "o"
theorem Rd.tup {n:Nat}{h:Heap}{a:Addr}{vs:List Value}(ht:IsTup h a vs.toArray)(H:∀ v∈vs,Rd n h v):Rd (n+1) h (.ref a):=by
 obtain ⟨ds,as,k1,k2,k3⟩:=rd_all H
 obtain ⟨o,e,hc,m,hd⟩:=ht
 refine ⟨.tuple ds,as,reads_tuple_at e hc hd k1,?_,?_⟩
 ·simp only [PyData.canLay0];exact k2
 ·simp only [PyData.depth];walk_at "o"
theorem rd_list {n:Nat}{h:Heap}{a:Addr}{vs:List Value}(ht:h.IsList a vs.toArray)(hn:n < 60)(H:∀ v∈vs,Rd n h v):∃ ds as,Reads h (.ref a) (.list ds) as∧ds.length=vs.length∧SeqAt.shaped (.list ds)=true:=by
 obtain ⟨ds,as,k1,k2,k3⟩:=rd_all H
 obtain ⟨o,e,hc,m,hd⟩:=ht
 refine ⟨ds,_,reads_list_at e hc hd k1,?_,?_⟩
 ·clear k2 k3 e hd H
  generalize vs=xs at k1
  have:∀ {xs:List Value} {ds:List PyData} {as:List Addr},ReadsAll h xs ds as→ds.length=xs.length:=by
   intro xs
   induction xs with
   | nil=>intro ds as k;cases k;rfl
   | cons x r ih=>intro ds as k;cases k with | cons _ k=>simp [ih k]
  exact this k1
 ·simp only [SeqAt.shaped,PyData.canLay0,PyData.depth,k2,Bool.true_and];exact decide_eq_true (by walk_at "o")
theorem eq_nil {n:Nat}{a e:Addr}{vs:List Value}{Q:Value→Shared→Prop}(ha:s.heap.IsList a vs.toArray)(he:s.heap.IsList e ([]:List Value).toArray)(hn:n < 60)(H:∀ v∈vs,Rd n s.heap v)(hu:A.units+64 < cLine)
  (h:Q (.bool (decide (vs=[]))) s):wpAny (model prog w) A (compareOp .Eq (.ref a) (.ref e)) Q E s:=by
 obtain ⟨ds,as,r1,r2,r3⟩:=rd_list ha hn H
 obtain ⟨es,bs,q1,q2,q3⟩:=rd_list (n:=0) he (by walk_at "o") (fun v hv=>nomatch hv)
 refine eq_dataH r1 q1 r3 q3 hu ?_
 have e0:es=[]:=iN q2
 subst e0
 have:PyData.eqv (.list ds) (.list [])=decide (vs=[]):=by
  cases ds with
  | nil =>
   have:vs=[]:=iN r2.symm
   subst this
   simp [PyData.eqv,PyData.eqvAll]
  | cons d r =>
   have:vs≠[]:=by rintro rfl;simp at r2
   simp [PyData.eqv,PyData.eqvAll,this]
 rw [this];exact h
theorem ne_nil {n:Nat}{a e:Addr}{vs:List Value}{Q:Value→Shared→Prop}(ha:s.heap.IsList a vs.toArray)(he:s.heap.IsList e ([]:List Value).toArray)(hn:n < 60)(H:∀ v∈vs,Rd n s.heap v)(hu:A.units+64 < cLine)
  (h:Q (.bool (!decide (vs=[]))) s):wpAny (model prog w) A (compareOp .NotEq (.ref a) (.ref e)) Q E s:=by
 obtain ⟨ds,as,r1,r2,r3⟩:=rd_list ha hn H
 obtain ⟨es,bs,q1,q2,q3⟩:=rd_list (n:=0) he (by walk_at "o") (fun v hv=>nomatch hv)
 refine ne_dataH r1 q1 r3 q3 hu ?_
 have e0:es=[]:=iN q2
 subst e0
 have:PyData.eqv (.list ds) (.list [])=decide (vs=[]):=by
  cases ds with
  | nil =>
   have:vs=[]:=iN r2.symm
   subst this
   simp [PyData.eqv,PyData.eqvAll]
  | cons d r =>
   have:vs≠[]:=by rintro rfl;simp at r2
   simp [PyData.eqv,PyData.eqvAll,this]
 rw [this];exact h
theorem pair_reads {h:Heap}{a:Addr}{x y:Int}(ht:Tup2 h a x y):∃ as,Reads h (.ref a) (.tuple [.int x,.int y]) as:=by
 obtain ⟨t,u,o,e,hc,m,hd⟩:=ht
 exact ⟨_,reads_tuple_at e hc hd (.cons (.int x t) (.cons (.int y u) .nil))⟩
theorem pair_eqv {x y x' y':Int}:PyData.eqv (.tuple [.int x,.int y]) (.tuple [.int x',.int y'])=decide (x=x'∧y=y'):=by
 simp only [PyData.eqv,PyData.eqvAll,Bool.and_true]
 by_cases h:x=x' <;> by_cases h':y=y' <;> simp [h,h']
theorem eq_pair {a b:Addr}{x y x' y':Int}{Q:Value→Shared→Prop}(ha:Tup2 s.heap a x y)(hb:Tup2 s.heap b x' y')(hu:A.units+64 < cLine)(h:Q (.bool (decide (x=x'∧y=y'))) s) :
  wpAny (model prog w) A (compareOp .Eq (.ref a) (.ref b)) Q E s:=by
 obtain ⟨as,r1⟩:=pair_reads ha
 obtain ⟨bs,r2⟩:=pair_reads hb
 exact eq_dataH r1 r2 (by simp [SeqAt.shaped,PyData.canLay0,PyData.canLayAll0,PyData.depth,PyData.depthAll]) (by simp [SeqAt.shaped,PyData.canLay0,PyData.canLayAll0,PyData.depth,PyData.depthAll]) hu (by rw [pair_eqv];exact h)
theorem ne_pair {a b:Addr}{x y x' y':Int}{Q:Value→Shared→Prop}(ha:Tup2 s.heap a x y)(hb:Tup2 s.heap b x' y')(hu:A.units+64 < cLine)(h:Q (.bool (!decide (x=x'∧y=y'))) s) :
  wpAny (model prog w) A (compareOp .NotEq (.ref a) (.ref b)) Q E s:=by
 obtain ⟨as,r1⟩:=pair_reads ha
 obtain ⟨bs,r2⟩:=pair_reads hb
 exact ne_dataH r1 r2 (by simp [SeqAt.shaped,PyData.canLay0,PyData.canLayAll0,PyData.depth,PyData.depthAll]) (by simp [SeqAt.shaped,PyData.canLay0,PyData.canLayAll0,PyData.depth,PyData.depthAll]) hu (by rw [pair_eqv];exact h)
theorem Rd.pair {n:Nat}{h:Heap}{a:Addr}{x y:Int}(ht:Tup2 h a x y):Rd (n+1) h (.ref a):=by
 obtain ⟨t,u,H⟩:=ht
 exact Rd.tup (vs:=[.int x t,.int y u]) H (List.forall_mem_cons.mpr ⟨Rd.int,List.forall_mem_cons.mpr ⟨Rd.int,List.forall_mem_nil _⟩⟩)
theorem item_last {value slice:PySem.Expr}{l:Addr}{ys:List Value}{u:Tok}{v:Value}{Q:Value→Shared→Prop}
  (hl:s.heap.IsList l (ys++[v]).toArray) (h:Q v s)
  (hs:subscripted slice false (.ref l) (.int (-1) u)=operate [.ref l,.int (-1) u] (getItem (.ref l) (.int (-1) u)):=by with_unfolding_all rfl) :
  wpAny (model prog w) A (subscriptTail value slice (.ref l) (.int (-1) u)) Q E s:=by
 refine tail_any hl.typeIs slot_list_getitem.lookup (wpAny_getItem_list_neg hl (by decide) (by simp;walk_at "o") (by decide) ?_ h) hs
 have e:(-1+((ys++[v]).toArray.size:Int)).toNat=ys.length:=by simp;walk_at "o"
 rw [e];simp
end
end Mine
end
section
namespace Mine
section
variable {prog:Program}{w:World}{A A₀:Around}{E:Value→Shared→Prop}{s:Shared}{h₀ base:Heap}{L:Addr}{m:Str→Option Value}{news:List (Addr × Obj)}
theorem code_defCG {K:Frag}{p:Program}{loose:List Str}{mean:ExcName→Option Value}{mg mb:Str→Option Value}{env:Env}{outer:List Env}{R:Result→Shared→Prop}{name qual:Str}{params:Arguments}{body:List Stmt}{scope:Scope}{dV kV doc pm cdv ct oc:Value}{an od:Option Addr}{osl:Array (Option Value)}{f:Addr}{args:Args}{binds:List (Str × Value)}
  (B:Below A₀ base outer h₀) (F:Fr h₀ L s.heap m) (X₀:K.In h₀) (N:News h₀ L s.heap news) (T:Top p loose mean mg mb h₀) (hA:A.frames=some (env::outer)) (hf:env.frame=some L) (hke:env.scope.kind=.function)
  (ho:K.lookup f=some ⟨oc,od,.func (fnOf name qual params body scope dV kV doc pm an cdv ct),osl⟩) (hcd:codeIn K cdv qual=true) (hroom:A.depth < recursionLimit)
  (hbind:BindsTo s (fnOf name qual params body scope dV kV doc pm an cdv ct) args binds) (hkind:(binds.all fun y=>scope.names.lookup y.1==some .local || scope.names.lookup y.1==some .cell)=true)
  (hnd:((cellsFrom 0 scope.names []).map (·.1)).Nodup)
  (h:∀ g L' h₁ tk cells,Fr h₀ L g m→Fr g L' h₁ (bindL (envOfC qual scope L' f cdv).kindOf binds fun _=>none)→News g L' h₁ (cells++news) →
   CellsAre (bindC (envOfC qual scope L' f cdv).kindOf binds fun _=>none) (cellsFrom (L'+1) scope.names []) cells→Below A base (env::outer) g→K.In g→Top p loose mean mg mb g→(∀ p∈news,p.1 < L')→GSub s.heap g (news.map (·.1)) →
   wpAny (model prog w) (A.deeper (envOfC qual scope L' f cdv)) (execs body (envOfC qual scope L' f cdv))
    (fun fl s'=>LeaveK h₀ L m g R (match fl with | .ret v=>v | _=>.none) s')
    (fun e s'=>wpAny (model prog w) (A.deeper (envOfC qual scope L' f cdv)) (leaving (envOfC qual scope L' f cdv) e) (fun _ s''=>R (.error e) s'') (fun e' s''=>R (.error e') s'') s')
    { s with heap:=h₁,toks:=tk })
  (hco:scope.isCoroutine=false) (hgen:scope.isGenerator=false) (hk:scope.kind=.function):codeAny (model prog w) A (.call (.ref f) args) R s:=by
 obtain ⟨FG,BG,st,lv⟩:=groundX (R:=R) B F N hA hf hke
 refine codeAny_call_function hroom ((X₀.keeps F.keep) _ _ ho) rfl hco hgen rfl (codeRec_of (X₀.keeps F.keep) hcd) (hbind _ _ _ _ ?_)
 refine wpAny_newFunctionEnv_cells hk (kindsX hkind _) fun env' he s' x=>?_
 subst he
 refine ⟨(T.nolimit.keeps F.keep).keeps x.toInCall.keep,codeAny_func ?_⟩
 obtain ⟨h₁,tk,rfl,_⟩:=x.done
 have hk₁:=x.toInCall.keep
 obtain ⟨cells,NC,Y⟩:=Cl.news (h₀:=s.heap) (Nat.le_refl _) fun n c hm=>⟨x.cell n c (lookup_of_mem_nodup (cellsFrom_names scope.names 0 (s.heap.objs.size+1) [] [] rfl▸hnd) hm),x.above n c hm⟩
 refine wpAny_mono (h _ s.heap.objs.size h₁ tk cells FG ⟨x.toInCall.ns,fun b o e=>hk₁ b o (of_hideAll _ e),Nat.le_of_eq (hideAll_size _ _)⟩ (fun q hq=>?_) Y BG (X₀.keeps st) (T.keeps st) (fun q hq=>Heap.lt_size (N q hq).1) (fun b o e n=>hideAll_get _ e n)) (fun fl s' hl=>lv _ _ hl) fun _ _ y=>y
 rcases iA hq with hq | hq
 ·refine ⟨(NC q hq).1,(NC q hq).2.1,?_⟩
  cases e:(hideAll s.heap (news.map (·.1))).get? q.1 with
  | none=>rfl
  | some o=>have:=of_hideAll _ e;rw [(NC q hq).2.2] at this;cases this
 ·exact ⟨hk₁ _ _ (N q hq).1,Nat.ne_of_lt (Heap.lt_size (N q hq).1),hideAll_none _ (List.mem_map_of_mem hq)⟩
theorem last_snoc:∀ (p:List Value) (y:Value),kl_last (p++[y])=some (p,y)
 | [],_=>rfl
 | x::r,y=>by
  show kl_last (x::(r++[y]))=_
  unfold kl_last
  rw [last_snoc r y]
theorem nt_ne {h₀ h:Heap}{L:Addr}{all nt:List (Addr × Obj)}{b:Addr}{o:Obj}(N:News h₀ L h all)(hs:∀ q∈nt,q∈all)(ht:∀ q∈nt,q.2.cls=.type "tuple")(hm:(b,o)∈all)(ho:o.cls≠.type "tuple"):∀ q∈nt,q.1≠b:=by
 rintro q hq rfl
 have h1:=(N q (hs q hq)).1
 rw [(N _ hm).1] at h1
 have h2:o=q.2:=Option.some.inj h1
 exact ho (h2▸ht q hq)
end
end Mine
end
section
namespace Mine
section
variable {prog:Program}{w:World}{A:Around}{E:Value→Shared→Prop}{s:Shared}{env:Env}{h₀:Heap}{body:List Stmt}{Q:Flow→Shared→Prop}{m₀:Str→Option Value}{news:List (Addr × Obj)}
theorem comp_pairs {L:Addr}{m:Str→Option Value}{elt:Expr}{x x₂:Str}{scope:Scope}{cl:List (Str × Addr)}{S:List (Addr × Obj)→Prop}{P:Nat→Value→Prop}{Fin:List Value→List (Addr × Obj)→Prop}{n:Nat}
  (J:Nat→List Value→List (Addr × Obj)→Prop) (hJ:J 0 [] news)
  (turn:∀ i v ys nx,i < n→P i v→J i ys nx→∃ (t:Addr) (ot:Obj) (v₁ v₂:Value) (nt:Nat),v=.ref t∧(t,ot)∈nx∧ot.cls=.type "tuple"∧ot.data=.seq #[v₁,v₂] nt ∧
   ∀ I oI C oC D m₂ h tk (E':Value→Shared→Prop),LCg.NsObj oC m₂→m₂ x=some v₁→m₂ x₂=some v₂→Fr h₀ L h m→News h₀ L h ((I,oI)::(C,oC)::(D,LCg.lst ys)::nx)→LCg.Off3 I C D nx→((@Ne Nat I C)∧(@Ne Nat I D)∧(@Ne Nat C D)) →
   wpAny (model prog w) A (eval elt (compEnvC scope cl C env)) (LCg.CompEnd h₀ L m { s with heap:=h,toks:=tk } I oI C oC D (LCg.lst ys) S (fun y nx'=>J (i+1) (ys++[y]) nx')) E' { s with heap:=h,toks:=tk })
  (fin:∀ ys nx,J n ys nx→Fin ys nx):LCp.CompRestP prog w A h₀ L m env elt x x₂ scope cl s S P Fin n 0 [] news:=by
 have key:∀ (j i:Nat) (ys:List Value) (nx:List (Addr × Obj)),i+j=n→J i ys nx→LCp.CompRestP prog w A h₀ L m env elt x x₂ scope cl s S P Fin j i ys nx:=by
  intro j
  induction j with
  | zero =>
   intro i ys nx hi hy
   have e:i=n:=by walk_at "o"
   subst e
   exact LCp.CompRestP.zero (fin ys nx hy)
  | succ j ih =>
   intro i ys nx hi hy
   refine LCp.CompRestP.succ ?_
   intro v hv
   obtain ⟨t,ot,v₁,v₂,nt,e,hm,hc,hd,tr⟩:=turn i v ys nx (by walk_at "o") hv hy
   refine ⟨t,ot,v₁,v₂,nt,e,hm,hc,hd,fun I oI C oC D m₂ h tk E' hC hx hx2 F N off ne=>wpAny_mono (tr I oI C oC D m₂ h tk E' hC hx hx2 F N off ne) (fun y s₂ hq=>?_) fun _ _ e=>e⟩
   obtain ⟨h',tk',nw,e,F',N',off',hS,hn⟩:=hq
   exact ⟨h',tk',nw,e,F',N',off',hS,ih (i+1) _ _ (by walk_at "o") hn⟩
 exact key n 0 [] news (by walk_at "o") hJ
theorem comp_test {L:Addr}{m:Str→Option Value}{ct elt:Expr}{x:Str}{scope:Scope}{cl:List (Str × Addr)}{S:List (Addr × Obj)→Prop}{P:Nat→Value→Prop}{Fin:List Value→List (Addr × Obj)→Prop}{n:Nat}
  (J:Nat→List Value→List (Addr × Obj)→Prop) (hJ:J 0 [] news)
  (turn:∀ i v ys nx I oI C oC D m₂ h tk (E':Value→Shared→Prop),i < n→P i v→J i ys nx→LCg.NsObj oC m₂→m₂ x=some v→Fr h₀ L h m→News h₀ L h ((I,oI)::(C,oC)::(D,LCg.lst ys)::nx)→LCg.Off3 I C D nx→((@Ne Nat I C)∧(@Ne Nat I D)∧(@Ne Nat C D)) →
   wpAny (model prog w) A (isTrue ct (compEnvC scope cl C env) (eval ct (compEnvC scope cl C env))) (fun ok s'=>if ok=true then
    wpAny (model prog w) A (eval elt (compEnvC scope cl C env)) (LCg.CompEnd h₀ L m { s with heap:=h,toks:=tk } I oI C oC D (LCg.lst ys) S (fun y nx'=>J (i+1) (ys++[y]) nx')) E' s'
    else LCg.CompEnd h₀ L m { s with heap:=h,toks:=tk } I oI C oC D (LCg.lst ys) S (fun _ nx'=>J (i+1) ys nx') Value.none s') E' { s with heap:=h,toks:=tk })
  (fin:∀ ys nx,J n ys nx→Fin ys nx):LCt.CompRestT prog w A h₀ L m env ct elt x scope cl s S P Fin n 0 [] news:=by
 have key:∀ (j i:Nat) (ys:List Value) (nx:List (Addr × Obj)),i+j=n→J i ys nx→LCt.CompRestT prog w A h₀ L m env ct elt x scope cl s S P Fin j i ys nx:=by
  intro j
  induction j with
  | zero =>
   intro i ys nx hi hy
   have e:i=n:=by walk_at "o"
   subst e
   exact LCt.CompRestT.zero (fin ys nx hy)
  | succ j ih =>
   intro i ys nx hi hy
   refine LCt.CompRestT.succ ?_
   intro v I oI C oC D m₂ h tk E' hv hC hx F N off ne
   refine wpAny_mono (turn i v ys nx I oI C oC D m₂ h tk E' (by walk_at "o") hv hy hC hx F N off ne) (fun ok s' hq=>?_) fun _ _ e=>e
   by_cases hok:ok=true
   ·rw [if_pos hok] at hq ⊢
    refine wpAny_mono hq (fun y s₂ hq=>?_) fun _ _ e=>e
    obtain ⟨h',tk',nw,e,F',N',off',hS,hn⟩:=hq
    exact ⟨h',tk',nw,e,F',N',off',hS,ih (i+1) _ _ (by walk_at "o") hn⟩
   ·rw [if_neg hok] at hq ⊢
    obtain ⟨h',tk',nw,e,F',N',off',hS,hn⟩:=hq
    exact ⟨h',tk',nw,e,F',N',off',hS,ih (i+1) _ _ (by walk_at "o") hn⟩
 exact key n 0 [] news (by walk_at "o") hJ
end
end Mine
end
section
open Builtin Builtin.ObjectAttr
namespace Mine
section
variable {M:Model}{A:Around}{E:Value→Shared→Prop}{h:Heap}{g:Array GenState}{d:Drawn}{t:Nat}{os:OsState}
variable {nm q:Str}{C N:Addr}{bs bm bmB:List Value}{sn:List Str}{sub:List Value}{ab:Bool}{col:Option Bool}{dd:Option Addr}{k0 k1 k2 k3 k5:Option Value}{newId:String}
structure TC where
 nm:Str
 q:Str
 N:Addr
 bs:List Value
 sn:List Str
 sub:List Value
 ab:Bool
 col:Option Bool
 dd:Option Addr
 k0:Option Value
 k1:Option Value
 k2:Option Value
 k3:Option Value
 k5:Option Value
 A:Addr
 c0:Value
 dA:Option Addr
 cd:ClassData
 sl:Array (Option Value)
structure Two (h:Heap)(C:Addr)(bmB:List Value)(c:TC)(mN mA:Str→Option Value):Prop where
 o:h.get? C=some (excClassObj c.nm c.q C c.N c.bs (.ref c.A::bmB) true c.sn c.sub c.ab c.col c.dd c.k0 c.k1 c.k2 c.k3 c.k5 "Exception.__new__")
 n:h.Ns c.N mN
 a:h.get? c.A=some { cls:=c.c0,dict:=c.dA,data:=.cls c.cd,slots:=c.sl }
 m:h.Ns c.cd.ns mA
theorem Two.keeps {h':Heap}{c:TC}{mN mA:Str→Option Value}(T:Two h C bmB c mN mA)(k:∀ b o,h.get? b=some o→h'.get? b=some o):Two h' C bmB c mN mA:=⟨k _ _ T.o,T.n.keeps k,k _ _ T.a,T.m.keeps k⟩
theorem two_lookup {B:String}{name:Str}{mN mA:Str→Option Value}{y:Option Value}{Q:Option Value→Shared→Prop}{c:TC}(T:Two h C bmB c mN mA)(hbm:mroOf (.type B)=pure bmB)(hB:typeLookup (.type B) name=pure y)
  (hq:Q (match mN name with | some v=>some v | none=>match mA name with | some v=>some v | none=>y) ⟨h,g,d,t,os⟩):wpAny M A (typeLookup (.ref C) name) Q E ⟨h,g,d,t,os⟩:=by
 have h1:=T.o
 have h2:=T.n
 have h3:=T.a
 have h4:=T.m
 have hrest:lookupAlong bmB name=pure y:=by rw [typeLookup_eq,hbm] at hB;exact hB
 rw [typeLookup_eq]
 refine wpAny_bind (wpAny_mroOf_exc h1 ?_)
 rw [lookupAlong_cons]
 refine wpAny_bind (wpAny_classOwn_exc h1 h2 ?_)
 cases hv:mN name with
 | some v=>rw [hv] at hq;exact wpAny_pure hq
 | none =>
  rw [hv] at hq
  simp only [lookupAlong_cons]
  refine wpAny_bind (wpAny_classOwn_cls h3 h4 ?_)
  cases hw:mA name with
  | some v=>rw [hw] at hq;exact wpAny_pure hq
  | none=>rw [hw] at hq;rw [hrest];exact wpAny_pure hq
end
section
variable {prog:Program}{w:World}{A:Around}{R:Result→Shared→Prop}{E:Value→Shared→Prop}{h:Heap}{g:Array GenState}{d:Drawn}{t:Nat}{os:OsState}{C:Addr}{mN mA:Str→Option Value}
noncomputable abbrev excMro:List Value:=[.type "Exception",.type "BaseException",.type "object"]
theorem two_new {c:TC}(T:Two h C excMro c mN mA){rest:List Value}
  (hq:R (.ok (.ret (.ref (h.objs.size+1)))) ⟨(h.push { cls:=.type "tuple",data:=.seq rest.toArray }).push { cls:=.ref C,data:=.fields #[.ref h.objs.size,.none,.none,.none,.bool false,.none] },g,d,t,os⟩) (hrest:rest.length≤sizeLine) :
  codeAny (model prog w) A (.builtin "Exception.__new__" ⟨.ref C::rest,[]⟩) R ⟨h,g,d,t,os⟩:=by
 have hC:=T.o
 have h2:=T.n
 have h3:=T.a
 have h4:=T.m
 have F:=PySem.F.excBase_Exception
 have hends:=F.ends
 have cB:(Value.ref C::Value.ref c.A::excMro).contains (.type "Exception")=true:=by rw [List.contains_cons,List.contains_cons,F.hasB,Bool.or_true,Bool.or_true]
 have cA:(Value.ref C::Value.ref c.A::excMro).contains (.type "AttributeError")=false:=by rw [List.contains_cons,List.contains_cons,F.noAttr];rfl
 have cN:(Value.ref C::Value.ref c.A::excMro).contains (.type "NameError")=false:=by rw [List.contains_cons,List.contains_cons,F.noName];rfl
 refine codeAny_builtinAt F.entry ?_
 unfold Builtin.«BaseException.__new__»
 refine PySem.wpAt_bind ?_
 show PySem.wpAt _ _ _ (stack >>= _) _ _ _
 refine PySem.wpAt_bind (PySem.wpAt_stack fun p below=>PySem.wpAt_of_wpAny ?_)
 wp_walk
 refine PySem.wpAt_of_wpAny ?_
 rw [F.owner]
 repeat (first | with_reducible refine wpAny_madeHere_exc F.canon hC ?_ | with_reducible refine wpAny_loadPart_at hC ?_ | (with_reducible refine wpAny_isSubtype_exc hC ?_;first | rw [cB] | rw [cA] | rw [cN]) | wp_step)
 show R _ _
 rw [Heap.size_push]
 exact hq
theorem two_made {c:TC}(T:Two h C excMro c mN mA){rest:List Value}{fI:Addr}{oI:Obj}{Q:Fin→Shared→Prop}(n1:mN "__init__"=none)(n2:mA "__init__"=some (.ref fI))(hfI:h.get? fI=some oI)(hfc:oI.cls=.type "function")
  (hq:wpAny (model prog w) A (call (.ref fI) (.ref (h.objs.size+1)::rest)) (fun r s'=>r=.none∧Q (.done (.ret (.ref (h.objs.size+1)))) s') E ⟨(h.push { cls:=.type "tuple",data:=.seq rest.toArray }).push { cls:=.ref C,data:=.fields #[.ref h.objs.size,.none,.none,.none,.bool false,.none] },g,d,t,os⟩) (hrest:rest.length≤sizeLine) :
  wpAny (model prog w) A (Builtin.«type.__call__» ⟨.ref C::rest,[]⟩) Q E ⟨h,g,d,t,os⟩:=by
 have hC:=T.o
 have h2:=T.n
 have h3:=T.a
 have h4:=T.m
 have F:=PySem.F.excBase_Exception
 have cB:(Value.ref c.A::excMro).contains (.type "Exception")=true:=by rw [List.contains_cons,F.hasB,Bool.or_true]
 repeat (first | with_reducible refine wpAny_loadPart_at hC ?_ | with_reducible refine wpAny_madeBy_exc hC ?_ | wp_step)
 refine codeAny_call_builtin_code (Code.quiet_builtin _ F.quiet) (wpAny_check_new_subU F cB .base hC ?_)
 refine two_new T ?_ hrest
 show wpAny _ _ _ _ _ _
 generalize hH:(h.push { cls:=.type "tuple",data:=.seq rest.toArray }).push { cls:=.ref C,data:=.fields #[.ref h.objs.size,.none,.none,.none,.bool false,.none] }=H at hq ⊢
 have up:∀ b o,h.get? b=some o→H.get? b=some o:=fun b o e=>hH▸Heap.get?_push_of_some _ (Heap.get?_push_of_some _ e)
 have hget:H.get? (h.objs.size+1)=some { cls:=.ref C,data:=.fields #[.ref h.objs.size,.none,.none,.none,.bool false,.none] }:=by rw [← hH];heap_get
 have hcC:(Value.ref C::Value.ref c.A::excMro).contains (.ref C)=true:=by rw [List.contains_cons];simp
 have hC₁:=up _ _ hC
 unfold isInstance
 repeat (first | with_reducible refine wpAny_loadPart_at hget ?_ | (with_reducible refine wpAny_isSubtype_exc hC₁ ?_;rw [hcC]) | wp_step)
 show wpAny _ _ (typeLookup (.ref C) _) _ _ _
 refine two_lookup (T.keeps up) F.mroIs F.init.lookup ?_
 rw [n1,n2]
 refine wpAny_holding (wpAny_bind ?_)
 unfold bindSpecial
 refine wpAny_bind (wpAny_typeOf (T:="function") ⟨_,up _ _ hfI,hfc⟩ ?_)
 rw [if_pos (by decide)]
 refine wpAny_pure (wpAny_bind (wpAny_mono hq (fun r s' hr=>?_) fun _ _ x=>x))
 obtain ⟨rfl,hQ⟩:=hr
 wp_walk
 exact hQ
theorem two_call {c:TC}(T:Two h C excMro c mN mA){rest:List Value}{fI:Addr}{oI:Obj}{Q:Value→Shared→Prop}(n1:mN "__init__"=none)(n2:mA "__init__"=some (.ref fI))(hfI:h.get? fI=some oI)(hfc:oI.cls=.type "function")
  (hq:wpAny (model prog w) (A.under (.builtin "type.__call__" ⟨.ref C::rest,[]⟩)) (call (.ref fI) (.ref (h.objs.size+1)::rest)) (fun r s'=>r=.none∧Q (.ref (h.objs.size+1)) s') E ⟨(h.push { cls:=.type "tuple",data:=.seq rest.toArray }).push { cls:=.ref C,data:=.fields #[.ref h.objs.size,.none,.none,.none,.bool false,.none] },g,d,t,os⟩) (hrest:rest.length≤sizeLine) :
  wpAny (model prog w) A (call (.ref C) rest) Q E ⟨h,g,d,t,os⟩:=by
 have f1:=tc_lookup
 have f2:=tc_bind (.ref C)
 have hC:=T.o
 have h2:=T.n
 have h3:=T.a
 have h4:=T.m
 have hT:(⟨h,g,d,t,os⟩:Shared).TypeIs (.ref C) "type":=⟨_,hC,rfl⟩
 refine wpAny_call (codeAny_of_tree ?_)
 show wpAny _ _ (callAny (.ref C) _) _ _ _
 repeat (any_goals (first | assumption | with_reducible refine wpAny_loadPart_at hC ?_ | wp_step))
 refine ⟨rfl,?_⟩
 refine codeAny_call_builtin_at (Code.quiet_builtin _ (by decide +kernel)) entry_typeCall (wpAny_check_type_call_sub hC (two_made T n1 n2 hfI hfc ?_ hrest))
 exact hq
end
theorem wpAny_eq {α:Type}{M:Model}{p q:Sem α}{Q:α→Shared→Prop}{s:Shared}{A:Around}{E:Value→Shared→Prop}(e:p=q)(h:wpAny M A q Q E s):wpAny M A p Q E s:=e▸h
section
variable {prog:Program}{w:World}{A:Around}{E:Value→Shared→Prop}{h:Heap}{g:Array GenState}{d:Drawn}{t:Nat}{os:OsState}{C x:Addr}{mN mA:Str→Option Value}
theorem two_lookup0 {M:Model}{B:String}{bmB:List Value}{name:Str}{y:Option Value}{Q:Option Value→Shared→Prop}{c:TC}(T:Two h C bmB c mN mA)(hbm:mroOf (.type B)=pure bmB)(hB:typeLookup (.type B) name=pure y)(n1:mN name=none)(n2:mA name=none)
  (hq:Q y ⟨h,g,d,t,os⟩):wpAny M A (typeLookup (.ref C) name) Q E ⟨h,g,d,t,os⟩:=two_lookup T hbm hB (by rw [n1,n2];exact hq)
theorem two_store {c:TC}(T:Two h C excMro c mN mA){dt:Data}{osl:Array (Option Value)}{name:Str}{v:Value}{Q:Unit→Shared→Prop}(hx:h.get? x=some ⟨.ref C,none,dt,osl⟩)(hnc:∀ c,dt≠.cls c)
  (n1:mN "__setattr__"=none) (n2:mA "__setattr__"=none) (n3:mN name=none) (n4:mA name=none) (hB:typeLookup (.type "Exception") name=pure none)
  (hq:∀ h' tk',(∃ od,h'.get? h.objs.size=some od)→(∀ b o',b≠x→h.get? b=some o'→h'.get? b=some o')→h'.get? x=some ⟨.ref C,some h.objs.size,dt,osl⟩→Q () ⟨h',g,d,tk',os⟩) :
  wpAny (model prog w) A (setAttr (.ref x) name v) Q E ⟨h,g,d,t,os⟩:=by
 have SF:=PySem.F.store_Exception
 have hC:=T.o
 have h2:=T.n
 have h3:=T.a
 have h4:=T.m
 have f3:=SF.slot.bind (.ref x)
 have hpass:=SF.passes (.ref x)
 have cB:(Value.ref C::Value.ref c.A::excMro).contains (.type "object")=true:=by rw [List.contains_cons,List.contains_cons,SF.hasOwner,Bool.or_true,Bool.or_true]
 unfold setAttr callSpecial? specialOf
 repeat (any_goals (first | assumption | with_reducible refine wpAny_loadPart_at hx ?_ | with_reducible refine two_lookup0 T SF.mro SF.slot.lookup n1 n2 ?_ | wp_step))
 refine codeAny_call_builtin SF.slot.plain SF.entry ?_
 ·simp only [checkBuiltinCall,SF.kind,SF.split]
  refine wpAny_bind ?_
  unfold isInstance
  repeat (first | with_reducible refine wpAny_loadPart_at hx ?_ | (with_reducible refine wpAny_isSubtype_exc hC ?_;refine cB.symm▸?_) | wp_step)
  have ha:=SF.args (.ref x) (.str name t) v
  refine two_lookup0 T SF.mro hB n3 n4 ?_
  repeat (first | with_reducible refine wpAny_eq (refuse_eq _ _) ?_ | refine wpAny_eq ((refuseLoop_ref _ _ _ _).trans ((refuseLoop_ref _ _ _ _).trans hpass)) ?_ | with_reducible refine wpAny_loadPart_at hx ?_ | with_reducible refine wpAny_mroOf_exc hC ?_ | wp_step)
  split
  ·exact absurd (by assumption) (hnc _)
  have hx₁:(h.push { cls:=.type "dict",data:=.dict #[] }).get? x=some ⟨.ref C,none,dt,osl⟩:=Heap.get?_push_of_some _ hx
  have hxs:x≠h.objs.size:=Nat.ne_of_lt (Heap.lt_size hx)
  refine wpAny_bind (wpAny_alloc' ?_)
  refine wpAny_bind (wpAny_update' hx₁ ?_)
  refine wpAny_pure ?_
  generalize hH:((h.push { cls:=.type "dict",data:=.dict #[] }).update x fun o=>{ cls:=o.cls,dict:=some h.objs.size,data:=o.data,slots:=o.slots })=H
  have g1:H.get? h.objs.size=some { cls:=.type "dict",data:=.dict #[] }:=by rw [← hH];exact (Heap.get?_update_ne _ _ _ _ hxs.symm).trans (Heap.get?_push_at rfl rfl)
  have g2:H.get? x=some ⟨.ref C,some h.objs.size,dt,osl⟩:=by
   rw [← hH]
   refine Heap.get?_update_self _ hx₁ ?_
   have hfr:=(Heap.get?_some_iff.mp hx).2
   cases dt <;> first | rfl | exact hfr
  have g3:∀ b o',b≠x→h.get? b=some o'→H.get? b=some o':=fun b o' hb e=>by rw [← hH];exact (Heap.get?_update_ne _ _ _ _ hb).trans (Heap.get?_push_of_some _ e)
  show wpAny _ _ (storeInDict h.objs.size (.str name t) name v) _ _ _
  unfold storeInDict newKeyGuard
  refine wpAny_bind (wpAny_pure (wpAny_bind (wpAny_nsSet1 (Heap.Ns1.of_empty ⟨_,#[],_,g1,rfl,fun e he=>absurd he (by simp),fun _=>rfl⟩) fun h' hn' hs=>?_)))
  obtain ⟨oD,esD,epD,hoD,hdD,hcD⟩:=hn'.count (Within.cons name v Within.nil)
  refine wpAny_bind (wpAny_lookBehind hoD (by rw [hdD];exact pastItsLine_dict (Nat.le_trans hcD (by rw [List.length_cons,List.length_nil,sizeLine_eq];omega))) ?_)
  wp_walk
  exact hq h' _ ⟨_,hoD⟩ (fun b o' hb e=>(hs.2 b (Nat.ne_of_lt (Heap.lt_size e))).trans (g3 b o' hb e)) ((hs.2 x hxs).trans g2)
end
end Mine
end
section
namespace Mine
section
variable {M:Model}{A:Around}{E:Value→Shared→Prop}{h:Heap}{g:Array GenState}{d:Drawn}{t:Nat}{os:OsState}{C:Addr}
theorem two_raise {s:Shared}{env:Env}{x:Sem Value}{Q:Flow→Shared→Prop}(hh:A.handled=none)
  (H:wpAny M A x (fun v s₁=>∃ e dx t0 sx mN mA c,v=.ref e∧Two s₁.heap C excMro c mN mA∧s₁.heap.get? e=some { cls:=.ref C,dict:=dx,data:=.fields #[.ref t0,.none,.none,.none,.bool false,.none],slots:=sx }∧E (.ref e) s₁) E s) :
  wpAny M A (raiseStmt env (some x) none) Q E s:=by
 unfold raiseStmt
 refine wpAny_bind (wpAny_mono H (fun v s₁ h₁=>?_) fun _ _ x=>x)
 obtain ⟨e,dx,t0,sx,mN,mA,c,rfl,T,he,hE⟩:=h₁
 have hC:=T.o
 have cB:(Value.ref C::Value.ref c.A::excMro).contains (.type "BaseException")=true:=by rw [List.contains_cons,List.contains_cons];rfl
 obtain ⟨hp,g,d,tk,os⟩:=s₁
 repeat (first | with_reducible refine wpAny_loadPart_at he ?_ | with_reducible refine wpAny_loadPart_at hC ?_ | (with_reducible refine wpAny_isSubtype_exc hC ?_;rw [cB]) | wp_step)
 exact wpAny_raiseNew_none hh hE
theorem exec_raise {s:Shared}{env:Env}{x:Expr}{pos:Pos}{Q:Flow→Shared→Prop}(hh:A.handled=none)
  (H:wpAny M A (eval x env) (fun v s₁=>∃ e dx t0 sx mN mA c,v=.ref e∧Two s₁.heap C excMro c mN mA∧s₁.heap.get? e=some { cls:=.ref C,dict:=dx,data:=.fields #[.ref t0,.none,.none,.none,.bool false,.none],slots:=sx }∧E (.ref e) s₁) E s) :
  wpAny M A (exec (.Raise (some x) none pos) env) Q E s:=by
 rw [arm_exec_Raise]
 refine wpAny_bind (wpAny_standAt (two_raise hh (wpAny_bind (wpAny_mono H (fun v s₁ h=>wpAny_bind (wpAny_standAt (wpAny_pure h))) fun _ _ h=>h))))
end
end Mine
end
section
namespace Mine
noncomputable section
noncomputable abbrev Mp:=Str→Option Value
noncomputable abbrev Ld:=List (Addr × Obj)
noncomputable abbrev KA:=Addr→Obj→Prop
inductive SV where
 | int (x:Int)
 | str (s:Str)
 | val (v:Value)
 | tup (l:List SV)
 | lst (l:List SV)
 | rng (n:Nat)
 | sq (l:List SV)
 | obj (C:Addr) (ns:List Nat) (l:List SV)
 | dct (w:World) (ks:List Str) (l:List SV)
inductive MO where
 | lst (l:List SV)
 | inst (C:Addr) (ns:List Nat) (l:List SV)
 | dct (w:World)
noncomputable abbrev MLd:=List (Addr × MO)
noncomputable abbrev Sl:=List (Option SV)
noncomputable abbrev SV.none:SV:=.val .none
noncomputable abbrev SV.bool (b:Bool):SV:=.val (.bool b)
noncomputable abbrev SV.ref (a:Addr):SV:=.val (.ref a)
noncomputable def IsT (o:Obj)(vs:List Value):Prop:=o.cls=.type "tuple"∧∃ nn,o.data=.seq vs.toArray nn
noncomputable def IsLs (o:Obj)(vs:List Value):Prop:=∃ nn,o=listO vs nn
noncomputable def IsSq (o:Obj)(vs:List Value):Prop:=o.cls=.type "list"∧∃ nn,o.data=.seq vs.toArray nn
noncomputable def AT1:List Str:=["href","t","transform","","px","pt","pc","mm","cm","in"]
noncomputable def ATN:List Str:=List.append ["a","b","c","d","e","f","x","y","width","height","matrix","most","many","grain","bound","contours","start","here","spots","name","attributes","children","text","ids","made","at"] AT1
noncomputable abbrev an (c:Nat):Str:=ATN.getD c "?"
noncomputable def EntR:List Nat→List Value→List DictEntry→Prop
 | [],vs,es=>vs=[]∧es=[]
 | x::ns,vs,es=>∃ v r e q,vs=v::r∧es=e::q∧(∃ t,e.key=.str (an x) t)∧e.val=v∧EntR ns r q
noncomputable abbrev rowP:Program:=PySem.Challenge.rw_qz0069_01.row.prog
noncomputable def DctO (w:World)(a:Addr)(ks:List Str)(vs:List Value)(o:Obj):Prop:=(a==sysModules)=false∧o.IsDictOf (PySem.strKind rowP w) (ks.zip vs)∧vs.length=ks.length
mutual
noncomputable def VR (K:KA):SV→Value→Prop
 | .int x,v=>∃ t,v=.int x t
 | .str s,v=>∃ t,v=.str s t
 | .val u,v=>v=u
 | .tup l,v=>∃ a o vs,v=.ref a∧K a o∧IsT o vs∧VRs K l vs
 | .lst l,v=>∃ a o vs,v=.ref a∧K a o∧IsLs o vs∧VRs K l vs
 | .rng n,v=>∃ r t u q,v=.ref r∧K r { cls:=.type "range",dict:=none,data:=.fields #[.int 0 t,.int n u,.int 1 q],slots:=#[] }
 | .sq l,v=>∃ a o vs,v=.ref a∧K a o∧IsSq o vs∧VRs K l vs
 | .obj C ns l,v=>∃ a d es n vs,v=.ref a∧K a (instObj C d)∧K d (dictOf es n)∧EntR ns vs es∧VRs K l vs
 | .dct w ks l,v=>∃ a o vs,v=.ref a∧K a o∧DctO w a ks vs o∧VRs K l vs
noncomputable def VRs (K:KA):List SV→List Value→Prop
 | [],vs=>vs=[]
 | x::l,vs=>∃ v r,vs=v::r∧VR K x v∧VRs K l r
end
theorem vr_mono {K K':KA}(h:∀ a o,K a o→K' a o):(∀ (x:SV) (v:Value),VR K x v→VR K' x v)∧∀ (l:List SV) (vs:List Value),VRs K l vs→VRs K' l vs:=by
 have t:=fun (l:List SV) (ih:∀ vs,VRs K l vs→VRs K' l vs) (v:Value) (e:VR K (.tup l) v)=>show VR K' (.tup l) v from e.imp fun a e=>e.imp fun o e=>e.imp fun vs e=>⟨e.1,h _ _ e.2.1,e.2.2.1,ih vs e.2.2.2⟩
 have t2:=fun (l:List SV) (ih:∀ vs,VRs K l vs→VRs K' l vs) (v:Value) (e:VR K (.lst l) v)=>show VR K' (.lst l) v from e.imp fun a e=>e.imp fun o e=>e.imp fun vs e=>⟨e.1,h _ _ e.2.1,e.2.2.1,ih vs e.2.2.2⟩
 have t3:=fun (l:List SV) (ih:∀ vs,VRs K l vs→VRs K' l vs) (v:Value) (e:VR K (.sq l) v)=>show VR K' (.sq l) v from e.imp fun a e=>e.imp fun o e=>e.imp fun vs e=>⟨e.1,h _ _ e.2.1,e.2.2.1,ih vs e.2.2.2⟩
 have r:=fun (n:Nat) (v:Value) (e:VR K (.rng n) v)=>show VR K' (.rng n) v from e.imp fun r e=>e.imp fun t e=>e.imp fun u e=>e.imp fun q e=>⟨e.1,h _ _ e.2⟩
 have o:=fun (C:Addr) (ns:List Nat) (l:List SV) (ih:∀ vs,VRs K l vs→VRs K' l vs) (v:Value) (e:VR K (.obj C ns l) v)=>show VR K' (.obj C ns l) v from e.imp fun a e=>e.imp fun d e=>e.imp fun es e=>e.imp fun n e=>e.imp fun vs e=>⟨e.1,h _ _ e.2.1,h _ _ e.2.2.1,e.2.2.2.1,ih vs e.2.2.2.2⟩
 have d:=fun (w:World) (ks:List Str) (l:List SV) (ih:∀ vs,VRs K l vs→VRs K' l vs) (v:Value) (e:VR K (.dct w ks l) v)=>show VR K' (.dct w ks l) v from e.imp fun a e=>e.imp fun o e=>e.imp fun vs e=>⟨e.1,h _ _ e.2.1,e.2.2.1,ih vs e.2.2.2⟩
 have c:=fun (x:SV) (l:List SV) (i1:∀ v,VR K x v→VR K' x v) (ih:∀ vs,VRs K l vs→VRs K' l vs) (vs:List Value) (e:VRs K (x::l) vs)=>show VRs K' (x::l) vs from e.imp fun v e=>e.imp fun r e=>⟨e.1,i1 v e.2.1,ih r e.2.2⟩
 exact ⟨SV.rec (motive_1:=fun x=>∀ v,VR K x v→VR K' x v) (motive_2:=fun l=>∀ vs,VRs K l vs→VRs K' l vs) (fun _ _ e=>e) (fun _ _ e=>e) (fun _ _ e=>e) t t2 r t3 o d (fun _ e=>e) c,
  SV.rec_1 (motive_1:=fun x=>∀ v,VR K x v→VR K' x v) (motive_2:=fun l=>∀ vs,VRs K l vs→VRs K' l vs) (fun _ _ e=>e) (fun _ _ e=>e) (fun _ _ e=>e) t t2 r t3 o d (fun _ e=>e) c⟩
theorem VR.mono {K K':KA}(h:∀ a o,K a o→K' a o)(x:SV)(v:Value):VR K x v→VR K' x v:=(vr_mono h).1 x v
theorem VRs.mono {K K':KA}(h:∀ a o,K a o→K' a o)(l:List SV)(vs:List Value):VRs K l vs→VRs K' l vs:=(vr_mono h).2 l vs
theorem VRs.length {K:KA}{l:List SV}:∀ {vs:List Value},VRs K l vs→vs.length=l.length:=by
 induction l with
 | nil=>intro vs e;rw [show vs=[] from e];rfl
 | cons x l ih=>rintro _ ⟨v,r,rfl,_,b⟩;exact congrArg Nat.succ (@ih r b)
theorem VRs.get {K:KA}{l:List SV}{i:Nat}{x:SV}:∀ {vs:List Value},VRs K l vs→l[i]? = some x→∃ v,vs[i]? = some v∧VR K x v:=by
 induction l generalizing i with
 | nil=>intro _ _ h;cases h
 | cons y l ih =>
  rintro _ ⟨v,r,rfl,a,b⟩ h
  cases i with
  | zero=>cases h;exact ⟨v,rfl,a⟩
  | succ i=>exact @ih i r b h
theorem VRs.get' {K:KA}{l:List SV}{i:Nat}{v:Value}:∀ {vs:List Value},VRs K l vs→vs[i]? = some v→∃ x,l[i]? = some x∧VR K x v:=by
 induction l generalizing i with
 | nil=>intro vs e h;rw [show vs=[] from e] at h;cases h
 | cons y l ih =>
  rintro _ ⟨w,r,rfl,a,b⟩ h
  cases i with
  | zero=>cases h;exact ⟨y,rfl,a⟩
  | succ i=>exact @ih i r b h
theorem VRs.append {K:KA}{l l':List SV}{vs':List Value}(h:VRs K l' vs'):∀ {vs:List Value},VRs K l vs→VRs K (l++l') (vs++vs'):=by
 induction l with
 | nil=>intro vs e;rw [show vs=[] from e];exact h
 | cons x l ih=>rintro _ ⟨v,r,rfl,a,b⟩;exact ⟨v,r++vs',rfl,a,ih b⟩
theorem VRs.snoc {K:KA}{l:List SV}{vs:List Value}{x:SV}{v:Value}(h:VRs K l vs)(hx:VR K x v):VRs K (l++[x]) (vs++[v]):=VRs.append (l':=[x]) (vs':=[v]) ⟨v,[],rfl,hx,rfl⟩ h
theorem VRs.split {K:KA}{l l':List SV}:∀ {vs:List Value},VRs K (l++l') vs→∃ a b,vs=a++b∧VRs K l a∧VRs K l' b:=by
 induction l with
 | nil=>intro vs h;exact ⟨[],vs,rfl,rfl,h⟩
 | cons x l ih =>
  rintro _ ⟨v,r,rfl,a,b⟩
  obtain ⟨p,q,rfl,h1,h2⟩:=ih b
  exact ⟨v::p,q,rfl,⟨v,p,rfl,a,h1⟩,h2⟩
theorem VRs.parts {K:KA}{l:List SV}{vs:List Value}(n:Nat)(h:VRs K l vs):VRs K (l.take n) (vs.take n)∧VRs K (l.drop n) (vs.drop n):=by
 rw [← List.take_append_drop n l] at h
 obtain ⟨a,b,rfl,h1,h2⟩:=h.split
 have e:=h1.length
 have e2:=h2.length
 by_cases hn:n≤l.length
 ·have ea:a.length=n:=by rw [e,List.length_take];exact Nat.min_eq_left hn
  rw [← ea,List.take_left,List.drop_left,ea]
  exact ⟨h1,h2⟩
 ·rw [List.take_of_length_le (Nat.le_of_not_le hn)] at h1 ⊢
  rw [List.drop_of_length_le (Nat.le_of_not_le hn)] at h2 ⊢
  cases (show b=[] from h2)
  rw [List.append_nil,List.take_of_length_le (by rw [h1.length];exact Nat.le_of_not_le hn),List.drop_of_length_le (by rw [h1.length];exact Nat.le_of_not_le hn)]
  exact ⟨h1,rfl⟩
theorem VRs.drop {K:KA}(n:Nat){l:List SV}{vs:List Value}(h:VRs K l vs):VRs K (l.drop n) (vs.drop n):=(h.parts n).2
theorem VRs.take {K:KA}(n:Nat){l:List SV}{vs:List Value}(h:VRs K l vs):VRs K (l.take n) (vs.take n):=(h.parts n).1
noncomputable def RelO (K:KA)(a:Addr)(o:MO)(q:Ld):Prop:=MO.casesOn (motive:=fun _=>Prop) o (fun l=>∃ vs nn,q=[(a,listO vs nn)]∧VRs K l vs) (fun C ns l=>∃ d es n vs,q=[(a,instObj C d),(d,dictOf es n)]∧EntR ns vs es∧VRs K l vs) (fun w=>∃ o,q=[(a,o)]∧DctO w a [] [] o)
noncomputable def RelL (K:KA):MLd→Ld→Prop
 | [],q=>q=[]
 | p::r,q=>∃ q1 q2,q=q1++q2∧RelO K p.1 p.2 q1∧RelL K r q2
theorem RelO.mono {K K':KA}(h:∀ a o,K a o→K' a o){a:Addr}{o:MO}{q:Ld}(e:RelO K a o q):RelO K' a o q:=by
 cases o with
 | lst l=>exact e.imp fun vs e=>e.imp fun nn e=>⟨e.1,VRs.mono h _ _ e.2⟩
 | inst C ns l=>exact e.imp fun d e=>e.imp fun es e=>e.imp fun n e=>e.imp fun vs e=>⟨e.1,e.2.1,VRs.mono h _ _ e.2.2⟩
 | dct w=>exact e
theorem RelL.mono {K K':KA}(h:∀ a o,K a o→K' a o){l:MLd}:∀ {q:Ld},RelL K l q→RelL K' l q:=by
 induction l with
 | nil=>exact fun e=>e
 | cons p r ih=>rintro _ ⟨q1,q2,e,x,y⟩;exact ⟨q1,q2,e,x.mono h,ih y⟩
theorem RelL.append {K:KA}{l l':MLd}{q':Ld}(h:RelL K l' q'):∀ {q:Ld},RelL K l q→RelL K (l++l') (q++q'):=by
 induction l with
 | nil=>intro q e;rw [show q=[] from e];exact h
 | cons p r ih=>rintro _ ⟨q1,q2,rfl,x,y⟩;exact ⟨q1,q2++q',List.append_assoc ..,x,ih y⟩
inductive LSplit:MLd→MLd→MLd→Prop
 | nil:LSplit [] [] []
 | left {q a b c}:LSplit a b c→LSplit (q::a) (q::b) c
 | right {q a b c}:LSplit a b c→LSplit (q::a) b (q::c)
theorem LSplit.allR {l:MLd}:LSplit l [] l:=by
 induction l with
 | nil=>exact .nil
 | cons q l ih=>exact .right ih
theorem LSplit.allL {l:MLd}:LSplit l l []:=by
 induction l with
 | nil=>exact .nil
 | cons q l ih=>exact .left ih
theorem LSplit.rel {K:KA}{a b c:MLd}(h:LSplit a b c):∀ {q:Ld},RelL K a q→∃ x y,RelL K b x∧RelL K c y∧q.Perm (x++y):=by
 induction h with
 | nil=>intro q e;exact ⟨[],[],rfl,rfl,by rw [show q=[] from e];exact List.Perm.refl _⟩
 | left _ ih =>
  rintro _ ⟨q1,q2,rfl,r1,r2⟩
  obtain ⟨x,y,h1,h2,p⟩:=ih r2
  exact ⟨q1++x,y,⟨q1,x,rfl,r1,h1⟩,h2,by rw [List.append_assoc];exact p.append_left q1⟩
 | right _ ih =>
  rintro _ ⟨q1,q2,rfl,r1,r2⟩
  obtain ⟨x,y,h1,h2,p⟩:=ih r2
  exact ⟨x,q1++y,h1,⟨q1,y,rfl,r1,h2⟩,(p.append_left q1).trans (by rw [← List.append_assoc,← List.append_assoc];exact List.perm_append_comm.append_right y)⟩
inductive LUpd (a:Addr)(o o':MO):MLd→MLd→Prop
 | here {r}:LUpd a o o' ((a,o)::r) ((a,o')::r)
 | there {q r r'}:LUpd a o o' r r'→LUpd a o o' (q::r) (q::r')
theorem LUpd.rel {K:KA}{a:Addr}{o o':MO}{l l':MLd}(h:LUpd a o o' l l'):∀ {q:Ld},RelL K l q→∃ pre x post,q=pre++(x++post)∧RelO K a o x∧∀ x',RelO K a o' x'→RelL K l' (pre++(x'++post)):=by
 induction h with
 | here=>rintro _ ⟨q1,q2,rfl,r1,r2⟩;exact ⟨[],q1,q2,rfl,r1,fun x' h=>⟨x',q2,rfl,h,r2⟩⟩
 | there _ ih =>
  rintro _ ⟨q1,q2,rfl,r1,r2⟩
  obtain ⟨pre,x,post,rfl,h1,h2⟩:=ih r2
  exact ⟨q1++pre,x,post,(List.append_assoc ..).symm,h1,fun x' hx=>by rw [List.append_assoc];exact ⟨q1,_,rfl,r1,h2 x' hx⟩⟩
structure Sep (ledc cz hid:Ld):Prop where
 nd:(ledc.map (·.1)).Nodup
 d1:∀ q∈ledc,∀ p∈cz++hid,p.1≠q.1
 nc:(cz.map (·.1)).Nodup
 d2:∀ q∈cz,∀ p∈hid,p.1≠q.1
structure Cx where
 w:World
 p:Program
 loose:List Str
 mean:ExcName→Option Value
 mg:Str→Option Value
 mb:Str→Option Value
 dp:Nat
 un:Nat
 gd:Option (List Code)
 cn:Str
 cs:Scope
 L:Addr
 a:Addr
 ccd:Value
 cl:List (Str × Addr)
 outer:List Env
 A₀:Around
 base:Heap
 g:Heap
 gs:Array GenState
 dr:Drawn
 os:OsState
 kn:KA
 z:Prop
 l0:Prop
noncomputable abbrev Cx.A (σ:Cx):Around:=ktrTop σ.dp σ.un σ.gd σ.cn σ.cs σ.L σ.a σ.ccd σ.cl σ.outer
noncomputable abbrev Cx.env (σ:Cx):Env:=envX σ.cn σ.cs σ.L σ.a σ.ccd σ.cl
structure St (σ:Cx)(m:Mp)(n:Ld)(s:Shared):Prop where
 F:Fr σ.g σ.L s.heap m
 N:News σ.g σ.L s.heap n
 gs:s.gens=σ.gs
 dr:s.drawn=σ.dr
 os:s.os=σ.os
structure Good (σ:Cx)(kk:Nat):Prop where
 B:Below σ.A₀ σ.base σ.outer σ.g
 X:(H.K σ.w.params).In σ.g
 T:Top σ.p σ.loose σ.mean σ.mg σ.mb σ.g
 k:σ.cs.kind=.function
 d:∀ k,Nat.blt k kk=true→σ.dp+k < recursionLimit
 u:∀ k,Nat.blt k kk=true→σ.un+8 * k < cLine
 kn:∀ a o,σ.kn a o→σ.g.get? a=some o
 kf:∀ a o,(H.K σ.w.params).lookup a=some o→σ.kn a o
 lo:σ.l0→σ.outer=[]∧(H.K σ.w.params).In σ.base∧Top σ.p σ.loose σ.mean σ.mg σ.mb σ.base
noncomputable abbrev Kn (σ:Cx)(hid:Ld):KA:=fun a o=>σ.kn a o∨(a,o)∈hid
theorem Kn.mono {σ:Cx}{hid hid':Ld}(h:∀ q∈hid,q∈hid'):∀ a o,Kn σ hid a o→Kn σ hid' a o:=fun a o k=>k.imp id (h _)
theorem St.sub {σ:Cx}{m:Mp}{n n':Ld}{s:Shared}(h:St σ m n s)(hs:∀ q∈n',q∈n):St σ m n' s:=⟨h.F,fun q hq=>h.N q (hs q hq),h.gs,h.dr,h.os⟩
theorem St.tok {σ:Cx}{m:Mp}{n:Ld}{s:Shared}(h:St σ m n s)(tk:Nat):St σ m n { s with toks:=tk }:=⟨h.F,h.N,h.gs,h.dr,h.os⟩
structure SS (σ:Cx)(m:Mp)(cz hid:Ld)(led:MLd)(s:Shared):Prop where
 ex:∃ ledc,RelL (Kn σ hid) led ledc∧Sep ledc cz hid∧St σ m (ledc++(cz++hid)) s
section
variable {σ:Cx}{kk:Nat}{env:Env}{m:Mp}{cz hid:Ld}{led:MLd}{s:Shared}
theorem SS.tok (h:SS σ m cz hid led s)(tk:Nat):SS σ m cz hid led { s with toks:=tk }:=by
 obtain ⟨ledc,r,x,st⟩:=h.ex
 exact ⟨ledc,r,x,st.tok tk⟩
theorem SS.F (h:SS σ m cz hid led s):Fr σ.g σ.L s.heap m:=let ⟨_,_,_,st⟩:=h.ex;st.F
theorem SS.at_cz (h:SS σ m cz hid led s){q:Addr × Obj}(hq:q∈cz):s.heap.get? q.1=some q.2 :=
 let ⟨_,_,_,st⟩:=h.ex;(st.N q (iR (iL hq))).1
theorem SS.kn (G:Good σ kk)(h:SS σ m cz hid led s){a:Addr}{o:Obj}(k:Kn σ hid a o):s.heap.get? a=some o:=by
 obtain ⟨_,_,_,st⟩:=h.ex
 rcases k with k | k
 ·exact st.F.keep _ _ (G.kn _ _ k)
 ·exact (st.N (a,o) (iR (iR k))).1
theorem SS.isT (G:Good σ kk)(h:SS σ m cz hid led s){a:Addr}{o:Obj}{vs:List Value}(k:Kn σ hid a o)(i:IsT o vs):IsTup s.heap a vs.toArray:=⟨o,h.kn G k,i.1,i.2⟩
theorem SS.isL (G:Good σ kk)(h:SS σ m cz hid led s){a:Addr}{o:Obj}{vs:List Value}(k:Kn σ hid a o)(i:IsLs o vs):s.heap.IsList a vs.toArray:=by
 obtain ⟨nn,rfl⟩:=i
 exact ⟨_,h.kn G k,rfl,nn,rfl⟩
theorem SS.hiddenN {n:Ld}{s':Shared}{D:Addr}{o:Obj}{ledc:Ld}(r:RelL (Kn σ hid) led ledc)(x:Sep ledc cz hid)(ne:∀ q∈ledc++(cz++hid),D≠q.1)(st:St σ m ((D,o)::(ledc++(cz++hid))) s'):SS σ m cz ((D,o)::hid) led s':=by
 refine ⟨ledc,r.mono (Kn.mono fun q hq=>.tail _ hq),⟨x.nd,fun q hq p hp=>?_,x.nc,fun q hq p hp=>?_⟩,st.sub fun q hq=>?_⟩
 ·rcases iA hp with hp | hp
  ·exact x.d1 q hq p (iL hp)
  ·rcases iC hp with rfl | hp
   ·exact ne q (iL hq)
   ·exact x.d1 q hq p (iR hp)
 ·rcases iC hp with rfl | hp
  ·exact ne q (iR (iL hq))
  ·exact x.d2 q hq p hp
 ·rcases iA hq with hq | hq
  ·exact .tail _ (iL hq)
  ·rcases iA hq with hq | hq
   ·exact .tail _ (iR (iL hq))
   ·rcases iC hq with rfl | hq
    ·exact .head _
    ·exact .tail _ (iR (iR hq))
theorem SS.hidden {n:Ld}{s':Shared}{D:Addr}{o:Obj}{ledc:Ld}(r:RelL (Kn σ hid) led ledc)(x:Sep ledc cz hid)(hD:∀ q∈ledc++(cz++hid),q.1 < D)(st:St σ m ((D,o)::(ledc++(cz++hid))) s'):SS σ m cz ((D,o)::hid) led s':=SS.hiddenN (n:=n) r x (fun q hq=>Nat.ne_of_gt (hD q hq)) st
theorem SS.made {n:Ld}{s':Shared}{D:Addr}{mo:MO}{x:Ld}{ledc:Ld}(r:RelL (Kn σ hid) led ledc)(sp:Sep ledc cz hid)(hx:RelO (Kn σ hid) D mo x)(hnd:(x.map (·.1)).Nodup)(hD:∀ y∈x,∀ q∈ledc++(cz++hid),q.1≠y.1)(st:St σ m (x++(ledc++(cz++hid))) s'):SS σ m cz hid ((D,mo)::led) s':=by
 refine ⟨x++ledc,⟨x,ledc,rfl,hx,r⟩,⟨?_,fun q hq p hp=>?_,sp.nc,sp.d2⟩,by rw [List.append_assoc];exact st⟩
 ·rw [List.map_append,List.nodup_append]
  refine ⟨hnd,sp.nd,fun a ha b hb=>?_⟩
  obtain ⟨y,hy,rfl⟩:=iM ha
  obtain ⟨q,hq,rfl⟩:=iM hb
  exact (hD y hy q (iL hq)).symm
 ·rcases iA hq with hq | hq
  ·exact hD q hq p (iR hp)
  ·exact sp.d1 q hq p hp
end
end
end Mine
end
section
namespace Mine
noncomputable section
noncomputable def strEq (s t:Str):Bool:=s.cps.toList==t.cps.toList
theorem strEq_eq {s t:Str}(h:strEq s t=true):s=t:=by
 cases s;cases t
 exact congrArg Str.mk (Array.toList_inj.mp (eq_of_beq h))
theorem strEq_refl (s:Str):strEq s s=true:=beq_self_eq_true _
theorem strEq_ne {x y:Str}(h:strEq x y=false):x≠y:=by rintro rfl;rw [strEq_refl] at h;cases h
structure Pw where
 w:World
 p:Program
 loose:List Str
 mean:ExcName→Option Value
 mg:Str→Option Value
 mb:Str→Option Value
 z:Prop
 l0:Prop
noncomputable def RZf (fl:Value)(base:Heap)(l:List Env)(H:Heap)(e:Addr)(h':Heap):Prop :=
 ∃ B t vs,base.StaysIn B∧(∀ b o,H.get? b=some o→b ∉ l.filterMap (·.frame)→B.get? b=some o)∧(B.StaysIn h'∧B.get? e=none∧h'.FunFrames B l∧h'.TracedAtW B e (.ref 94) (.ref t) fl)∧B.get? t=none∧h'.TupAt t vs∧H.UpToSlots h'
noncomputable abbrev RZ:=RZf .none
noncomputable abbrev excO (t:Addr)(dx:Option Addr):Obj:={ cls:=.ref 94,dict:=dx,data:=.fields #[.ref t,.none,.none,.none,.bool false,.none] }
noncomputable def FnG (X:Pw)(f:Addr)(args:List SV)(led:MLd)(kk:Nat)(P:SV→MLd→Prop)(may lo:Prop):Prop :=
 ∀ (K0:KA) (vs:List Value) (ledc:Ld),(∀ a o,(H.K X.w.params).lookup a=some o→K0 a o)→RelL K0 led ledc→(ledc.map (·.1)).Nodup→VRs K0 args vs →
 ∀ (dp un:Nat) (gd:Option (List Code)) (cn:Str) (cs:Scope) (a:Addr) (ccd:Value) (cl:List (Str × Addr)) (outer:List Env) (A₀:Around) (base h₀:Heap) (L:Addr) (m:Str→Option Value) (s:Shared) (R:Result→Shared→Prop),
  Below A₀ base outer h₀→Fr h₀ L s.heap m→(H.K X.w.params).In h₀→News h₀ L s.heap ledc→Top X.p X.loose X.mean X.mg X.mb h₀→cs.kind=.function →
  dp+kk < recursionLimit→un+8 * kk < cLine→(∀ a o,K0 a o→s.heap.get? a=some o∧a ∉ ledc.map (·.1))→(lo→outer=[]∧(H.K X.w.params).In base∧Top X.p X.loose X.mean X.mg X.mb base) →
  (∀ v h' tk' led',Fr h₀ L h' m→News h₀ L h' led'→(∀ b o,s.heap.get? b=some o→b ∉ ledc.map (·.1)→(lo→b≠L)→h'.get? b=some o)→(∀ q∈led',q.1∈ledc.map (·.1)∨s.heap.get? q.1=none) →
   (∃ r led1 ledc1 hid1,P r led1∧led'=ledc1++hid1∧RelL (fun a o=>K0 a o∨(a,o)∈hid1) led1 ledc1∧Sep ledc1 [] hid1∧VR (fun a o=>K0 a o∨(a,o)∈hid1) r v)→R (.ok (.ret v)) { s with heap:=h',toks:=tk' }) →
  (may→∀ e h' tk',RZ base (envX cn cs L a ccd cl::outer) (hideAll s.heap (ledc.map (·.1))) e h'→R (.error (.ref e)) { s with heap:=h',toks:=tk' }) →
  codeAny (model rowP X.w) (ktrTop dp un gd cn cs L a ccd cl outer) (.call (.ref f) ⟨vs,[]⟩) R s
noncomputable abbrev Fn (X:Pw)(f:Addr)(args:List SV)(led:MLd)(kk:Nat)(P:SV→MLd→Prop):Prop:=FnG X f args led kk P False False
noncomputable abbrev FnV (X:Pw)(f:Addr)(args:List SV)(kk:Nat)(r:SV):Prop:=Fn X f args [] kk fun r' l=>r'=r∧l=[]
noncomputable def froz (o:MO):SV:=MO.casesOn (motive:=fun _=>SV) o (fun l=>.lst l) (fun C ns l=>.obj C ns l) (fun w=>.dct w [] [])
inductive FzL (r w:SV):List SV→List SV→Prop
 | nil:FzL r w [] []
 | keep {x l l'}:FzL r w l l'→FzL r w (x::l) (x::l')
 | swap {l l'}:FzL r w l l'→FzL r w (r::l) (w::l')
inductive FzM (r w:SV):MLd→MLd→Prop
 | nil:FzM r w [] []
 | keep {q l l'}:FzM r w l l'→FzM r w (q::l) (q::l')
 | lst {b x x' l l'}:FzL r w x x'→FzM r w l l'→FzM r w ((b,.lst x)::l) ((b,.lst x')::l')
 | inst {b C ns x x' l l'}:FzL r w x x'→FzM r w l l'→FzM r w ((b,.inst C ns x)::l) ((b,.inst C ns x')::l')
inductive Fz:List SV→MLd→List SV→MLd→Prop
 | nil {vs led}:Fz vs led vs led
 | one {vs led a o rest rest' vs' ws led2}:LSplit led [(a,o)] rest→FzM (.val (.ref a)) (froz o) rest rest'→FzL (.val (.ref a)) (froz o) vs vs'→Fz vs' rest' ws led2→Fz vs led ws led2
inductive BI where
 | abs | int | max | min | len | sum | range | list | tuple | str
inductive LM where
 | append | pop | extend
inductive SM where
 | strip | endswith | index | get
inductive Op where
 | bin (o:Operator)
 | neg
 | cmp (o:CmpOp)
 | tup | lst | mls
 | item
 | slc (lo hi:Option Int)
 | sls
 | dsp (ks:List Str)
 | mdc
 | attr (c:Nat)
 | call (f:Addr)
 | new (C:Addr)
 | bi (b:BI)
inductive IE where
 | loc (i:Nat)
 | cst (v:SV)
 | glo (j:Nat)
 | op (o:Op) (as:IE)
 | meth (f c:Nat) (o as:IE)
 | lm (b:LM) (o as:IE)
 | sm (b:SM) (o as:IE)
 | chn (p q:CmpOp) (a b c:IE)
 | and (a b:IE)
 | or (a b:IE)
 | not (a:IE)
 | ite (t a b:IE)
 | comp (it e:IE)
 | compP (it e:IE)
 | nil
 | cons (a r:IE)
 | bad
inductive IS where
 | nil
 | rse
 | mtR (t:Option Nat) (f c:Nat) (o as:IE) (r:IS)
 | asgR (i:Nat) (it:IE) (f c:Nat) (o as:IE) (r:IS)
 | asg (i:Nat) (e:IE) (r:IS)
 | unp (is:List Nat) (e:IE) (r:IS)
 | asgU (i:Nat) (it e:IE) (r:IS)
 | asgT (i:Nat) (it t e:IE) (r:IS)
 | asgP (i:Nat) (it e:IE) (r:IS)
 | asgW (i:Nat) (it it2:IE) (r:IS)
 | ret (e:IE)
 | retN
 | exp (e:IE) (r:IS)
 | ifS (t:IE) (a b r:IS)
 | whl (t:IE) (b r:IS)
 | forS (tg:List Nat) (one:Bool) (it:IE) (b r:IS)
 | sAttr (c:Nat) (o e:IE) (r:IS)
 | aAttr (c:Nat) (o e:IE) (r:IS)
 | sItem (o i e:IE) (r:IS)
 | bad
inductive SFl where
 | next | brk | cont
 | ret (v:SV)
structure ifB (c:Bool)(p q:Prop):Prop where
 t:c=true→p
 f:c=false→q
noncomputable def intE (x:SV)(k:Int→Prop)(d:Prop):Prop:=SV.casesOn (motive_1:=fun _=>Prop) x k (fun _=>d) (fun _=>d) (fun _=>d) (fun _=>d) (fun _=>d) (fun _=>d) (fun _ _ _=>d) (fun _ _ _=>d)
noncomputable def strE (x:SV)(k:Str→Prop)(d:Prop):Prop:=SV.casesOn (motive_1:=fun _=>Prop) x (fun _=>d) k (fun _=>d) (fun _=>d) (fun _=>d) (fun _=>d) (fun _=>d) (fun _ _ _=>d) (fun _ _ _=>d)
noncomputable def valE (x:SV)(k:Value→Prop)(d:Prop):Prop:=SV.casesOn (motive_1:=fun _=>Prop) x (fun _=>d) (fun _=>d) k (fun _=>d) (fun _=>d) (fun _=>d) (fun _=>d) (fun _ _ _=>d) (fun _ _ _=>d)
noncomputable def tupE (x:SV)(k:List SV→Prop)(d:Prop):Prop:=SV.casesOn (motive_1:=fun _=>Prop) x (fun _=>d) (fun _=>d) (fun _=>d) k (fun _=>d) (fun _=>d) (fun _=>d) (fun _ _ _=>d) (fun _ _ _=>d)
noncomputable def lstE (x:SV)(k:List SV→Prop)(d:Prop):Prop:=SV.casesOn (motive_1:=fun _=>Prop) x (fun _=>d) (fun _=>d) (fun _=>d) (fun _=>d) k (fun _=>d) (fun _=>d) (fun _ _ _=>d) (fun _ _ _=>d)
noncomputable def rngE (x:SV)(k:Nat→Prop)(d:Prop):Prop:=SV.casesOn (motive_1:=fun _=>Prop) x (fun _=>d) (fun _=>d) (fun _=>d) (fun _=>d) (fun _=>d) k (fun _=>d) (fun _ _ _=>d) (fun _ _ _=>d)
noncomputable def sqE (x:SV)(k:List SV→Prop)(d:Prop):Prop:=SV.casesOn (motive_1:=fun _=>Prop) x (fun _=>d) (fun _=>d) (fun _=>d) (fun _=>d) (fun _=>d) (fun _=>d) k (fun _ _ _=>d) (fun _ _ _=>d)
noncomputable def objE (x:SV)(k:Addr→List Nat→List SV→Prop)(d:Prop):Prop:=SV.casesOn (motive_1:=fun _=>Prop) x (fun _=>d) (fun _=>d) (fun _=>d) (fun _=>d) (fun _=>d) (fun _=>d) (fun _=>d) k (fun _ _ _=>d)
noncomputable def dctE (x:SV)(k:World→List Str→List SV→Prop)(d:Prop):Prop:=SV.casesOn (motive_1:=fun _=>Prop) x (fun _=>d) (fun _=>d) (fun _=>d) (fun _=>d) (fun _=>d) (fun _=>d) (fun _=>d) (fun _ _ _=>d) k
noncomputable def refV (v:Value):Option Addr:=match v with
 | .ref a=>some a
 | _=>none
noncomputable def boolV (v:Value):Option Bool:=match v with
 | .bool c=>some c
 | _=>none
noncomputable def isNoneV (v:Value):Bool:=match v with
 | .none=>true
 | _=>false
noncomputable def optK {α:Type}(o:Option α)(p:α→Prop):Prop:=Option.casesOn (motive:=fun _=>Prop) o False p
noncomputable def optE {α:Type}(o:Option α)(p:α→Prop)(d:Prop):Prop:=Option.casesOn (motive:=fun _=>Prop) o d p
noncomputable def condK (c:Bool)(p:Prop):Prop:=Bool.casesOn (motive:=fun _=>Prop) c False p
noncomputable def refE (x:SV)(k:Addr→Prop)(d:Prop):Prop:=valE x (fun v=>optE (refV v) k d) d
noncomputable def boolE (x:SV)(k:Bool→Prop)(d:Prop):Prop:=valE x (fun v=>optE (boolV v) k d) d
noncomputable def listE {α:Type}(l:List α)(n:Prop)(c:α→List α→Prop):Prop:=List.casesOn (motive:=fun _=>Prop) l n c
noncomputable def arg1 (l:List SV)(k:SV→Prop):Prop:=listE l False fun x r=>listE r (k x) fun _ _=>False
noncomputable def arg2 (l:List SV)(k:SV→SV→Prop):Prop:=listE l False fun x r=>listE r False fun y r=>listE r (k x y) fun _ _=>False
noncomputable def tupK (x:SV)(k:List SV→Prop):Prop:=tupE x k False
noncomputable def boolK (x:SV)(k:Bool→Prop):Prop:=boolE x k False
noncomputable def pairE (x:SV)(k:Int→Int→Prop)(d:Prop):Prop:=tupE x (fun l=>listE l d fun a r=>listE r d fun b r=>listE r (intE a (fun a=>intE b (fun b=>k a b) d) d) fun _ _=>d) d
noncomputable def getK:Sl→Nat→(SV→Prop)→Prop
 | [],_,_=>False
 | o::l,n,k=>Nat.casesOn (motive:=fun _=>Prop) n (optK o k) fun n=>getK l n k
noncomputable def setS:Sl→Nat→SV→Sl
 | [],_,_=>[]
 | x::l,n,v=>Nat.casesOn (motive:=fun _=>Sl) n (some v::l) fun n=>x::setS l n v
noncomputable def setK:Sl→Nat→SV→(Sl→Prop)→Prop
 | [],_,_,k=>k []
 | x::l,n,v,k=>Nat.casesOn (motive:=fun _=>Prop) n (k (some v::l)) fun n=>setK l n v fun l'=>k (x::l')
noncomputable def setsK:Sl→List Nat→List SV→(Sl→Prop)→Prop
 | sl,[],_,k=>k sl
 | sl,i::is,vs,k=>List.casesOn (motive:=fun _=>Prop) vs (k sl) fun v vs=>setK sl i v fun sl'=>setsK sl' is vs k
noncomputable def snocK:List SV→SV→(List SV→Prop)→Prop
 | [],y,k=>k [y]
 | x::l,y,k=>snocK l y fun l'=>k (x::l')
noncomputable def setsS:Sl→List Nat→List SV→Sl
 | sl,[],_=>sl
 | sl,i::is,vs=>List.casesOn (motive:=fun _=>Sl) vs sl fun v vs=>setsS (setS sl i v) is vs
structure fdivOk (x y:Int):Prop where
 ne:y≠0
 py:Builtin.divisionGoesByPylong x y=false
noncomputable def intB (o:Operator)(x y:Int)(k:SV→Prop):Prop:=match o with
 | .Add=>k (.int (x+y))
 | .Sub=>k (.int (x - y))
 | .Mult=>IntMulOk x y∧k (.int (x * y))
 | .FloorDiv=>fdivOk x y∧k (.int (x.fdiv y))
 | .Mod=>y≠0∧k (.int (x.fmod y))
 | .Pow=>(0≤y∧y≤1000000∧x.natAbs < 2 ^ 64)∧k (.int (x ^ y.toNat))
 | _=>False
structure ex1 {α:Type}(A k:α→Prop):Prop where
 ex:∃ x,A x∧k x
structure ex2 {α β:Type}(A k:α→β→Prop):Prop where
 ex:∃ x y,A x y∧k x y
structure ex3 {α β γ:Type}(A k:α→β→γ→Prop):Prop where
 ex:∃ x y z,A x y z∧k x y z
noncomputable def lstB (o:Operator)(x:List SV)(y:SV)(k:SV→Prop):Prop:=match o with
 | .Add=>lstE y (fun y=>(x.length≤100∧y.length≤100)∧k (.lst (x++y))) False
 | .Mult=>intE y (fun y=>arg1 x fun x=>ex1 (fun r=>y=0∧r=[]∨y=1∧r=[x]) fun r=>k (.lst r)) False
 | _=>False
noncomputable def strB (o:Operator)(x:Str)(y:SV)(k:SV→Prop):Prop:=match o with
 | .Add=>strE y (fun y=>condK (Nat.ble x.length 1000&&Nat.ble y.length 1000) (k (.str (x++y)))) False
 | _=>False
noncomputable def tupB (o:Operator)(x:List SV)(y:SV)(k:SV→Prop):Prop:=match o with
 | .Add=>tupE y (fun y=>condK (Nat.ble x.length 100&&Nat.ble y.length 100) (k (.tup (x++y)))) False
 | _=>False
noncomputable def binK (o:Operator)(x y:SV)(k:SV→Prop):Prop:=intE x (fun x=>intE y (fun y=>intB o x y k) False) (lstE x (fun x=>lstB o x y k) (strE x (fun x=>strB o x y k) (tupE x (fun x=>tupB o x y k) False)))
noncomputable def isNone (x:SV):Bool:=SV.casesOn (motive_1:=fun _=>Bool) x (fun _=>false) (fun _=>false) isNoneV (fun _=>false) (fun _=>false) (fun _=>false) (fun _=>false) (fun _ _ _=>false) (fun _ _ _=>false)
noncomputable def plainV:Nat→SV→Prop
 | 0,x=>intE x (fun _=>True) (boolE x (fun _=>True) False)
 | n+1,x=>intE x (fun _=>True) (boolE x (fun _=>True) (tupE x (fun l=>∀ y∈l,plainV n y) False))
noncomputable def isNil {α:Type}(l:List α):Bool:=List.casesOn (motive:=fun _=>Bool) l true fun _ _=>false
inductive LstOf (led:MLd):SV→List SV→Prop
 | fr {l}:LstOf led (.lst l) l
 | sq {l}:LstOf led (.sq l) l
 | mu {a l}:(a,MO.lst l)∈led→LstOf led (.val (.ref a)) l
noncomputable def eqK (kk:Nat)(led:MLd)(x y:SV)(k:Bool→Prop):Prop :=
 intE x (fun x=>intE y (fun y=>k (x==y)) False) (strE x (fun x=>strE y (fun y=>k (x.cps.toList==y.cps.toList)) False) (boolE x (fun x=>boolE y (fun y=>k (x==y)) False)
  (condK (Nat.ble 9 kk) (pairE x (fun a b=>pairE y (fun c d=>k (decide (a=c∧b=d))) False) (ex1 (fun l=>LstOf led x l) fun l=>LstOf led y []∧(∀ v∈l,plainV 3 v)∧k (isNil l))))))
noncomputable def dctGet:List Str→List SV→Str→Option SV
 | [],_,_=>none
 | x::ks,l,k=>List.casesOn (motive:=fun _=>Option SV) l none fun v vs=>Bool.casesOn (motive:=fun _=>Option SV) (strEq x k) (dctGet ks vs k) (some v)
noncomputable def strO (x:SV):Option Str:=SV.casesOn (motive_1:=fun _=>Option Str) x (fun _=>none) some (fun _=>none) (fun _=>none) (fun _=>none) (fun _=>none) (fun _=>none) (fun _ _ _=>none) (fun _ _ _=>none)
noncomputable def strsOf:List SV→Option (List Str)
 | []=>some []
 | x::l=>(strO x).bind fun s=>(strsOf l).map (s::·)
noncomputable def inK (w:World)(x y:SV)(k:Bool→Prop):Prop:=intE x (fun x=>lstE y (fun l=>ex1 (fun ns:List Int=>l=ns.map SV.int) fun ns=>k (ns.any fun y=>y==x)) False)
 (strE x (fun s=>strE y (fun t=>k (Txt.contains t s)) (tupE y (fun l=>optK (strsOf l) fun ss=>k (ss.any fun y=>y==s)) (dctE y (fun w' ks l=>w'=w∧k (dctGet ks l s).isSome) False))) False)
noncomputable def cmpK (w:World)(kk:Nat)(led:MLd)(o:CmpOp)(x y:SV)(k:Bool→Prop):Prop:=match o with
 | .Lt=>intE x (fun x=>intE y (fun y=>k (decide (x < y))) False) False
 | .LtE=>intE x (fun x=>intE y (fun y=>k (decide (x≤y))) False) False
 | .Gt=>intE x (fun x=>intE y (fun y=>k (decide (y < x))) False) False
 | .GtE=>intE x (fun x=>intE y (fun y=>k (decide (y≤x))) False) False
 | .Eq=>eqK kk led x y k
 | .NotEq=>eqK kk led x y fun c=>k (!c)
 | .Is=>condK (isNone y) (k (isNone x))
 | .IsNot=>condK (isNone y) (k (!isNone x))
 | .In=>inK w x y k
 | .NotIn=>inK w x y fun c=>k (!c)
noncomputable def idx {α:Type}(l:List α)(j:Int):Option α:=Int.casesOn (motive:=fun _=>Option α) j (fun n=>l[n]?) fun n=>Nat.casesOn (motive:=fun _=>Option α) n l.getLast? fun _=>none
noncomputable def muK (led:MLd)(x:SV)(k:List SV→Prop):Prop:=refE x (fun a=>ex1 (fun l=>(a,MO.lst l)∈led) k) False
noncomputable def seqK (led:MLd)(x:SV)(k:List SV→Prop):Prop:=tupE x k (lstE x k (sqE x k (muK led x k)))
noncomputable def itemK (w:World)(led:MLd)(x i:SV)(k:SV→Prop):Prop:=intE i (fun j=>strE x (fun s=>condK (fitsSsize j&&(Txt.charAt s j).isSome) (k (.str (Txt.item s j)))) (tupE x (fun l=>condK (Nat.ble l.length 1000) (optK (idx l j) k)) (seqK led x fun l=>ex1 (fun v=>idx l j=some v) fun v=>l.length≤1000000000∧k v)))
 (strE i (fun s=>dctE x (fun w' ks l=>w'=w∧optK (dctGet ks l s) k) False) False)
noncomputable def slcL (l:List SV)(lo hi:Option Int)(k:List SV→Prop):Prop:=optE hi (fun h=>Int.casesOn (motive:=fun _=>Prop) h (fun a=>condK (isNil lo.toList) (condK (Nat.blt a l.length) (k (l.take a)))) fun n=>condK (Nat.beq n 0) (condK (Nat.beq l.length 2) (optK lo fun j=>condK (decide (j=1)) (k []))))
 (optK lo fun j=>Int.casesOn (motive:=fun _=>Prop) j (fun a=>condK (Nat.blt 0 a&&Nat.ble a l.length) (k (l.drop a))) fun _=>False)
noncomputable def slsK (s:Str)(lo hi:Option Int)(k:SV→Prop):Prop:=condK (Nat.ble s.length 1000) (k (.str (Txt.slice s lo hi)))
noncomputable def slcK (x:SV)(lo hi:Option Int)(k:SV→Prop):Prop:=strE x (fun s=>slsK s lo hi k) (tupE x (fun l=>l.length≤1000∧slcL l lo hi fun r=>k (.tup r)) (lstE x (fun l=>l.length≤1000∧slcL l lo hi fun r=>k (.lst r)) False))
noncomputable def fieldOf:List Nat→List SV→Nat→Option SV
 | [],_,_=>none
 | n::ns,l,c=>List.casesOn (motive:=fun _=>Option SV) l none fun v vs=>if Nat.beq n c then some v else fieldOf ns vs c
noncomputable def setField:List Nat→List SV→Nat→SV→List Nat × List SV
 | [],_,c,u=>([c],[u])
 | n::ns,l,c,u=>List.casesOn (motive:=fun _=>List Nat × List SV) l ([c],[u]) fun v vs=>if Nat.beq n c then (n::ns,u::vs) else ((n::(setField ns vs c u).1),v::(setField ns vs c u).2)
noncomputable def fldK:List Nat→List SV→Nat→SV→(List Nat→List SV→Prop)→Prop
 | [],_,c,u,k=>k [c] [u]
 | n::ns,l,c,u,k=>listE l (k [c] [u]) fun v vs=>Bool.casesOn (motive:=fun _=>Prop) (Nat.beq n c) (fldK ns vs c u fun ns' l'=>k (n::ns') (v::l')) (k (n::ns) (u::vs))
noncomputable def GA:List (Nat × List Nat):=[(654,[0,1,2,3,4,5]),(697,[6,7,8,9]),(583,[10,11,12,13,14,15,16,17,18]),(242,[22,25]),(752,[19,20,21,22]),(820,[23,11,24])]
noncomputable def getOk (C c:Nat):Bool:=GA.any fun q=>Nat.beq q.1 C&&q.2.any (Nat.beq c)
noncomputable def MTN:List Str:=["row","vector","point","is_flat","fine","begin","end","go","close","take","is_one_of","skip","digits","get","put_out","group_of"]
noncomputable abbrev mn (c:Nat):Str:=MTN.getD c Str.empty
noncomputable def MT:List (Nat × Nat × Nat):=[(616,654,0),(623,654,1),(630,654,2),(687,697,3),(542,583,4),(549,583,5),(554,583,6),(559,583,7),(566,583,8),(573,583,9),(225,242,10),(232,242,11),(239,242,12),(749,752,13),(810,820,14),(817,820,15)]
noncomputable def methOk (C c f:Nat):Bool:=MT.any fun q=>Nat.beq q.1 f&&(Nat.beq q.2.1 C&&Nat.beq q.2.2 c)
noncomputable def handedV (v:Value):Bool:=match v with
 | .builtin _=>false
 | _=>true
noncomputable def handedS (x:SV):Bool:=SV.casesOn (motive_1:=fun _=>Bool) x (fun _=>true) (fun _=>true) handedV (fun _=>true) (fun _=>true) (fun _=>true) (fun _=>true) (fun _ _ _=>true) (fun _ _ _=>true)
noncomputable def instK (led:MLd)(x:SV)(k:Addr→List Nat→List SV→Prop):Prop:=objE x k (refE x (fun a=>ex3 (fun C ns l=>(a,MO.inst C ns l)∈led) k) False)
noncomputable def attrK (led:MLd)(x:SV)(c:Nat)(k:SV→Prop):Prop:=instK led x fun C ns l=>condK (getOk C c) (optK (fieldOf ns l c) fun r=>condK (handedS r) (k r))
noncomputable def MethOk (led:MLd)(x:SV)(f c:Nat)(p:Prop):Prop:=instK led x fun C _ _=>condK (methOk C c f) p
structure callG (X:Pw)(may:Prop)(kk:Nat)(f:Addr)(vs:List SV)(led:MLd)(k:SV→MLd→Prop):Prop where
 ex:∃ k1 lin rest P,Nat.blt k1 kk=true∧LSplit led lin rest∧FnG X f vs lin k1 P may X.l0∧∀ r l,P r l→k r (l++rest)
noncomputable abbrev callK (X:Pw):Nat→Addr→List SV→MLd→(SV→MLd→Prop)→Prop:=callG X False
noncomputable def IN:List (Nat × Nat):=[(654,609),(697,680),(583,535),(242,218),(752,741),(820,803)]
noncomputable def initOk (C f:Nat):Bool:=IN.any fun q=>Nat.beq q.1 C&&Nat.beq q.2 f
structure newK (X:Pw)(kk:Nat)(C:Addr)(vs:List SV)(led:MLd)(k:SV→MLd→Prop):Prop where
 ex:∃ fI k1 lin rest,∃ P:Addr→SV→MLd→Prop,initOk C fI=true∧Nat.blt (k1+1) kk=true∧LSplit led lin rest∧(∀ x,Fn X fI (.ref x::vs) ((x,.inst C [] [])::lin) k1 (P x))∧∀ x r l,P x r l→r=.none∧∃ r' l',Fz [.ref x] (l++rest) [r'] l'∧k r' l'
noncomputable abbrev absI (x:Int):Int:=if x < 0 then -x else x
noncomputable def intsV (l:List SV)(k:List Int→Prop):Prop:=ex1 (fun ns:List Int=>l=ns.map SV.int) fun ns=>ns.length≤100∧k ns
noncomputable def biK (led:MLd)(b:BI)(vs:List SV)(k:SV→Prop):Prop:=match b with
 | .abs=>arg1 vs fun x=>intE x (fun x=>k (.int (absI x))) False
 | .int=>arg1 vs fun x=>intE x (fun x=>k (.int x)) (boolE x (fun c=>k (.int (if c then 1 else 0))) False)
 | .max=>listE vs False fun x r=>listE r (lstE x (fun l=>intsV l fun ns=>ns≠[]∧∀ M,M∈ns→(∀ x∈ns,x≤M)→k (.int M)) False) fun y r=>intE x (fun x=>intE y (fun y=>condK (isNil r) (k (.int (if y > x then y else x)))) False) False
 | .min=>listE vs False fun x r=>listE r (lstE x (fun l=>intsV l fun ns=>ns≠[]∧∀ M,M∈ns→(∀ x∈ns,M≤x)→k (.int M)) False) fun y r=>intE x (fun x=>intE y (fun y=>condK (isNil r) (k (.int (if y < x then y else x)))) False) False
 | .sum=>arg1 vs fun x=>lstE x (fun l=>intsV l fun ns=>k (.int ns.sum)) False
 | .len=>arg1 vs fun x=>strE x (fun s=>condK (Nat.ble s.length 1000) (k (.int s.length))) (seqK led x fun l=>l.length < 1000000000∧k (.int l.length))
 | .range=>arg1 vs fun x=>intE x (fun n=>(0≤n∧n≤1000)∧k (.rng n.toNat)) False
 | .list=>arg1 vs fun x=>tupE x (fun l=>l.length≤100∧k (.lst l)) False
 | .tuple=>arg1 vs fun x=>ex1 (fun l=>LstOf led x l) fun l=>l.length≤100∧k (.tup l)
 | .str=>arg1 vs fun x=>intE x (fun x=>condK (Nat.blt x.natAbs.log2 1920) (k (.str (toString x)))) False
noncomputable def nodupS:List Str→Bool
 | []=>true
 | x::l=>l.all (fun y=>!strEq x y)&&nodupS l
noncomputable def SmOn (b:SM)(x:SV)(p:Prop):Prop:=SM.casesOn (motive:=fun _=>Prop) b (strE x (fun _=>p) False) (strE x (fun _=>p) False) (strE x (fun _=>p) False) (dctE x (fun _ _ _=>p) False)
noncomputable def smK (w:World)(b:SM)(x:SV)(vs:List SV)(k:SV→Prop):Prop:=match b with
 | .strip=>strE x (fun s=>listE vs (condK (Nat.ble s.length 1000) (k (.str (Txt.strip s)))) fun _ _=>False) False
 | .endswith=>strE x (fun s=>arg1 vs fun y=>strE y (fun y=>k (.bool (Txt.endswith s y))) False) False
 | .index=>strE x (fun s=>arg1 vs fun y=>strE y (fun y=>ex2 (fun i rest=>Builtin.Str.occurrences s y 0 s.length 1=i::rest) fun i _=>k (.int (i:Nat))) False) False
 | .get=>dctE x (fun w' ks l=>w'=w∧listE vs False fun a r=>strE a (fun key=>listE r (k ((dctGet ks l key).getD .none)) fun d r2=>condK (isNil r2) (k ((dctGet ks l key).getD d))) False) False
noncomputable def opK (X:Pw)(kk:Nat)(o:Op)(vs:List SV)(led:MLd)(k:SV→MLd→Prop):Prop:=match o with
 | .bin o=>arg2 vs fun a b=>binK o a b fun r=>k r led
 | .neg=>arg1 vs fun a=>intE a (fun a=>k (.int (-a)) led) False
 | .cmp o=>arg2 vs fun a b=>cmpK X.w kk led o a b fun c=>k (.bool c) led
 | .tup=>condK (Nat.ble vs.length 40) (k (.tup vs) led)
 | .lst=>condK (Nat.ble vs.length 40) (k (.lst vs) led)
 | .mls=>condK (Nat.ble vs.length 40) (∀ a,k (.val (.ref a)) ((a,MO.lst vs)::led))
 | .item=>arg2 vs fun a i=>itemK X.w led a i fun r=>k r led
 | .slc lo hi=>arg1 vs fun a=>slcK a lo hi fun r=>k r led
 | .sls=>listE vs False fun v r=>arg2 r fun a b=>strE v (fun s=>intE a (fun a=>intE b (fun b=>slsK s (some a) (some b) fun r=>k r led) False) False) False
 | .dsp ks=>k (.dct X.w ks vs) led
 | .mdc=>listE vs (∀ a,k (.val (.ref a)) ((a,MO.dct X.w)::led)) fun _ _=>False
 | .attr c=>arg1 vs fun a=>attrK led a c fun r=>k r led
 | .call f=>callK X kk f vs led k
 | .new C=>newK X kk C vs led k
 | .bi b=>biK led b vs fun r=>k r led
noncomputable def lmK (led:MLd)(b:LM)(x:SV)(vs:List SV)(k:SV→MLd→Prop):Prop:=refE x (fun a=>match b with
 | .append=>arg1 vs fun x=>ex2 (fun l led'=>LUpd a (.lst l) (.lst (l++[x])) led led') fun l led'=>l.length≤1000∧k .none led'
 | .pop=>listE vs (ex3 (fun l x led'=>LUpd a (.lst (l++[x])) (.lst l) led led') fun l x led'=>l.length≤1000∧k x led') fun _ _=>False
 | .extend=>arg1 vs fun x=>lstE x (fun r=>ex2 (fun l led'=>LUpd a (.lst l) (.lst (l++r)) led led') fun l led'=>(l.length≤1000∧r.length≤1000)∧k .none led') False) False
noncomputable def MutL (led:MLd)(x:SV)(p:Prop):Prop:=refE x (fun a=>ex1 (fun l=>(a,MO.lst l)∈led) fun _=>p) False
noncomputable def rangeV (n:Nat):List SV:=(List.range n).map fun (i:Nat)=>SV.int (i:Int)
noncomputable def lstK (x:SV)(k:List SV→Prop):Prop:=lstE x (fun l=>l.length≤1000∧k l) False
noncomputable def iterK (x:SV)(k:List SV→Prop):Prop:=lstE x (fun l=>l.length≤1000∧k l) (rngE x (fun n=>n≤1000∧k (rangeV n)) False)
noncomputable def charsV (s:Str):List SV:=s.cps.toList.map fun c=>.str ⟨#[c]⟩
noncomputable def iterF (w:World)(one:Bool)(x:SV)(k:List SV→Prop):Prop:=lstE x (fun l=>l.length≤1000∧k l) (condK one (tupE x (fun l=>l.length≤1000∧k l) (rngE x (fun n=>n≤1000∧k (rangeV n)) (strE x (fun s=>condK (s.cps.toList.all (· < 128)) (k (charsV s))) (dctE x (fun w' ks _=>w'=w∧k (ks.map .str)) False)))))
noncomputable def compL0 (F:SV→MLd→(SV→MLd→Prop)→Prop):List SV→List SV→MLd→(List SV→MLd→Prop)→Prop
 | [],acc,led,k=>k acc led
 | x::r,acc,led,k=>F x led fun y led'=>snocK acc y fun acc=>compL0 F r acc led' k
structure compL (F:SV→MLd→(SV→MLd→Prop)→Prop)(l acc:List SV)(led:MLd)(k:List SV→MLd→Prop):Prop where
 ex:compL0 F l acc led k
noncomputable def compT0 (F:SV→MLd→(Bool→MLd→Prop)→Prop)(G:SV→MLd→(SV→MLd→Prop)→Prop):List SV→List SV→MLd→(List SV→MLd→Prop)→Prop
 | [],acc,led,k=>k acc led
 | x::r,acc,led,k=>F x led fun c led1=>ifB c (G x led1 fun y led'=>snocK acc y fun acc=>compT0 F G r acc led' k) (compT0 F G r acc led1 k)
structure compT (F:SV→MLd→(Bool→MLd→Prop)→Prop)(G:SV→MLd→(SV→MLd→Prop)→Prop)(l acc:List SV)(led:MLd)(k:List SV→MLd→Prop):Prop where
 ex:compT0 F G l acc led k
noncomputable def compW0 (F:SV→MLd→(SV→MLd→Prop)→Prop):List SV→List SV→MLd→(List SV→MLd→Prop)→Prop
 | [],acc,led,k=>k acc led
 | x::r,acc,led,k=>F x led fun y led'=>tupK y fun l=>(acc++l).length≤1000∧compW0 F r (acc++l) led' k
structure compW (F:SV→MLd→(SV→MLd→Prop)→Prop)(l acc:List SV)(led:MLd)(k:List SV→MLd→Prop):Prop where
 ex:compW0 F l acc led k
noncomputable abbrev FK:=SFl→Sl→MLd→Prop
noncomputable def flK (f:SFl)(n b c:Prop)(r:SV→Prop):Prop:=SFl.casesOn (motive:=fun _=>Prop) f n b c r
noncomputable def forL0 (B:SV→Sl→MLd→FK→Prop):List SV→Sl→MLd→FK→Prop
 | [],sl,led,K=>K .next sl led
 | x::r,sl,led,K=>B x sl led fun fl sl' led'=>flK fl (forL0 B r sl' led' K) (K .next sl' led') (forL0 B r sl' led' K) fun v=>K (.ret v) sl' led'
structure forL (B:SV→Sl→MLd→FK→Prop)(l:List SV)(sl:Sl)(led:MLd)(K:FK):Prop where
 ex:forL0 B l sl led K
noncomputable def bindF (tg:List Nat)(one:Bool)(sl:Sl)(x:SV)(k:Sl→Prop):Prop:=Bool.casesOn (motive:=fun _=>Prop) one (tupK x fun l=>condK (Nat.beq l.length tg.length) (setsK sl tg l k)) (listE tg False fun i r=>condK (isNil r) (setK sl i x k))
noncomputable def GV:List (Str × SV):=[("ZERO",.tup [.int 0,.int 1]),("ONE",.tup [.int 1,.int 1]),("BOX_GRAIN",.int 64),("LEAST_GRAINS",.tup [.int 1024,.int 1]),("DIGITS",.str "0123456789"),("MOST_FIGURES",.int 60),("MOST_VALUE",.int (10 ^ 60)),("MOST_WRITTEN",.int (10 ^ 4000)),("PLACES",.int 20),("OWN_WORDS",.tup [.str "x",.str "y",.str "width",.str "height",.str "href",.str "xlink:href",.str "transform",.str "id"]),("MOST_LEVELS",.int 60),("MOST_DEEP",.int 12)]
noncomputable def pairK (x:SV)(k:SV→SV→Prop):Prop:=tupK x fun l=>arg2 l k
noncomputable def vcE (X:Pw)(kk:Nat):IE→Sl→MLd→(SV→MLd→Prop)→Prop
 | .loc i,sl,led,k=>getK sl i fun v=>k v led
 | .cst v,_,led,k=>k v led
 | .glo j,_,led,k=>optK GV[j]? fun q=>k q.2 led
 | .op o as,sl,led,k=>vcE X kk as sl led fun r led1=>tupK r fun vs=>opK X kk o vs led1 k
 | .meth f c o as,sl,led,k=>vcE X kk o sl led fun ov led1=>MethOk led1 ov f c (vcE X kk as sl led1 fun r led2=>tupK r fun vs=>callK X kk f (ov::vs) led2 k)
 | .lm b o as,sl,led,k=>vcE X kk o sl led fun ov led1=>MutL led1 ov (vcE X kk as sl led1 fun r led2=>tupK r fun vs=>lmK led2 b ov vs k)
 | .sm b o as,sl,led,k=>vcE X kk o sl led fun ov led1=>SmOn b ov (vcE X kk as sl led1 fun r led2=>tupK r fun vs=>smK X.w b ov vs fun r=>k r led2)
 | .chn p q a b c,sl,led,k=>vcE X kk a sl led fun x led1=>vcE X kk b sl led1 fun y led2=>cmpK X.w kk led2 p x y fun c1=>ifB c1 (vcE X kk c sl led2 fun z led3=>cmpK X.w kk led3 q y z fun c2=>k (.bool c2) led3) (k (.bool false) led2)
 | .and a b,sl,led,k=>vcE X kk a sl led fun v led1=>boolK v fun c=>ifB c (vcE X kk b sl led1 k) (k (.bool false) led1)
 | .or a b,sl,led,k=>vcE X kk a sl led fun v led1=>boolK v fun c=>ifB c (k (.bool true) led1) (vcE X kk b sl led1 k)
 | .not a,sl,led,k=>vcE X kk a sl led fun v led1=>boolK v fun c=>k (.bool (!c)) led1
 | .ite t a b,sl,led,k=>vcE X kk t sl led fun v led1=>boolK v fun c=>ifB c (vcE X kk a sl led1 k) (vcE X kk b sl led1 k)
 | .comp it e,sl,led,k=>vcE X kk it sl led fun iv led1=>iterK iv fun l=>compL (fun x led2 k2=>vcE X kk e (sl++[some x]) led2 k2) l [] led1 fun acc led'=>k (.lst acc) led'
 | .compP it e,sl,led,k=>vcE X kk it sl led fun iv led1=>lstK iv fun l=>compL (fun x led2 k2=>pairK x fun a b=>vcE X kk e (sl++[some a,some b]) led2 k2) l [] led1 fun acc led'=>k (.lst acc) led'
 | .nil,_,led,k=>k (.tup []) led
 | .cons a r,sl,led,k=>vcE X kk a sl led fun v led1=>vcE X kk r sl led1 fun vs led2=>tupK vs fun l=>k (.tup (v::l)) led2
 | .bad,_,_,_=>False
noncomputable def thenK (r:Sl→MLd→Prop)(K:FK):FK:=fun fl sl led=>flK fl (r sl led) (K .brk sl led) (K .cont sl led) fun v=>K (.ret v) sl led
noncomputable def attrS (ov:SV)(c:Nat)(v:SV)(led2:MLd)(P:MLd→Prop):Prop:=refE ov (fun a=>ex3 (fun C ns l=>(a,MO.inst C ns l)∈led2) fun C ns l=>fldK ns l c v fun ns' l'=>ex1 (fun led'=>LUpd a (.inst C ns l) (.inst C ns' l') led2 led') fun led'=>condK (getOk C c) (condK (Nat.ble ns.length 100) (P led'))) False
noncomputable def itemS (w:World)(ov iv v:SV)(led2:MLd)(P:MLd→Prop):Prop:=refE ov (fun a=>intE iv (fun j=>Int.casesOn (motive:=fun _=>Prop) j (fun j=>ex2 (fun l led'=>LUpd a (.lst l) (.lst (l.set j v)) led2 led') fun l led'=>(j < l.length∧l.length≤1000)∧P led') fun _=>False) (strE iv (fun _=>ex1 (fun led'=>LSplit led2 [(a,.dct w)] led') P) False)) False
noncomputable def methR (X:Pw)(may:Prop)(kk:Nat)(f c:Nat)(o as:IE)(sl:Sl)(led:MLd)(k:SV→MLd→Prop):Prop:=vcE X kk o sl led fun ov led1=>MethOk led1 ov f c (vcE X kk as sl led1 fun r led2=>tupK r fun vs=>callG X may kk f (ov::vs) led2 k)
noncomputable def vcS (X:Pw)(kk:Nat):IS→Sl→MLd→FK→Prop
 | .nil,sl,led,K=>K .next sl led
 | .rse,_,_,_=>condK (Nat.ble 9 kk) X.z
 | .mtR t f c o as r,sl,led,K=>methR X X.z kk f c o as sl led fun v led'=>optE t (fun i=>setK sl i v fun sl=>vcS X kk r sl led' K) (K (.ret v) sl led')
 | .asgR i it f c o as r,sl,led,K=>(vcE X kk it sl led fun iv led1=>iterK iv fun l=>compL (fun x led2 k2=>vcE X kk .bad (sl++[some x]) led2 k2) l [] led1 fun acc led'=>setK sl i (.lst acc) fun sl=>vcS X kk r sl led' K)∨vcE X kk it sl led fun iv led1=>lstK iv fun l=>arg1 l fun x=>methR X X.z kk f c o as (sl++[some x]) led1 fun v led'=>setK sl i (.lst [v]) fun sl=>vcS X kk r sl led' K
 | .asg i e r,sl,led,K=>vcE X kk e sl led fun v led1=>setK sl i v fun sl=>vcS X kk r sl led1 K
 | .unp is e r,sl,led,K=>vcE X kk e sl led fun v led1=>seqK led1 v fun l=>condK (Nat.beq l.length is.length) (setsK sl is l fun sl=>vcS X kk r sl led1 K)
 | .asgU i it e r,sl,led,K=>vcE X kk it sl led fun iv led1=>iterK iv fun l=>compL (fun x led2 k2=>vcE X kk e (sl++[some x]) led2 k2) l [] led1 fun acc led'=>setK sl i (.lst acc) fun sl=>vcS X kk r sl led' K
 | .asgT i it t e r,sl,led,K=>vcE X kk it sl led fun iv led1=>lstK iv fun l=>compT (fun x led2 k2=>vcE X kk t (sl++[some x]) led2 fun v led3=>boolK v fun c=>k2 c led3) (fun x led2 k2=>vcE X kk e (sl++[some x]) led2 k2) l [] led1 fun acc led'=>setK sl i (.lst acc) fun sl=>vcS X kk r sl led' K
 | .asgP i it e r,sl,led,K=>vcE X kk it sl led fun iv led1=>lstK iv fun l=>compL (fun x led2 k2=>pairK x fun a b=>vcE X kk e (sl++[some a,some b]) led2 k2) l [] led1 fun acc led'=>setK sl i (.lst acc) fun sl=>vcS X kk r sl led' K
 | .asgW i it it2 r,sl,led,K=>vcE X kk it sl led fun iv led1=>lstK iv fun l=>compW (fun x led2 k2=>vcE X kk it2 (sl++[some x]) led2 k2) l [] led1 fun acc led'=>setK sl i (.lst acc) fun sl=>vcS X kk r sl led' K
 | .ret e,sl,led,K=>vcE X kk e sl led fun v led1=>K (.ret v) sl led1
 | .retN,sl,led,K=>K (.ret .none) sl led
 | .exp e r,sl,led,K=>vcE X kk e sl led fun _ led1=>vcS X kk r sl led1 K
 | .ifS t a b r,sl,led,K=>vcE X kk t sl led fun v led1=>boolK v fun c=>ifB c (vcS X kk a sl led1 (thenK (fun sl' led'=>vcS X kk r sl' led' K) K)) (vcS X kk b sl led1 (thenK (fun sl' led'=>vcS X kk r sl' led' K) K))
 | .whl t b r,sl,led,K=>∃ (N:Nat) (I:Nat→Sl→MLd→Prop),I N sl led∧∀ n sl led,I n sl led→vcE X kk t sl led fun v led1=>boolK v fun c=>ifB c
   (vcS X kk b sl led1 fun fl sl' led'=>flK fl (∃ j,j < n∧I j sl' led') (vcS X kk r sl' led' K) (∃ j,j < n∧I j sl' led') fun v=>K (.ret v) sl' led') (vcS X kk r sl led1 K)
 | .forS tg one it b r,sl,led,K=>vcE X kk it sl led fun iv led1=>iterF X.w one iv fun l=>forL (fun x sl led K=>bindF tg one sl x fun sl'=>vcS X kk b sl' led K) l sl led1 (thenK (fun sl' led'=>vcS X kk r sl' led' K) K)
 | .sAttr c o e r,sl,led,K=>vcE X kk e sl led fun v led1=>vcE X kk o sl led1 fun ov led2=>attrS ov c v led2 fun led'=>vcS X kk r sl led' K
 | .aAttr c o e r,sl,led,K=>vcE X kk o sl led fun ov led1=>attrK led1 ov c fun old=>intE old (fun x=>vcE X kk e sl led1 fun v led2=>intE v (fun y=>attrS ov c (.int (x+y)) led2 fun led'=>vcS X kk r sl led' K) False) False
 | .sItem o i e r,sl,led,K=>vcE X kk e sl led fun v led1=>vcE X kk o sl led1 fun ov led2=>vcE X kk i sl led2 fun iv led3=>itemS X.w ov iv v led3 fun led'=>vcS X kk r sl led' K
 | .bad,_,_,_=>False
end
end Mine
end
section
namespace Mine
noncomputable section
noncomputable def knd:Expr→Nat
 | .ListComp ..=>1
 | .Compare ..=>2
 | .BoolOp ..=>2
 | .IfExp ..=>2
 | .UnaryOp op _ _=>(match op with
  | .USub=>4
  | .Not=>2
  | _=>0)
 | .Call f args _ _=>(match f with
  | .Attribute ..=>4
  | .Name ..=>(match args with
   | []=>3
   | _=>4)
  | _=>0)
 | .Name ..=>4
 | .Constant ..=>4
 | .BinOp ..=>4
 | .Attribute ..=>4
 | .Subscript ..=>4
 | .Tuple ..=>4
 | .List ..=>4
 | .Dict ..=>4
 | _=>0
noncomputable def tupX (e:Expr):Option (List Expr):=match e with
 | .Tuple es _ _=>some es
 | _=>none
theorem noSome {α:Type}{j:α}{P:Prop}(h:none=some j):P:=by cases h
structure FormOk (k:Nat)(e:Expr):Prop where
 star:∀ r env,starEach (e::r) env=(false,eval e env)::starEach r env
 sub:∀ a b,subscripted e false a b=operate [a,b] (getItem a b)
 fold:∀ env x,foldedSetIterable e env x=pure x
 swT:∀ t line env,(∀ x p,t≠.Name x p)→swapsWith e (some t) line env=pure false
 swN:Nat.beq k 1=false→∀ t line env,swapsWith e t line env=pure false
 swS:tupX e=none→∀ elts k p env,swappedStores [.Tuple elts k p] e env=pure none
 base:Nat.beq k 4=true→∀ attr env,attributeBase e attr env (eval e env)=eval e env
 test:Nat.beq k 2=false→∀ env whole,isTrue e env whole=(do let v ← whole;standAt e.pos;holding [v] (truthy v))
theorem FormOk.mk4 {k:Nat}{e:Expr}(star:∀ r env,starEach (e::r) env=(false,eval e env)::starEach r env)
 (sub:∀ a b,subscripted e false a b=operate [a,b] (getItem a b)) (fold:∀ env x,foldedSetIterable e env x=pure x) (swN:∀ t line env,swapsWith e t line env=pure false)
 (swS:tupX e=none→∀ elts k p env,swappedStores [.Tuple elts k p] e env=pure none) (base:Nat.beq k 4=true→∀ attr env,attributeBase e attr env (eval e env)=eval e env)
 (test:Nat.beq k 2=false→∀ env whole,isTrue e env whole=(do let v ← whole;standAt e.pos;holding [v] (truthy v))):FormOk k e:=⟨star,sub,fold,fun t l env _=>swN (some t) l env,fun _=>swN,swS,base,test⟩
theorem form_ok (e:Expr)(h:Nat.blt 0 (knd e)=true):FormOk (knd e) e:=by
 cases e with
 | ListComp elt gens sc p=>exact ⟨fun _ _=>rfl,fun _ _=>rfl,fun _ _=>rfl,fun t _ _ hn=>(by cases t <;> first | rfl | exact absurd rfl (hn _ _)),fun h=>Bool.noConfusion h,fun _ _ _ _ _=>rfl,fun h=>Bool.noConfusion h,fun _ _ _=>rfl⟩
 | Compare l o r p=>exact .mk4 (fun _ _=>rfl) (fun _ _=>rfl) (fun _ _=>rfl) (fun _ _ _=>rfl) (fun _ _ _ _ _=>rfl) (fun h=>Bool.noConfusion h) (fun h=>Bool.noConfusion h)
 | BoolOp o r p=>exact .mk4 (fun _ _=>rfl) (fun _ _=>rfl) (fun _ _=>rfl) (fun _ _ _=>rfl) (fun _ _ _ _ _=>rfl) (fun h=>Bool.noConfusion h) (fun h=>Bool.noConfusion h)
 | IfExp t a b p=>exact .mk4 (fun _ _=>rfl) (fun _ _=>rfl) (fun _ _=>rfl) (fun _ _ _=>rfl) (fun _ _ _ _ _=>rfl) (fun h=>Bool.noConfusion h) (fun h=>Bool.noConfusion h)
 | UnaryOp op a p=>cases op with
  | USub=>exact .mk4 (fun _ _=>rfl) (fun _ _=>rfl) (fun _ _=>rfl) (fun _ _ _=>rfl) (fun _ _ _ _ _=>rfl) (fun _ _ _=>rfl) (fun _ _ _=>rfl)
  | Not=>exact .mk4 (fun _ _=>rfl) (fun _ _=>rfl) (fun _ _=>rfl) (fun _ _ _=>rfl) (fun _ _ _ _ _=>rfl) (fun h=>Bool.noConfusion h) (fun h=>Bool.noConfusion h)
  | _=>exact Bool.noConfusion h
 | Call f args kws p=>cases f with
  | Attribute=>exact .mk4 (fun _ _=>rfl) (fun _ _=>rfl) (fun _ _=>rfl) (fun _ _ _=>rfl) (fun _ _ _ _ _=>rfl) (fun _ _ _=>rfl) (fun _ _ _=>rfl)
  | Name=>cases args with
   | nil=>exact .mk4 (fun _ _=>rfl) (fun _ _=>rfl) (fun _ _=>rfl) (fun _ _ _=>rfl) (fun _ _ _ _ _=>rfl) (fun h=>Bool.noConfusion h) (fun _ _ _=>rfl)
   | cons=>exact .mk4 (fun _ _=>rfl) (fun _ _=>rfl) (fun _ _=>rfl) (fun _ _ _=>rfl) (fun _ _ _ _ _=>rfl) (fun _ _ _=>rfl) (fun _ _ _=>rfl)
  | _=>exact Bool.noConfusion h
 | Name=>exact .mk4 (fun _ _=>rfl) (fun _ _=>rfl) (fun _ _=>rfl) (fun _ _ _=>rfl) (fun _ _ _ _ _=>rfl) (fun _ _ _=>rfl) (fun _ _ _=>rfl)
 | Constant=>exact .mk4 (fun _ _=>rfl) (fun _ _=>rfl) (fun _ _=>rfl) (fun _ _ _=>rfl) (fun _ _ _ _ _=>rfl) (fun _ _ _=>rfl) (fun _ _ _=>rfl)
 | BinOp=>exact .mk4 (fun _ _=>rfl) (fun _ _=>rfl) (fun _ _=>rfl) (fun _ _ _=>rfl) (fun _ _ _ _ _=>rfl) (fun _ _ _=>rfl) (fun _ _ _=>rfl)
 | Attribute=>exact .mk4 (fun _ _=>rfl) (fun _ _=>rfl) (fun _ _=>rfl) (fun _ _ _=>rfl) (fun _ _ _ _ _=>rfl) (fun _ _ _=>rfl) (fun _ _ _=>rfl)
 | Subscript=>exact .mk4 (fun _ _=>rfl) (fun _ _=>rfl) (fun _ _=>rfl) (fun _ _ _=>rfl) (fun _ _ _ _ _=>rfl) (fun _ _ _=>rfl) (fun _ _ _=>rfl)
 | Tuple=>exact .mk4 (fun _ _=>rfl) (fun _ _=>rfl) (fun _ _=>rfl) (fun _ _ _=>rfl) (fun h=>noSome h.symm) (fun _ _ _=>rfl) (fun _ _ _=>rfl)
 | Dict=>exact .mk4 (fun _ _=>rfl) (fun _ _=>rfl) (fun _ _=>rfl) (fun _ _ _=>rfl) (fun _ _ _ _ _=>rfl) (fun _ _ _=>rfl) (fun _ _ _=>rfl)
 | List=>exact .mk4 (fun _ _=>rfl) (fun _ _=>rfl) (fun _ _=>rfl) (fun _ _ _=>rfl) (fun _ _ _ _ _=>rfl) (fun _ _ _=>rfl) (fun _ _ _=>rfl)
 | _=>exact Bool.noConfusion h
end
end Mine
end
section
namespace Mine
noncomputable section
structure CC where
 names:List (Option Str)
 isG:Str→Bool
 cells:List Str
 top:Bool
noncomputable abbrev plainArg (e:Expr):Bool:=Nat.blt 0 (knd e)
section
variable {x:SV}{d:Prop}
theorem intE_of {k:Int→Prop}(h:intE x k d):(∃ n,x=.int n∧k n)∨d:=by
 cases x with
 | int n=>exact .inl ⟨n,rfl,h⟩
 | _=>exact .inr h
theorem strE_of {k:Str→Prop}(h:strE x k d):(∃ n,x=.str n∧k n)∨d:=by
 cases x with
 | str n=>exact .inl ⟨n,rfl,h⟩
 | _=>exact .inr h
theorem valE_of {k:Value→Prop}(h:valE x k d):(∃ n,x=.val n∧k n)∨d:=by
 cases x with
 | val n=>exact .inl ⟨n,rfl,h⟩
 | _=>exact .inr h
theorem tupE_of {k:List SV→Prop}(h:tupE x k d):(∃ n,x=.tup n∧k n)∨d:=by
 cases x with
 | tup n=>exact .inl ⟨n,rfl,h⟩
 | _=>exact .inr h
theorem lstE_of {k:List SV→Prop}(h:lstE x k d):(∃ n,x=.lst n∧k n)∨d:=by
 cases x with
 | lst n=>exact .inl ⟨n,rfl,h⟩
 | _=>exact .inr h
theorem rngE_of {k:Nat→Prop}(h:rngE x k d):(∃ n,x=.rng n∧k n)∨d:=by
 cases x with
 | rng n=>exact .inl ⟨n,rfl,h⟩
 | _=>exact .inr h
theorem sqE_of {k:List SV→Prop}(h:sqE x k d):(∃ n,x=.sq n∧k n)∨d:=by
 cases x with
 | sq n=>exact .inl ⟨n,rfl,h⟩
 | _=>exact .inr h
theorem objE_of {k:Addr→List Nat→List SV→Prop}(h:objE x k d):(∃ C ns l,x=.obj C ns l∧k C ns l)∨d:=by
 cases x with
 | obj C ns l=>exact .inl ⟨C,ns,l,rfl,h⟩
 | _=>exact .inr h
theorem dctE_of {k:World→List Str→List SV→Prop}(h:dctE x k d):(∃ w ks l,x=.dct w ks l∧k w ks l)∨d:=by
 cases x with
 | dct w ks l=>exact .inl ⟨w,ks,l,rfl,h⟩
 | _=>exact .inr h
theorem refE_of {k:Addr→Prop}(h:refE x k d):(∃ n,x=.val (.ref n)∧k n)∨d:=by
 rcases valE_of h with ⟨v,rfl,h⟩ | h
 ·cases v with
  | ref a=>exact .inl ⟨a,rfl,h⟩
  | _=>exact .inr h
 ·exact .inr h
theorem boolE_of {k:Bool→Prop}(h:boolE x k d):(∃ n,x=.val (.bool n)∧k n)∨d:=by
 rcases valE_of h with ⟨v,rfl,h⟩ | h
 ·cases v with
  | bool a=>exact .inl ⟨a,rfl,h⟩
  | _=>exact .inr h
 ·exact .inr h
theorem isNil_of {α:Type}{l:List α}(h:isNil l=true):l=[]:=by
 cases l
 ·rfl
 ·cases h
theorem noE {p:Prop}(h:p∨False):p:=h.elim id False.elim
theorem tupK_of {k:List SV→Prop}(h:tupK x k):∃ n,x=.tup n∧k n:=noE (tupE_of h)
theorem boolK_of {k:Bool→Prop}(h:boolK x k):∃ n,x=.val (.bool n)∧k n:=noE (boolE_of h)
theorem condK_of {c:Bool}{p:Prop}(h:condK c p):c=true∧p:=by
 cases c
 ·exact h.elim
 ·exact ⟨rfl,h⟩
theorem optK_of {α:Type}{o:Option α}{p:α→Prop}(h:optK o p):∃ v,o=some v∧p v:=by
 cases o
 ·exact h.elim
 ·exact ⟨_,rfl,h⟩
theorem arg1_of {l:List SV}{k:SV→Prop}(h:arg1 l k):∃ x,l=[x]∧k x:=by
 cases l with
 | nil=>exact h.elim
 | cons x l=>cases l with
  | nil=>exact ⟨x,rfl,h⟩
  | cons _ _=>exact h.elim
theorem arg2_of {l:List SV}{k:SV→SV→Prop}(h:arg2 l k):∃ x y,l=[x,y]∧k x y:=by
 cases l with
 | nil=>exact h.elim
 | cons x l=>cases l with
  | nil=>exact h.elim
  | cons y l=>cases l with
   | nil=>exact ⟨x,y,rfl,h⟩
   | cons _ _=>exact h.elim
end
noncomputable def XE (σ:Cx)(env:Env)(m:Mp)(cz hid:Ld)(led:MLd)(e:Expr)(k:SV→MLd→Prop):Prop :=
 ∀ (s:Shared) (Q E:Value→Shared→Prop),SS σ m cz hid led s→(∀ r v led' hid' s',k r led'→VR (Kn σ hid') r v→(∀ q∈hid,q∈hid')→SS σ m cz hid' led' s'→Q v s')→wpAny (model rowP σ.w) σ.A (eval e env) Q E s
noncomputable def XT (σ:Cx)(env:Env)(m:Mp)(cz hid:Ld)(led:MLd)(e:Expr)(k:Bool→MLd→Prop):Prop :=
 ∀ (s:Shared) (Q:Bool→Shared→Prop) (E:Value→Shared→Prop),SS σ m cz hid led s→(∀ c led' hid' s',k c led'→(∀ q∈hid,q∈hid')→SS σ m cz hid' led' s'→Q c s')→wpAny (model rowP σ.w) σ.A (PySem.isTrue e env (eval e env)) Q E s
noncomputable def XL (σ:Cx)(env:Env)(m:Mp)(cz:Ld):List Expr→Ld→MLd→(List SV→MLd→Prop)→Prop
 | [],_,led,k=>k [] led
 | e::es,hid,led,k=>XE σ env m cz hid led e fun v led1=>∀ hid1,(∀ q∈hid,q∈hid1)→XL σ env m cz es hid1 led1 fun vs led2=>k (v::vs) led2
noncomputable def NameAt (σ:Cx)(env:Env)(m:Mp)(cz:Ld)(x:Str)(u:Value):Prop :=
 ∀ (s:Shared) (Q E:Value→Shared→Prop) (pos:Pos) (hid:Ld) (led:MLd),SS σ m cz hid led s→Q u s→wpAny (model rowP σ.w) σ.A (eval (.Name x pos) env) Q E s
structure RelE (σ:Cx)(env:Env)(m:Mp)(cz hid:Ld)(cc:CC)(sl:Sl):Prop where
 len:cc.names.length=sl.length
 at_:∀ (i:Nat) (x:Str) (v:SV),cc.names[i]? = some (some x)→(sl:List (Option SV))[i]? = some (some v)→∃ u,VR (Kn σ hid) v u∧NameAt σ env m cz x u∧(cc.top=true→x∈cc.cells→∃ c o,σ.cl.lookup x=some c∧(c,o)∈cz∧o.data=.cell (some u))
noncomputable def isKind (k:NameKind)(names:List (Str × NameKind))(x:Str):Bool:=match names.find? fun q=>strEq q.1 x with
 | some q=>q.2==k
 | none=>false
noncomputable def isCell (cs:Scope)(x:Str):Bool:=isKind .cell cs.names x&&!strEq x "__debug__"
structure EnvOk (σ:Cx)(env:Env)(cc:CC):Prop where
 glob:∀ x v,cc.isG x=true→nsIn (H.K σ.w.params) mainGlobals x=some (some v)→∀ (s:Shared) (Q E:Value→Shared→Prop) (pos:Pos) (m:Mp),Fr σ.g σ.L s.heap m→Q v s→wpAny (model rowP σ.w) σ.A (eval (.Name x pos) env) Q E s
 bui:∀ x v,cc.isG x=true→nsIn (H.K σ.w.params) mainGlobals x=some none→bootBuiltins x=some v→x≠"__name__"→∀ (s:Shared) (Q E:Value→Shared→Prop) (pos:Pos) (m:Mp),Fr σ.g σ.L s.heap m→Q v s→wpAny (model rowP σ.w) σ.A (eval (.Name x pos) env) Q E s
 top:cc.top=true→env=σ.env
 cel:cc.top=true→∀ x,x∈cc.cells→isCell σ.cs x=true∧∃ c,σ.cl.lookup x=some c
section
variable {σ:Cx}{kk:Nat}{env:Env}{m:Mp}{cz hid:Ld}{led:MLd}{s:Shared}{cc:CC}{sl:Sl}
theorem VR.up {hid':Ld}{r:SV}{v:Value}(h:VR (Kn σ hid) r v)(hs:∀ q∈hid,q∈hid'):VR (Kn σ hid') r v:=VR.mono (Kn.mono hs) _ _ h
theorem VRs.up {hid':Ld}{r:List SV}{v:List Value}(h:VRs (Kn σ hid) r v)(hs:∀ q∈hid,q∈hid'):VRs (Kn σ hid') r v:=VRs.mono (Kn.mono hs) _ _ h
theorem RelE.mono {hid':Ld}(h:RelE σ env m cz hid cc sl)(hs:∀ q∈hid,q∈hid'):RelE σ env m cz hid' cc sl :=
 ⟨h.len,fun i x v a b=>(h.at_ i x v a b).imp fun u e=>⟨e.1.up hs,e.2⟩⟩
theorem starEach_plain {e:Expr}{r:List Expr}{env:Env}(h:plainArg e=true):starEach (e::r) env=(false,eval e env)::starEach r env:=(form_ok e h).star r env
theorem all_cons {e:Expr}{r:List Expr}(h:(e::r).all plainArg=true):plainArg e=true∧r.all plainArg=true:=by
 rw [List.all_cons,Bool.and_eq_true] at h;exact h
theorem any_plain {pos:Pos}{env:Env}{r:List Expr}(h:r.all plainArg=true):((backTo pos (starEach r env)).any fun x=>x.1)=false:=by
 induction r with
 | nil=>rfl
 | cons e r ih =>
  rw [starEach_plain (all_cons h).1]
  exact ih (all_cons h).2
theorem XL.spl {pos:Pos}{Q:List Value→Shared→Prop}{E:Value→Shared→Prop}{es:List Expr}:∀ {hid:Ld} {led:MLd} {s:Shared} {k:List SV→MLd→Prop},es.all plainArg=true→XL σ env m cz es hid led k→SS σ m cz hid led s →
  (∀ xs vs led' hid' s',k xs led'→VRs (Kn σ hid') xs vs→(∀ q∈hid,q∈hid')→SS σ m cz hid' led' s'→Q vs s')→wpAny (model rowP σ.w) σ.A (spliced (backTo pos (starEach es env))) Q E s:=by
 induction es generalizing Q with
 | nil=>exact fun _ h st c=>spliced_none (c [] [] _ _ _ h rfl (fun _ h=>h) st)
 | cons e es ih =>
  exact fun hp h st c=>spliced_more ((show XE _ _ _ _ _ _ _ _ from h) _ _ _ st fun x v led1 hid1 s1 g1 r1 u1 st1=>ih (all_cons hp).2 (g1 hid1 u1) st1 fun xs vs led2 hid2 s2 g2 r2 u2 st2 =>
   c (x::xs) (v::vs) led2 hid2 s2 g2 ⟨v,vs,rfl,r1.up u2,r2⟩ (fun q hq=>u2 q (u1 q hq)) st2) (starEach_plain (all_cons hp).1)
theorem XL.two {a b:Expr}{k:List SV→MLd→Prop}{Q:Value→Value→Shared→Prop}{E:Value→Shared→Prop}(h:XL σ env m cz [a,b] hid led k)(st:SS σ m cz hid led s)
  (c:∀ x y vx vy led' hid' s',k [x,y] led'→VR (Kn σ hid') x vx→VR (Kn σ hid') y vy→(∀ q∈hid,q∈hid')→SS σ m cz hid' led' s'→Q vx vy s') :
  wpAny (model rowP σ.w) σ.A (eval a env) (fun va s1=>wpAny (model rowP σ.w) σ.A (eval b env) (fun vb s2=>Q va vb s2) E s1) E s :=
 (show XE _ _ _ _ _ _ _ _ from h) s _ _ st fun x vx led1 hid1 s1 h1 r1 u1 st1=>(show XE _ _ _ _ _ _ _ _ from h1 hid1 u1) s1 _ _ st1 fun y vy led2 hid2 s2 h2 r2 u2 st2 =>
  c x y vx vy led2 hid2 s2 (h2 hid2 u2) (r1.up u2) r2 (fun q hq=>u2 q (u1 q hq)) st2
theorem XL.one {a:Expr}{k:List SV→MLd→Prop}{Q:Value→Shared→Prop}{E:Value→Shared→Prop}(h:XL σ env m cz [a] hid led k)(st:SS σ m cz hid led s)
  (c:∀ x vx led' hid' s',k [x] led'→VR (Kn σ hid') x vx→(∀ q∈hid,q∈hid')→SS σ m cz hid' led' s'→Q vx s') :
  wpAny (model rowP σ.w) σ.A (eval a env) Q E s :=
 (show XE _ _ _ _ _ _ _ _ from h) s _ _ st fun x vx led1 hid1 s1 h1 r1 u1 st1=>c x vx led1 hid1 s1 (h1 hid1 u1) r1 u1 st1
theorem off1_mem {d:Addr}{l:Ld}(h:LCg.Off1 d l):∀ p∈l,p.1≠d:=by
 induction l with
 | nil=>exact fun p hp=>nomatch hp
 | cons q l ih =>
  intro p hp
  rcases iC hp with rfl | hp
  ·exact h.1
  ·exact ih h.2 p hp
noncomputable abbrev Cx.pw (σ:Cx):Pw:=⟨σ.w,σ.p,σ.loose,σ.mean,σ.mg,σ.mb,σ.z,σ.l0⟩
theorem mem_app3 {α:Type}{q:α}{a b c:List α}:q∈a++(b++c)↔q∈a∨q∈b∨q∈c:=by rw [List.mem_append,List.mem_append]
theorem join_ok {y ledc ledc1 hid1:Ld}{rest led1:MLd}{s':Shared}(ry:RelL (Kn σ hid) rest y)(my:∀ q∈y,q∈ledc)(ndy:(y.map (·.1)).Nodup)(sp:Sep ledc cz hid)
  (rel1:RelL (fun a o=>Kn σ hid a o∨(a,o)∈hid1) led1 ledc1) (sp1:Sep ledc1 [] hid1) (off:∀ q∈ledc1++hid1,∀ p∈y++(cz++hid),p.1≠q.1) (F':Fr σ.g σ.L s'.heap m) (N1:News σ.g σ.L s'.heap (ledc1++hid1)) (N2:News σ.g σ.L s'.heap (y++(cz++hid)))
  (g1:s'.gens=σ.gs) (g2:s'.drawn=σ.dr) (g3:s'.os=σ.os):SS σ m cz (hid1++hid) (led1++rest) s':=by
 have kup:∀ a o,(Kn σ hid a o∨(a,o)∈hid1)→Kn σ (hid1++hid) a o:=fun a o h=>h.elim (fun h=>h.imp id fun h=>iR h) fun h=>.inr (iL h)
 refine ⟨ledc1++y,RelL.append (ry.mono (Kn.mono fun q hq=>iR hq)) (rel1.mono kup),⟨?_,fun q hq p hp=>?_,sp.nc,fun q hq p hp=>?_⟩,⟨F',fun q hq=>?_,g1,g2,g3⟩⟩
 ·rw [List.map_append,List.nodup_append]
  refine ⟨sp1.nd,ndy,fun a ha b hb e=>?_⟩
  refine el1a2 (iM ha) fun q hq e1q=>?_
  subst e1q
  refine el1a2 (iM hb) fun p hp e1q=>?_
  subst e1q
  exact off q (iL hq) p (iL hp) e.symm
 ·have hp:=mem_app3.mp hp
  rcases iA hq with hq | hq
  ·have o1:=off q (iL hq)
   exact hp.elim (fun hp=>o1 p (iR (iL hp))) fun hp=>hp.elim (fun hp=>sp1.d1 q hq p hp) fun hp=>o1 p (iR (iR hp))
  ·exact hp.elim (fun hp=>sp.d1 q (my q hq) p (iL hp)) fun hp=>hp.elim (fun hp e=>off p (iR hp) q (iL hq) e.symm) fun hp=>sp.d1 q (my q hq) p (iR hp)
 ·exact (iA hp).elim (fun hp e=>off p (iR hp) q (iR (iL hq)) e.symm) fun hp=>sp.d2 q hq p hp
 ·rcases mem_app3.mp hq with hq | hq | hq
  ·exact (iA hq).elim (fun hq=>N1 q (iL hq)) fun hq=>N2 q (iL hq)
  ·exact N2 q (iR (iL hq))
  ·exact (iA hq).elim (fun hq=>N1 q (iR hq)) fun hq=>N2 q (iR (iR hq))
theorem fn_use {f:Addr}{xs:List SV}{vs:List Value}{lin rest:MLd}{k1 dp un:Nat}{gd:Option (List Code)}{P:SV→MLd→Prop}{may lo:Prop}{R:Result→Shared→Prop}(G:Good σ kk)(hF:FnG σ.pw f xs lin k1 P may lo)(hsp:LSplit led lin rest)(st:SS σ m cz hid led s)(hv:VRs (Kn σ hid) xs vs)
  (hd:dp+k1 < recursionLimit) (hu:un+8 * k1 < cLine) (hlo:lo→σ.l0)
  (ok:∀ r v l hid' s',P r l→VR (Kn σ hid') r v→(∀ q∈hid,q∈hid')→SS σ m cz hid' (l++rest) s'→R (.ok (.ret v)) s')
  (er:may→∀ e h' tk' x,(∀ q∈x,σ.g.get? q=none∧q≠σ.L)→(∀ q∈cz,q.1 ∉ x)→RZ σ.base (σ.env::σ.outer) (hideAll s.heap x) e h'→R (.error (.ref e)) { s with heap:=h',toks:=tk' }) :
  codeAny (model rowP σ.w) (ktrTop dp un gd σ.cn σ.cs σ.L σ.a σ.ccd σ.cl σ.outer) (.call (.ref f) ⟨vs,[]⟩) R s:=by
 refine el1a3 st.ex fun ledc r sp S=>?_
 refine el2a3 (hsp.rel r) fun x y rx ry pm=>?_
 have nd:=(pm.map (fun q:Addr × Obj=>q.1)).nodup_iff.mp sp.nd
 rw [List.map_append,List.nodup_append] at nd
 have mx:∀ q∈x,q∈ledc:=fun q hq=>pm.mem_iff.mpr (iL hq)
 have my:∀ q∈y,q∈ledc:=fun q hq=>pm.mem_iff.mpr (iR hq)
 have N2:News σ.g σ.L s.heap (y++(cz++hid)):=fun q hq=>S.N q ((iA hq).elim (fun hq=>iL (my q hq)) fun hq=>iR hq)
 have hx:∀ q∈y++(cz++hid),q.1 ∉ x.map (·.1):=fun q hq hm=>by
  refine el1a2 (iM hm) fun p hp e=>?_
  exact (iA hq).elim (fun hq=>nd.2.2 p.1 (List.mem_map_of_mem hp) q.1 (List.mem_map_of_mem hq) e) fun hq=>sp.d1 p (mx p hp) q hq e.symm
 refine hF (Kn σ hid) vs x (fun a o e=>.inl (G.kf a o e)) rx nd.1 hv dp un gd σ.cn σ.cs σ.a σ.ccd σ.cl σ.outer _ _ _ _ _ _ _ G.B S.F G.X (fun q hq=>S.N q (iL (mx q hq))) G.T G.k hd hu (fun a o ka=>⟨st.kn G ka,fun hm=>?_⟩) (fun h=>G.lo (hlo h)) ?_
  fun hm e h' tk' z=>er hm e h' tk' _ (fun q hq=>?_) (fun q hq=>hx q (iR (iL hq))) z
 ·refine el1a2 (iM hm) fun p hp e=>?_
  rcases ka with ka | ka
  ·have h1:=(S.N p (iL (mx p hp))).2.2
   rw [show p.1=a from e,G.kn _ _ ka] at h1
   cases h1
  ·exact sp.d1 p (mx p hp) (a,o) (iR ka) e.symm
 ·intro v h' tk' _ F' N' keep fresh hqq
  refine el4a5 hqq fun r1 led1 ledc1 hid1 hP e1q rel1 sp1 vr=>?_
  clear hqq
  subst e1q
  have kup:∀ a o,(Kn σ hid a o∨(a,o)∈hid1)→Kn σ (hid1++hid) a o:=fun a o h=>h.elim (fun h=>h.imp id fun h=>iR h) fun h=>.inr (iL h)
  refine ok r1 v led1 (hid1++hid) { s with heap:=h',toks:=tk' } hP (VR.mono kup _ _ vr) (fun q hq=>iR hq) (join_ok ry my nd.2.1 sp rel1 sp1 (fun q hq p hp e=>?_) F' N' (fun q hq=>⟨keep _ _ (N2 q hq).1 (hx q hq) fun _=>(N2 q hq).2.1,(N2 q hq).2⟩) S.gs S.dr S.os)
  rcases fresh q hq with h | h
  ·exact hx p hp (e▸h)
  ·have:=(N2 p hp).1
   rw [e,h] at this
   cases this
 ·refine el1a2 (iM hq) fun p hp e1q=>?_
  subst e1q
  exact (S.N p (iL (mx p hp))).2.symm
noncomputable abbrev ErC (σ:Cx)(m:Mp)(cz hid:Ld)(may:Prop)(E:Value→Shared→Prop):Prop:=may→∀ e h' tk' x s2 hid2 led2,(∀ q∈hid,q∈hid2)→SS σ m cz hid2 led2 s2→(∀ q∈x,σ.g.get? q=none∧q≠σ.L)→(∀ q∈cz,q.1 ∉ x)→RZ σ.base (σ.env::σ.outer) (hideAll s2.heap x) e h'→E (.ref e) { s2 with heap:=h',toks:=tk' }
theorem call_fn {f:Addr}{xs:List SV}{vs:List Value}{may:Prop}{k:SV→MLd→Prop}{Q E:Value→Shared→Prop}(G:Good σ kk)(h:callG σ.pw may kk f xs led k)(st:SS σ m cz hid led s)(hv:VRs (Kn σ hid) xs vs)
  (c:∀ r v led' hid' s',k r led'→VR (Kn σ hid') r v→(∀ q∈hid,q∈hid')→SS σ m cz hid' led' s'→Q v s') (er:ErC σ m cz hid may E):wpAny (model rowP σ.w) σ.A (call (.ref f) vs) Q E s:=by
 obtain ⟨k1,lin,rest,P,hk1,hsp,hF,hk⟩:=h
 exact wpAny_call (fn_use G hF hsp st hv (G.d _ hk1) (G.u _ hk1) id (fun r v l hid' s' hP rv u st'=>c r v _ hid' s' (hk _ _ hP) rv u st') fun hm e h' tk' x a b z=>er hm e h' tk' x s hid led (fun _ h=>h) st a b z)
end
end
end Mine
end
section
namespace Mine
noncomputable section
section
variable {σ:Cx}{kk:Nat}{env:Env}{m:Mp}{cz hid:Ld}{led:MLd}{s:Shared}{cc:CC}{sl:Sl}{A:Around}{Q E:Value→Shared→Prop}
theorem SS.new (st:SS σ m cz hid led s):∃ n,St σ m n s∧(∀ q∈n,q.1 < s.heap.objs.size)∧(∀ D o s',(∀ q∈n,q.1 < D)→St σ m ((D,o)::n) s'→SS σ m cz ((D,o)::hid) led s')∧∀ s',St σ m n s'→SS σ m cz hid led s':=by
 refine el1a3 st.ex fun ledc r sp S=>?_
 exact ⟨_,S,fun q hq=>Heap.lt_size (S.N q hq).1,fun D o s' hD S'=>SS.hidden (n:=[]) r sp hD S',fun s' S'=>⟨ledc,r,sp,S'⟩⟩
theorem SS.same (st:SS σ m cz hid led s):∃ n,St σ m n s∧∀ h' tk,Fr σ.g σ.L h' m→News σ.g σ.L h' n→SS σ m cz hid led { s with heap:=h',toks:=tk }:=by
 refine el1a4 st.new fun n S _ _ k=>?_
 exact ⟨n,S,fun h' tk F N=>k _ ⟨F,N,S.gs,S.dr,S.os⟩⟩
theorem cons_sub {D:Addr}{o:Obj}{hid:Ld}:∀ q∈hid,q∈(D,o)::hid:=fun q hq=>.tail _ hq
theorem small_of {n:Nat}(h:n≤3000):n≤sizeLine:=Nat.le_trans h (iE rfl)
theorem vr_newT {D:Addr}{l:List SV}{vs:List Value}(h:VRs (Kn σ hid) l vs){o:Obj}(ho:IsT o vs):VR (Kn σ ((D,o)::hid)) (.tup l) (.ref D):=⟨D,o,vs,rfl,.inr (.head _),ho,h.up cons_sub⟩
theorem vr_newL {D:Addr}{l:List SV}{vs:List Value}(h:VRs (Kn σ hid) l vs){o:Obj}(ho:IsLs o vs):VR (Kn σ ((D,o)::hid)) (.lst l) (.ref D):=⟨D,o,vs,rfl,.inr (.head _),ho,h.up cons_sub⟩
noncomputable abbrev Fin (σ:Cx)(m:Mp)(cz hid:Ld)(led:MLd)(k:SV→MLd→Prop)(Q:Value→Shared→Prop):Prop :=
 ∀ r v led' hid' s',k r led'→VR (Kn σ hid') r v→(∀ q∈hid,q∈hid')→SS σ m cz hid' led' s'→Q v s'
section
variable {k:SV→MLd→Prop}
theorem Fin.id (c:Fin σ m cz hid led k Q){r:SV}{v:Value}{s':Shared}(h:k r led)(rv:VR (Kn σ hid) r v)(st:SS σ m cz hid led s'):Q v s':=c _ _ _ _ _ h rv (fun _ h=>h) st
theorem Fin.int (c:Fin σ m cz hid led k Q)(st:SS σ m cz hid led s){x:Int}{t:Tok}(h:k (.int x) led){tk:Nat}:Q (.int x t) { s with toks:=tk }:=c.id h ⟨_,rfl⟩ (st.tok _)
theorem Fin.bool (c:Fin σ m cz hid led k Q)(st:SS σ m cz hid led s){x:Bool}(h:k (.bool x) led):Q (.bool x) s:=c.id h rfl st
theorem Fin.lst (c:Fin σ m cz hid led k Q){n:Ld}(S:St σ m n s)(nw:∀ D o s',(∀ q∈n,q.1 < D)→St σ m ((D,o)::n) s'→SS σ m cz ((D,o)::hid) led s'){l:List SV}{vs:List Value}{nn:Nat}(h:k (.lst l) led)(r:VRs (Kn σ hid) l vs){D:Addr}{h':Heap}{tk:Nat}(lt:∀ q∈n,q.1 < D)(F':Fr σ.g σ.L h' m)(N':News σ.g σ.L h' ((D,listO vs nn)::n)) :
  Q (.ref D) { s with heap:=h',toks:=tk }:=c _ _ _ _ _ h (vr_newL r ⟨_,rfl⟩) cons_sub (nw D _ _ lt ⟨F',N',S.gs,S.dr,S.os⟩)
theorem Fin.tup (c:Fin σ m cz hid led k Q){n:Ld}(S:St σ m n s)(nw:∀ D o s',(∀ q∈n,q.1 < D)→St σ m ((D,o)::n) s'→SS σ m cz ((D,o)::hid) led s'){l:List SV}{vs:List Value}{nn:Nat}(h:k (.tup l) led)(r:VRs (Kn σ hid) l vs){D:Addr}{h':Heap}{tk:Nat}(lt:∀ q∈n,q.1 < D)(F':Fr σ.g σ.L h' m)(N':News σ.g σ.L h' ((D,{ cls:=.type "tuple",data:=.seq vs.toArray nn })::n)) :
  Q (.ref D) { s with heap:=h',toks:=tk }:=c _ _ _ _ _ h (vr_newT r ⟨rfl,_,rfl⟩) cons_sub (nw D _ _ lt ⟨F',N',S.gs,S.dr,S.os⟩)
end
theorem led_obj {a:Addr}{o:MO}(st:SS σ m cz hid led s)(hm:(a,o)∈led):∃ x,RelO (Kn σ hid) a o x∧∀ q∈x,s.heap.get? q.1=some q.2:=by
 refine el1a3 st.ex fun ledc r sp S=>?_
 have key:∀ q∈ledc,s.heap.get? q.1=some q.2:=fun q hq=>(S.N q (iL hq)).1
 clear S sp st
 induction led generalizing ledc with
 | nil=>cases hm
 | cons y ld ih =>
  refine el2a3 r fun q1 q2 e1q x1 x2=>?_
  clear r
  subst e1q
  rcases iC hm with rfl | hm
  ·exact ⟨q1,x1,fun q hq=>key q (iL hq)⟩
  ·exact ih hm q2 x2 (fun q hq=>key q (iR hq))
theorem seqOf {x:SV}{v:Value}(G:Good σ kk)(st:SS σ m cz hid led s){l:List SV}(hl:LstOf led x l)(hv:VR (Kn σ hid) x v):∃ a vs,v=.ref a∧VRs (Kn σ hid) l vs∧s.heap.IsList a vs.toArray:=by
 cases hl with
 | fr=>obtain ⟨a,o,vs,e,k,i,r⟩:=hv;exact ⟨a,vs,e,r,st.isL G k i⟩
 | sq=>obtain ⟨a,o,vs,e,k,i,r⟩:=hv;exact ⟨a,vs,e,r,o,st.kn G k,i.1,i.2⟩
 | mu hm =>
  refine el1a2 (led_obj st hm) fun _ e1q h1=>?_
  refine el2a2 e1q fun vs nn _ h2=>?_
  clear e1q
  rename_i e1q
  subst e1q
  exact ⟨_,vs,hv,h2,_,h1 _ (.head _),rfl,_,rfl⟩
theorem muK_of {x:SV}{k:List SV→Prop}(h:muK led x k):∃ l,LstOf led x l∧k l:=by
 refine el1a2 (noE (refE_of h)) fun a e1q eRq=>?_
 subst e1q
 obtain ⟨l,hm,h⟩:=eRq
 exact ⟨l,.mu hm,h⟩
theorem seqK_of {x:SV}{k:List SV→Prop}(h:seqK led x k):(∃ l,x=.tup l∧k l)∨∃ l,LstOf led x l∧k l:=by
 rcases tupE_of h with h | h
 ·exact .inl h
 rcases lstE_of h with ⟨l,rfl,h⟩ | h
 ·exact .inr ⟨l,.fr,h⟩
 rcases sqE_of h with ⟨l,rfl,h⟩ | h
 ·exact .inr ⟨l,.sq,h⟩
 ·exact .inr (muK_of h)
theorem intB_sound {op:Operator}{x y:Int}{t u:Tok}{k:SV→MLd→Prop}(h:intB op x y fun r=>k r led)(st:SS σ m cz hid led s)(c:Fin σ m cz hid led k Q):wpAny (model rowP σ.w) σ.A (binaryOp op (.int x t) (.int y u)) Q E s:=by
 cases op with
 | Add=>exact add_int (c.int st h)
 | Sub=>exact sub_int (c.int st h)
 | Mult=>exact mul_int (c.int st h.2) h.1
 | FloorDiv=>exact floordiv_int h.1.1 (c.int st h.2) (.inl h.1.2)
 | Mod=>exact mod_int' h.1 (c.int st h.2)
 | Pow=>exact pow_int_small h.1.1 h.1.2.1 h.1.2.2 (c.int st h.2)
 | _=>exact h.elim
theorem lstB_sound (G:Good σ kk){op:Operator}{x:List SV}{y:SV}{u v:Value}{k:SV→MLd→Prop}(h:lstB op x y fun r=>k r led)(st:SS σ m cz hid led s)(hx:VR (Kn σ hid) (.lst x) u)(hy:VR (Kn σ hid) y v)
  (c:Fin σ m cz hid led k Q):wpAny (model rowP σ.w) σ.A (binaryOp op u v) Q E s:=by
 refine el3a4 hx fun a o vs e1q ka ia ra=>?_
 clear hx
 subst e1q
 refine el1a4 st.new fun n S _ nw _=>?_
 cases op with
 | Add =>
  refine el1a2 (noE (lstE_of (show lstE y _ False from h))) fun y e1q h=>?_
  subst e1q
  refine el3a4 hy fun b o2 ws e1q kb ib rb=>?_
  clear hy
  subst e1q
  exact kmk_add_lit S.F S.N (st.isL G ka ia) (st.isL G kb ib) (zs:=vs++ws) rfl (fun D h' F' N' lt=>c.lst S nw h.2 (VRs.append rb ra) lt F' N') (small_of (Nat.le_trans (Nat.add_le_add (ra.length▸h.1.1) (rb.length▸h.1.2)) (iE rfl)))
 | Mult =>
  refine el1a2 (noE (intE_of (show intE y _ False from h))) fun y e1q h=>?_
  subst e1q
  refine el1a2 (arg1_of h) fun x e1q eRq=>?_
  subst e1q
  obtain ⟨_,hr,h⟩:=eRq
  obtain ⟨t',rfl⟩:=hy
  refine el2a3 (id ra) fun w1 _ e1q rw1 e2q=>?_
  subst e1q
  subst e2q
  rcases hr with ⟨rfl,rfl⟩ | ⟨rfl,rfl⟩
  ·exact KMa.mul S.F S.N (st.isL G ka ia) (by decide) (by decide) (iE rfl) rfl fun D h' F' N' lt=>c.lst S nw h (vs:=[]) rfl lt F' N'
  ·exact KMa.mul S.F S.N (st.isL G ka ia) (by decide) (by decide) (iE rfl) rfl fun D h' F' N' lt=>c.lst S nw h ra lt F' N'
 | _=>exact h.elim
theorem strB_sound {op:Operator}{x:Str}{y:SV}{t:Tok}{v:Value}{k:SV→MLd→Prop}(h:strB op x y fun r=>k r led)(st:SS σ m cz hid led s)(hy:VR (Kn σ hid) y v)
  (c:Fin σ m cz hid led k Q):wpAny (model rowP σ.w) σ.A (binaryOp op (.str x t) v) Q E s:=by
 cases op with
 | Add =>
  refine el1a2 (noE (strE_of (show strE y _ False from h))) fun y e1q h=>?_
  subst e1q
  obtain ⟨t',rfl⟩:=hy
  obtain ⟨hz,h⟩:=condK_of h
  obtain ⟨z1,z2⟩:=iB hz
  exact SB.add (fun t' tk=>c _ _ _ _ _ h ⟨_,rfl⟩ (fun _ h=>h) (st.tok _)) (Nat.le_trans (Nat.add_le_add (iE z1) (iE z2)) (iE rfl))
 | _=>exact h.elim
theorem tupB_sound (G:Good σ kk){op:Operator}{x:List SV}{y:SV}{u v:Value}{k:SV→MLd→Prop}(h:tupB op x y fun r=>k r led)(st:SS σ m cz hid led s)(hx:VR (Kn σ hid) (.tup x) u)(hy:VR (Kn σ hid) y v)
  (c:Fin σ m cz hid led k Q):wpAny (model rowP σ.w) σ.A (binaryOp op u v) Q E s:=by
 cases op with
 | Add =>
  refine el3a4 hx fun a o vs e1q ka ia ra=>?_
  clear hx
  subst e1q
  refine el1a2 (noE (tupE_of (show tupE y _ False from h))) fun y e1q h=>?_
  subst e1q
  refine el3a4 hy fun b o2 ws e1q kb ib rb=>?_
  clear hy
  subst e1q
  obtain ⟨hz,h⟩:=condK_of h
  obtain ⟨z1,z2⟩:=iB hz
  refine el1a4 st.new fun n S _ nw _=>?_
  have er:=ra.length
  refine add_tuples S.F S.N (st.isT G ka ia) (st.isT G kb ib) (fun e=>?_) (fun _ e=>?_) (fun _ _ h' F' N'=>c.tup S nw h (VRs.append rb ra) (fun p hp=>Heap.lt_size (S.N p hp).1) F' N') (small_of (Nat.le_trans (Nat.add_le_add (er▸iE z1) (rb.length▸iE z2)) (iE rfl)))
  ·subst e
   cases iN er.symm
   exact c.id h ⟨b,o2,ws,rfl,kb,ib,rb⟩ st
  ·subst e
   cases iN rb.length.symm
   rw [List.append_nil] at h
   exact c.id h ⟨a,o,vs,rfl,ka,ia,ra⟩ st
 | _=>exact h.elim
theorem bin_sound (G:Good σ kk){op:Operator}{x y:SV}{u v:Value}{k:SV→MLd→Prop}(h:binK op x y fun r=>k r led)(st:SS σ m cz hid led s)(hx:VR (Kn σ hid) x u)(hy:VR (Kn σ hid) y v)
  (c:Fin σ m cz hid led k Q):wpAny (model rowP σ.w) σ.A (binaryOp op u v) Q E s:=by
 rcases intE_of h with ⟨x,rfl,h1⟩ | h1
 ·refine el1a2 (noE (intE_of h1)) fun y e1q h2=>?_
  subst e1q
  obtain ⟨t,rfl⟩:=hx
  obtain ⟨t',rfl⟩:=hy
  exact intB_sound h2 st c
 clear h
 rcases lstE_of h1 with ⟨x,rfl,h⟩ | h2
 ·exact lstB_sound G h st hx hy c
 clear h1
 rcases strE_of h2 with ⟨x,rfl,h⟩ | h3
 ·obtain ⟨t,rfl⟩:=hx
  exact strB_sound h st hy c
 ·refine el1a2 (noE (tupE_of h3)) fun x e1q h=>?_
  subst e1q
  exact tupB_sound G h st hx hy c
theorem Rd.bool {n:Nat}{h:Heap}{b:Bool}:Rd n h (.bool b):=⟨_,_,.bool b,by simp [PyData.canLay0],by simp [PyData.depth]⟩
theorem rd_of (G:Good σ kk)(st:SS σ m cz hid led s)(n:Nat):∀ (x:SV) (v:Value),plainV n x→VR (Kn σ hid) x v→Rd n s.heap v:=by
 induction n with
 | zero =>
  intro x v h r
  rcases intE_of h with ⟨x,rfl,_⟩ | h
  ·obtain ⟨t,rfl⟩:=r;exact Rd.int
  refine el1a2 (noE (boolE_of h)) fun b e1q _=>?_
  subst e1q
  cases (show v=_ from r);exact Rd.bool
 | succ n ih =>
  intro x v h r
  rcases intE_of h with ⟨x,rfl,_⟩ | h
  ·obtain ⟨t,rfl⟩:=r;exact Rd.int
  rcases boolE_of h with ⟨b,rfl,_⟩ | h
  ·cases (show v=_ from r);exact Rd.bool
  refine el1a2 (noE (tupE_of h)) fun l e1q h=>?_
  subst e1q
  refine el3a4 r fun a o vs e1q k i _=>?_
  clear r
  rename_i r
  subst e1q
  refine Rd.tup (st.isT G k i) fun w hw=>?_
  obtain ⟨j,hj⟩:=List.getElem?_of_mem hw
  refine el1a2 (r.get' hj) fun x hx rx=>?_
  exact ih x w (h x (List.mem_of_getElem? hx)) rx
theorem G9 (G:Good σ kk)(h:Nat.ble 9 kk=true):σ.A.units+64 < cLine:=G.u 8 h
theorem isNil_len {K:KA}{l:List SV}{vs:List Value}(h:VRs K l vs):decide (vs=[])=isNil l:=by
 cases l with
 | nil=>rw [show vs=[] from h];rfl
 | cons x l=>obtain ⟨v,r,rfl,_⟩:=h;rfl
theorem pairE_of {x:SV}{d:Prop}{k:Int→Int→Prop}(h:pairE x k d):(∃ a b,x=.tup [.int a,.int b]∧k a b)∨d:=by
 rcases tupE_of h with ⟨l,rfl,h⟩ | h
 ·cases l with
  | nil=>exact .inr h
  | cons x l=>cases l with
   | nil=>exact .inr h
   | cons y l=>cases l with
    | nil =>
     rcases intE_of h with ⟨a,rfl,h⟩ | h
     ·rcases intE_of h with ⟨b,rfl,h⟩ | h
      ·exact .inl ⟨a,b,rfl,h⟩
      ·exact .inr h
     ·exact .inr h
    | cons _ _=>exact .inr h
 ·exact .inr h
theorem tup2_of (G:Good σ kk)(st:SS σ m cz hid led s){a b:Int}{v:Value}(h:VR (Kn σ hid) (.tup [.int a,.int b]) v):∃ D,v=.ref D∧Tup2 s.heap D a b:=by
 refine el3a4 h fun D o vs e k i eRq=>?_
 clear h
 refine el2a3 eRq fun _ _ e1q e2q _=>?_
 clear eRq
 rename_i eRq
 subst e1q
 obtain ⟨t,rfl⟩:=e2q
 refine el2a3 eRq fun _ _ e1q e2q e3q=>?_
 clear eRq
 subst e1q
 obtain ⟨u,rfl⟩:=e2q
 subst e3q
 exact ⟨D,e,t,u,st.isT G k i⟩
theorem eq_sound (ne:Bool)(G:Good σ kk){x y:SV}{u v:Value}{k:Bool→Prop}(h:eqK kk led x y k)(st:SS σ m cz hid led s)(hx:VR (Kn σ hid) x u)(hy:VR (Kn σ hid) y v)
  (c:∀ b,k b→Q (.bool (if ne then !b else b)) s):wpAny (model rowP σ.w) σ.A (compareOp (if ne then .NotEq else .Eq) u v) Q E s:=by
 rcases intE_of h with ⟨x,rfl,h⟩ | h2
 ·refine el1a2 (noE (intE_of (show intE y _ False from h))) fun y e1q h=>?_
  subst e1q
  obtain ⟨t,rfl⟩:=hx;obtain ⟨t',rfl⟩:=hy
  cases ne
  ·exact eq_int (c _ h)
  ·exact ne_int (c _ h)
 clear h
 rcases strE_of h2 with ⟨x,rfl,h⟩ | h3
 ·refine el1a2 (noE (strE_of (show strE y _ False from h))) fun y e1q h=>?_
  subst e1q
  obtain ⟨t,rfl⟩:=hx;obtain ⟨t',rfl⟩:=hy
  cases ne
  ·exact PySem.P.eq_str (c _ h)
  ·exact PySem.P.ne_str (c _ h)
 clear h2
 rcases boolE_of h3 with ⟨x,rfl,h⟩ | h4
 ·refine el1a2 (noE (boolE_of (show boolE y _ False from h))) fun y e1q h=>?_
  subst e1q
  cases (show u=_ from hx);cases (show v=_ from hy)
  cases ne
  ·exact eq_bool (c _ h)
  ·exact ne_bool (c _ h)
 clear h3
 obtain ⟨h9,h5⟩:=condK_of h4
 clear h4
 rcases pairE_of h5 with ⟨a,b,rfl,h⟩ | h
 ·refine el2a2 (noE (pairE_of (show pairE y _ False from h))) fun a' b' e1q h=>?_
  subst e1q
  refine el1a2 (tup2_of G st hx) fun D e1q T1=>?_
  subst e1q
  refine el1a2 (tup2_of G st hy) fun D' e1q T2=>?_
  subst e1q
  cases ne
  ·exact eq_pair T1 T2 (G9 G h9) (c _ h)
  ·exact ne_pair T1 T2 (G9 G h9) (c _ h)
 obtain ⟨l,h1,h2,h3,h⟩:=h
 refine el2a3 (seqOf G st h1 hx) fun a vs e1q r1 L1=>?_
 subst e1q
 refine el2a3 (seqOf G st h2 hy) fun b ws e1q r2 L2=>?_
 subst e1q
 cases (show ws=[] from r2)
 rw [← isNil_len r1] at h
 have pl:∀ w∈vs,Rd 3 s.heap w:=fun w hw=>by
  obtain ⟨j,hj⟩:=List.getElem?_of_mem hw
  refine el1a2 (r1.get' hj) fun x hx rx=>?_
  exact rd_of G st 3 x w (h3 x (List.mem_of_getElem? hx)) rx
 cases ne
 ·exact eq_nil (n:=3) L1 L2 (iE rfl) pl (G9 G h9) (c _ h)
 ·exact ne_nil (n:=3) L1 L2 (iE rfl) pl (G9 G h9) (c _ h)
theorem none_of {K:KA}{x:SV}{u:Value}(h:VR K x u):(u==Value.none)=isNone x:=by
 cases x with
 | int x=>obtain ⟨t,rfl⟩:=h;rfl
 | str x=>obtain ⟨t,rfl⟩:=h;rfl
 | val v=>cases (show u=v from h);cases u <;> rfl
 | tup l=>obtain ⟨a,_,_,rfl,_⟩:=h;rfl
 | lst l=>obtain ⟨a,_,_,rfl,_⟩:=h;rfl
 | sq l=>obtain ⟨a,_,_,rfl,_⟩:=h;rfl
 | rng n=>obtain ⟨a,_,_,_,rfl,_⟩:=h;rfl
 | obj C ns l=>obtain ⟨a,_,_,_,_,rfl,_⟩:=h;rfl
 | dct w ns l=>obtain ⟨a,_,_,rfl,_⟩:=h;rfl
theorem isNone_of {x:SV}(h:isNone x=true):x=.none:=by
 cases x with
 | val v=>cases v <;> first | rfl | cases h
 | _=>cases h
theorem ints_are {K:KA}{ns:List Int}:∀ {vs:List Value},VRs K (ns.map SV.int) vs→IntsAre vs ns:=by
 induction ns with
 | nil=>intro vs h;rw [show vs=[] from h];exact .nil
 | cons n ns ih=>rintro _ ⟨v,r,rfl,⟨t,rfl⟩,h⟩;exact .cons _ _ (ih h)
theorem strO_of {x:SV}{s:Str}(h:strO x=some s):x=.str s:=by
 cases x with
 | str y=>cases h;rfl
 | _=>cases h
theorem strs_are {K:KA}{l:List SV}:∀ {ss:List Str} {vs:List Value},strsOf l=some ss→VRs K l vs→StrsAre vs ss:=by
 induction l with
 | nil=>intro ss vs h r;cases h;rw [show vs=[] from r];exact .nil
 | cons x l ih =>
  intro ss _ h hqq
  refine el2a3 hqq fun v r e1q hx hr=>?_
  clear hqq
  subst e1q
  refine el1a2 (iD h) fun s h1 h2=>?_
  refine el1a2 (iO h2) fun ss' h3 e1q=>?_
  subst e1q
  cases strO_of h1
  obtain ⟨t,rfl⟩:=hx
  exact .cons _ _ (ih h3 hr)
theorem dctGet_of {K:KA}{key:Str}{ks:List Str}:∀ {l:List SV} {vs:List Value},VRs K l vs→vs.length=ks.length→(dctGet ks l key=none∧valueAt (ks.zip vs) key=none)∨∃ x v,dctGet ks l key=some x∧valueAt (ks.zip vs) key=some v∧VR K x v:=by
 induction ks with
 | nil=>intro l vs _ h;exact .inl ⟨rfl,rfl⟩
 | cons k ks ih =>
  intro l vs r h
  cases l with
  | nil=>rw [show vs=[] from r] at h;cases h
  | cons x l =>
   refine el2a3 r fun v w e1q hx hr=>?_
   clear r
   subst e1q
   cases e:strEq k key with
   | true =>
    refine .inr ⟨x,v,?_,?_,hx⟩
    ·show Bool.casesOn (motive:=fun _=>Option SV) (strEq k key) _ _=_
     rw [e]
    ·rw [strEq_eq e];simp [valueAt]
   | false =>
    have e1:dctGet (k::ks) (x::l) key=dctGet ks l key:=by
     show Bool.casesOn (motive:=fun _=>Option SV) (strEq k key) _ _=_
     rw [e]
    have e2:valueAt ((k::ks).zip (v::w)) key=valueAt (ks.zip w) key:=by
     simp [valueAt,strEq_ne e]
    rw [e1,e2]
    exact ih hr (Nat.succ.inj h)
theorem dct_at (G:Good σ kk)(st:SS σ m cz hid led s){w:World}{ks:List Str}{l:List SV}{u:Value}(hw:w=σ.w)(h:VR (Kn σ hid) (.dct w ks l) u):∃ a vs,u=.ref a∧(a==sysModules)=false∧s.heap.DictOf (PySem.strKind rowP σ.w) a (ks.zip vs)∧VRs (Kn σ hid) l vs∧vs.length=ks.length:=by
 subst hw
 refine el3a4 h fun a o vs e1q ka e2q r=>?_
 clear h
 subst e1q
 refine el0a3 e2q fun h1 h2 h3=>?_
 clear e2q
 exact ⟨a,vs,rfl,h1,Heap.dictOf_iff.mpr ⟨o,st.kn G ka,h2⟩,r,h3⟩
theorem in_sound (ne:Bool)(G:Good σ kk){x y:SV}{u v:Value}{k:Bool→Prop}(h:inK σ.w x y k)(st:SS σ m cz hid led s)(hx:VR (Kn σ hid) x u)(hy:VR (Kn σ hid) y v)
  (c:∀ b,k b→∀ tk,Q (.bool (if ne then !b else b)) { s with toks:=tk }):wpAny (model rowP σ.w) σ.A (compareOp (if ne then .NotIn else .In) u v) Q E s:=by
 rcases intE_of h with ⟨x0,rfl,h1⟩ | h1
 ·refine el1a2 (noE (lstE_of h1)) fun _ e1q eRq=>?_
  subst e1q
  obtain ⟨ns,rfl,h2⟩:=eRq
  obtain ⟨t,rfl⟩:=hx
  refine el3a4 hy fun b o ws e1q kb ib rb=>?_
  clear hy
  subst e1q
  cases ne
  ·exact in_list_ints (st.isL G kb ib) (ints_are rb) (c _ h2 _)
  ·exact notin_list_ints (st.isL G kb ib) (ints_are rb) (c _ h2 _)
 clear h
 refine el1a2 (noE (strE_of h1)) fun x0 e1q h2=>?_
 subst e1q
 clear h1
 obtain ⟨t,rfl⟩:=hx
 rcases strE_of h2 with ⟨y0,rfl,h3⟩ | h3
 ·obtain ⟨t',rfl⟩:=hy
  cases ne
  ·exact SB.contains (c _ h3 _)
  ·exact SB.notContains (c _ h3 _)
 clear h2
 rcases tupE_of h3 with ⟨l,rfl,h4⟩ | h4
 ·refine el1a2 (optK_of h4) fun ss hs h5=>?_
  refine el3a4 hy fun b o ws e1q kb ib rb=>?_
  clear hy
  subst e1q
  cases ne
  ·exact in_tuple_strs (st.isT G kb ib) (strs_are hs rb) (c _ h5 _)
  ·exact notin_tuple_strs (st.isT G kb ib) (strs_are hs rb) (c _ h5 _)
 clear h3
 refine el3a3 (noE (dctE_of h4)) fun w ks l e1q hw h5=>?_
 subst e1q
 refine el2a5 (dct_at G st hw hy) fun a vs e1q lo D r hl=>?_
 subst e1q
 have e:(valueAt (ks.zip vs) x0).isSome=(dctGet ks l x0).isSome:=by
  rcases dctGet_of (key:=x0) r hl with ⟨e1,e2⟩ | ⟨_,_,e1,e2,_⟩ <;> rw [e1,e2] <;> rfl
 rw [← e] at h5
 cases ne
 ·exact wpAny_in_of (isStrOf_self x0 t) lo D.mapOf (c _ h5 _)
 ·exact wpAny_notIn_of (isStrOf_self x0 t) lo D.mapOf (c _ h5 _)
theorem cmp_sound (G:Good σ kk){op:CmpOp}{x y:SV}{u v:Value}{k:Bool→Prop}(h:cmpK σ.w kk led op x y k)(st:SS σ m cz hid led s)(hx:VR (Kn σ hid) x u)(hy:VR (Kn σ hid) y v)
  (c:∀ b,k b→∀ tk,Q (.bool b) { s with toks:=tk }):wpAny (model rowP σ.w) σ.A (compareOp op u v) Q E s:=by
 have intc:∀ {k:Int→Int→Prop},(intE x (fun x=>intE y (fun y=>k x y) False) False)→∃ a b t t',u=.int a t∧v=.int b t'∧k a b:=fun {k} h=>by
  refine el1a2 (noE (intE_of h)) fun x e1q h1=>?_
  subst e1q
  refine el1a2 (noE (intE_of h1)) fun y e1q h2=>?_
  subst e1q
  obtain ⟨t,e⟩:=hx;obtain ⟨t',e'⟩:=hy
  exact ⟨x,y,t,t',e,e',h2⟩
 cases op with
 | Lt=>obtain ⟨a,b,t,t',rfl,rfl,h⟩:=intc h;exact lt_int (c _ h _)
 | LtE=>obtain ⟨a,b,t,t',rfl,rfl,h⟩:=intc h;exact le_int (c _ h _)
 | Gt=>obtain ⟨a,b,t,t',rfl,rfl,h⟩:=intc h;exact gt_int (c _ h _)
 | GtE=>obtain ⟨a,b,t,t',rfl,rfl,h⟩:=intc h;exact ge_int (c _ h _)
 | Eq=>exact eq_sound false G (k:=k) h st hx hy fun b hb=>c b hb _
 | NotEq=>exact eq_sound true G (k:=fun c=>k (!c)) h st hx hy fun b hb=>c _ hb _
 | Is =>
  obtain ⟨e,h⟩:=condK_of h
  cases isNone_of e
  cases (show v=.none from hy)
  exact is_none_gen (by rw [none_of hx];exact c _ h _)
 | IsNot =>
  obtain ⟨e,h⟩:=condK_of h
  cases isNone_of e
  cases (show v=.none from hy)
  exact isnot_none_gen (by rw [none_of hx];exact c _ h _)
 | In=>exact in_sound false G (k:=k) h st hx hy c
 | NotIn=>exact in_sound true G (k:=fun c=>k (!c)) h st hx hy fun b hb=>c _ hb
end
end
end Mine
end
section
namespace Mine
noncomputable section
theorem seqIdx {n:Nat}{l:Nat}(h:n < l):seqIndex? (Int.ofNat n) l=some n:=by
 unfold seqIndex?
 have h1:¬ ((n:Int) < 0):=Int.not_lt.mpr (Int.natCast_nonneg n)
 simp [h1,h]
theorem seqIdxL {l:Nat}:seqIndex? (Int.negSucc 0) (l+1)=some l:=by
 unfold seqIndex?
 rw [show (Int.negSucc 0:Int)=-1 from rfl]
 simp
 omega
theorem idx_of {K:KA}{l:List SV}{vs:List Value}(r:VRs K l vs){j:Int}{x:SV}(h:idx l j=some x):∃ n v,seqIndex? j vs.length=some n∧vs[n]? = some v∧VR K x v∧((j=Int.ofNat n∧n < vs.length)∨(j=-1∧∃ p,vs=p++[v])):=by
 cases j with
 | ofNat n =>
  obtain ⟨v,hv,rv⟩:=r.get (show l[n]? = some x from h)
  have lt:=(List.getElem?_eq_some_iff.mp hv).1
  exact ⟨n,v,seqIdx lt,hv,rv,.inl ⟨rfl,lt⟩⟩
 | negSucc n =>
  cases n with
  | succ n=>cases h
  | zero =>
   obtain ⟨p,rfl⟩:=List.getLast?_eq_some_iff.mp (show l.getLast? = some x from h)
   obtain ⟨a,_,rfl,_,v,_,rfl,rv,rfl⟩:=r.split
   exact ⟨a.length,v,by rw [List.length_append];exact seqIdxL,by simp,rv,.inr ⟨rfl,a,rfl⟩⟩
section
variable {σ:Cx}{kk:Nat}{env:Env}{m:Mp}{cz hid:Ld}{led led':MLd}{s:Shared}{cc:CC}{sl:Sl}{A:Around}{Q E:Value→Shared→Prop}
theorem item_sound (G:Good σ kk){x y:SV}{u v:Value}{value slice:Expr}{k:SV→MLd→Prop}(hs:∀ a b,subscripted slice false a b=operate [a,b] (getItem a b))(h:itemK σ.w led x y fun r=>k r led)(st:SS σ m cz hid led s)(hx:VR (Kn σ hid) x u)(hy:VR (Kn σ hid) y v)
  (c:Fin σ m cz hid led k Q):wpAny (model rowP σ.w) σ.A (subscriptTail value slice u v) Q E s:=by
 rcases intE_of h with ⟨j,rfl,h0⟩ | h0
 rotate_left
 ·clear h
  obtain ⟨key,rfl,h1⟩:=noE (strE_of h0)
  obtain ⟨w,ks,l,rfl,hw,h2⟩:=noE (dctE_of h1)
  obtain ⟨r,hr,h3⟩:=optK_of h2
  obtain ⟨t,rfl⟩:=hy
  obtain ⟨a,vs,rfl,lo,D,rv,hl⟩:=dct_at G st hw hx
  rcases dctGet_of (key:=key) rv hl with ⟨e1,_⟩ | ⟨x,v,e1,e2,rx⟩
  ·rw [hr] at e1;cases e1
  ·rw [hr] at e1;cases e1
   exact tail_any D.typeIs slot_dict_getitem.lookup (wpAny_getItem_of (isStrOf_self key t) D.mapOf e2 (c.id h3 rx (st.tok _))) (hs _ _)
 clear h
 obtain ⟨t,rfl⟩:=hy
 rcases strE_of h0 with ⟨x0,rfl,h1⟩ | h1
 ·obtain ⟨t',rfl⟩:=hx
  obtain ⟨hz,h2⟩:=condK_of h1
  obtain ⟨z1,z2⟩:=iB hz
  exact tail_any (typeIs_str _ _ _) PySem.F.slot_str_getitem.lookup (SB.getItem z1 z2 (c.id h2 ⟨_,rfl⟩ (st.tok _))) (hs _ _)
 clear h0
 have tups:∀ {l:List SV} {r:SV},VR (Kn σ hid) (.tup l) u→idx l j=some r→l.length≤1000000000→k r led→wpAny (model rowP σ.w) σ.A (subscriptTail value slice u (.int j t)) Q E s:=by
  rintro l r ⟨a,o,vs,rfl,ka,ia,ra⟩ hr hl h
  obtain ⟨n,w,e1,e2,e3,e4⟩:=idx_of ra hr
  have hj:-(2 ^ 63)≤j∧j < 2 ^ 63:=by
   rcases e4 with ⟨rfl,lt⟩ | ⟨rfl,_⟩
   ·exact ⟨Int.le_trans (by decide) (Int.natCast_nonneg n),Int.ofNat_lt.mpr (Nat.lt_of_lt_of_le lt (ra.length▸Nat.le_trans hl (iE rfl)))⟩
   ·decide
  exact item_tupleT (st.isT G ka ia) hj.1 hj.2 e1 e2 (c.id h e3 st) (hs _ _)
 rcases tupE_of h1 with ⟨l,rfl,h⟩ | h
 ·obtain ⟨hl,h⟩:=condK_of h
  obtain ⟨r,hr,h⟩:=optK_of h
  exact tups hx hr (Nat.le_trans (iE hl) (iE rfl)) h
 ·rcases seqK_of h with ⟨l,rfl,r,hr,hz,h2⟩ | ⟨l,hl,r,hr,hz,h2⟩
  ·exact tups hx hr hz h2
  obtain ⟨a,vs,rfl,rv,L⟩:=seqOf G st hl hx
  obtain ⟨n,w,e1,e2,e3,e4⟩:=idx_of rv hr
  rcases e4 with ⟨rfl,lt⟩ | ⟨rfl,p,rfl⟩
  ·exact item_lst L (Int.natCast_nonneg n) (Int.ofNat_lt.mpr (Nat.lt_of_lt_of_le lt (rv.length▸Nat.le_trans hz (iE rfl)))) e2 (c.id h2 e3 st) (hs _ _)
  ·exact item_last L (c.id h2 e3 st) (hs _ _)
end
end
end Mine
end
section
namespace Mine
noncomputable section
theorem atn_nodup:nodupS ATN=true∧ATN.all (fun x=>!strEq x "?"&&MTN.all fun y=>!strEq x y&&!strEq "?" y)=true:=⟨by kernel_rfl,by kernel_rfl⟩
theorem nodupS_get {l:List Str}{i j:Nat}{x:Str}(h:nodupS l=true)(hi:l[i]? = some x)(hj:l[j]? = some x):i=j:=by
 induction l generalizing i j with
 | nil=>cases hi
 | cons y l ih =>
  obtain ⟨h1,h2⟩:=iB (show (l.all (fun z=>!strEq y z)&&nodupS l)=true from h)
  have no:∀ {k:Nat},l[k]? = some y→False:=fun e=>by
   have:=iT h1 y (List.mem_of_getElem? e)
   rw [strEq_refl] at this;cases this
  cases i with
  | zero =>
   cases j with
   | zero=>rfl
   | succ j=>cases hi;exact (no hj).elim
  | succ i =>
   cases j with
   | zero=>cases hj;exact (no hi).elim
   | succ j=>exact congrArg Nat.succ (ih h2 hi hj)
theorem an_eq (n:Nat):an n=(ATN[n]?).getD "?":=List.getD_eq_getElem?_getD
theorem an_cases (n:Nat):ATN[n]? = some (an n)∨an n="?":=by
 rw [an_eq]
 cases h:ATN[n]? with
 | none=>exact .inr rfl
 | some x=>exact .inl rfl
theorem an_of {c:Nat}(hc:Nat.blt c ATN.length=true):ATN[c]? = some (an c):=by
 rw [an_eq,List.getElem?_eq_getElem (iE hc)];rfl
theorem an_inj {n c:Nat}(hc:Nat.blt c ATN.length=true)(h:an n=an c):n=c:=by
 have e:=an_of hc
 rcases an_cases n with hn | hn
 ·exact nodupS_get atn_nodup.1 (h▸hn) e
 ·have:=(iB (iT atn_nodup.2 _ (List.mem_of_getElem? e))).1
  rw [← h,hn] at this;cases this
theorem mn_ne {n c:Nat}(hc:Nat.blt c MTN.length=true):an n≠mn c:=fun h=>by
 have e:MTN[c]? = some (mn c):=by
  show _=some (MTN.getD c _)
  rw [List.getD_eq_getElem?_getD,List.getElem?_eq_getElem (iE hc)];rfl
 have hm:=List.mem_of_getElem? e
 have all:=iT atn_nodup.2
 rcases an_cases n with hn | hn
 ·have:=(iB (iT (iB (all _ (List.mem_of_getElem? hn))).2 _ hm)).1
  rw [h,strEq_refl] at this;cases this
 ·have:=(iB (iT (iB (all _ (List.mem_of_getElem? (an_of (c:=0) rfl)))).2 _ hm)).2
  rw [← h,hn,strEq_refl] at this;cases this
structure ClsOk (K:Frag)(C:Addr):Prop where
 g:∀ x,plainGet K C x=true
 h:hasDictIn K C=true
 s:findIn K (.ref C) "__setattr__"=some (some (.builtin "object.__setattr__"))
 o:plainOver K C=true
noncomputable def clsT (K:Frag)(C:Addr):Bool:=plainGet K C "a"&&(hasDictIn K C&&(plainOver K C&&(findIn K (.ref C) "__setattr__"==some (some (.builtin "object.__setattr__")))))
theorem clsOk {K:Frag}{C:Addr}(h:clsT K C=true):ClsOk K C:=by
 obtain ⟨h1,h⟩:=iB h
 obtain ⟨h2,h⟩:=iB h
 obtain ⟨h3,h4⟩:=iB h
 exact ⟨fun _=>h1,h2,eq_of_beq h4,h3⟩
theorem ga_ok (w:World):GA.all (fun q=>clsT (H.K w.params) q.1&&q.2.all fun c=>Nat.blt c ATN.length&&findIn (H.K w.params) (.ref q.1) (an c)==some none)=true:=by kernel_rfl
theorem mt_ok (w:World):MT.all (fun q=>clsT (H.K w.params) q.2.1&&(Nat.blt q.2.2 MTN.length&&(findIn (H.K w.params) (.ref q.2.1) (mn q.2.2)==some (some (.ref q.1))&&(isFn (H.K w.params) (.ref q.1)&&keepIn (H.K w.params) (.ref q.1)))))=true:=by kernel_rfl
theorem in_ok (w:World):IN.all (fun q=>makesIn (H.K w.params) q.1&&(findIn (H.K w.params) (.ref q.1) "__init__"==some (some (.ref q.2))&&isFn (H.K w.params) (.ref q.2)))=true:=by kernel_rfl
theorem all_any {α:Type}{l:List α}{p q:α→Bool}{P:Prop}(h:l.all p=true)(h2:l.any q=true)(k:∀ x,p x=true→q x=true→P):P:=by
 obtain ⟨x,hx,e⟩:=List.any_eq_true.mp h2
 exact k x (iT h x hx) e
theorem noAttr (w:World){C c:Nat}(h:getOk C c=true):findIn (H.K w.params) (.ref C) (an c)=some none∧ClsOk (H.K w.params) C∧Nat.blt c ATN.length=true :=
 all_any (ga_ok w) h fun q h1 h2=>by
  obtain ⟨C',cs⟩:=q
  obtain ⟨e,h8⟩:=iB h2
  obtain ⟨h9,h3⟩:=iB h1
  cases Nat.eq_of_beq_eq_true e
  refine all_any h3 h8 fun d h4 h5=>?_
  cases Nat.eq_of_beq_eq_true h5
  obtain ⟨h6,h7⟩:=iB h4
  exact ⟨eq_of_beq h7,clsOk h9,h6⟩
structure MethIs (K:Frag)(C:Addr)(c:Nat)(f:Addr):Prop where
 cl:ClsOk K C
 lt:Nat.blt c MTN.length=true
 ff:findIn K (.ref C) (mn c)=some (some (.ref f))
 i:isFn K (.ref f)=true
 k:keepIn K (.ref f)=true
theorem methIs (w:World){C c f:Nat}(h:methOk C c f=true):MethIs (H.K w.params) C c f :=
 all_any (mt_ok w) h fun q h1 h2=>by
  obtain ⟨f',C',c'⟩:=q
  obtain ⟨e1,h2⟩:=iB h2
  obtain ⟨e2,e3⟩:=iB h2
  cases Nat.eq_of_beq_eq_true e1
  cases Nat.eq_of_beq_eq_true e2
  cases Nat.eq_of_beq_eq_true e3
  obtain ⟨g1,h1⟩:=iB h1
  obtain ⟨g2,h1⟩:=iB h1
  obtain ⟨g3,h1⟩:=iB h1
  obtain ⟨g4,g5⟩:=iB h1
  exact ⟨clsOk g1,g2,eq_of_beq g3,g4,g5⟩
theorem init_ok (w:World){C f:Nat}(h:initOk C f=true):makesIn (H.K w.params) C=true∧findIn (H.K w.params) (.ref C) "__init__"=some (some (.ref f))∧isFn (H.K w.params) (.ref f)=true :=
 all_any (in_ok w) h fun q h1 h2=>by
  obtain ⟨C',f'⟩:=q
  obtain ⟨e1,e2⟩:=iB h2
  cases Nat.eq_of_beq_eq_true e1
  cases Nat.eq_of_beq_eq_true e2
  obtain ⟨g1,h1⟩:=iB h1
  obtain ⟨g2,g3⟩:=iB h1
  exact ⟨g1,eq_of_beq g2,g3⟩
theorem getL_cons {x:Str}{e:DictEntry}{q:List DictEntry}{n:Nat}{t:Tok}(h:e.key=.str (an n) t):getL x (e::q)=if an n==x then some (some e.val) else getL x q:=by
 obtain ⟨hs,ky,vl⟩:=e
 cases (show ky=_ from h)
 unfold getL
 rw [List.find?_cons]
 simp only [Value.isStr,List.any_cons,DictEntry.refKey,Bool.false_or]
 cases an n==x <;> rfl
theorem getL_of {K:KA}{c:Nat}(hc:Nat.blt c ATN.length=true){x:SV}{ns:List Nat}:∀ {l:List SV} {vs:List Value} {es:List DictEntry},EntR ns vs es→VRs K l vs→fieldOf ns l c=some x→∃ v,getL (an c) es=some (some v)∧VR K x v:=by
 induction ns with
 | nil=>intro _ _ _ _ _ h;cases h
 | cons n ns ih =>
  rintro l _ _ ⟨v,r,e,q,rfl,rfl,⟨t,e3⟩,e4,e5⟩ rl h
  cases l with
  | nil=>cases h
  | cons y l =>
   obtain ⟨_,_,e6,r1,r2⟩:=rl
   cases e6
   rw [getL_cons e3]
   have h':(if Nat.beq n c then some y else fieldOf ns l c)=some x:=h
   cases hb:Nat.beq n c with
   | true =>
    rw [hb] at h'
    cases h'
    rw [Nat.eq_of_beq_eq_true hb,BEq.rfl]
    exact ⟨v,congrArg some (congrArg some e4),r1⟩
   | false =>
    rw [hb] at h'
    rw [if_neg fun k=>by rw [an_inj hc (eq_of_beq k),Nat.beq_refl] at hb;cases hb]
    exact ih e5 r2 h'
theorem getL_none {x:Str}(hx:∀ n,an n≠x){ns:List Nat}:∀ {vs:List Value} {es:List DictEntry},EntR ns vs es→getL x es=some none:=by
 induction ns with
 | nil=>rintro _ _ ⟨_,rfl⟩;rfl
 | cons n ns ih =>
  rintro _ _ ⟨v,r,e,q,rfl,rfl,⟨t,e3⟩,e4,e5⟩
  rw [getL_cons e3,if_neg fun k=>hx n (eq_of_beq k)]
  exact ih e5
section
variable {σ:Cx}{kk:Nat}{env:Env}{m:Mp}{cz hid:Ld}{led led':MLd}{s:Shared}{cc:CC}{sl:Sl}{A:Around}{Q E:Value→Shared→Prop}
theorem inst_at (G:Good σ kk)(st:SS σ m cz hid led s){x:SV}{u:Value}(hx:VR (Kn σ hid) x u){k:Addr→List Nat→List SV→Prop}(h:instK led x k) :
  ∃ a C d es n ns l vs,u=.ref a∧InstAt s.heap a (instObj C d) C (some (dictOf es n))∧EntR ns vs es∧VRs (Kn σ hid) l vs∧k C ns l:=by
 rcases objE_of h with ⟨C,ns,l,rfl,h1⟩ | h1
 ·obtain ⟨a,d,es,n,vs,rfl,k1,k2,e,r⟩:=hx
  exact ⟨a,C,d,es,n,ns,l,vs,rfl,⟨st.kn G k1,rfl,rfl,st.kn G k2⟩,e,r,h1⟩
 ·obtain ⟨a,rfl,C,ns,l,hm,h2⟩:=noE (refE_of h1)
  obtain ⟨_,⟨d,es,n,vs,rfl,e,r⟩,hg⟩:=led_obj st hm
  exact ⟨a,C,d,es,n,ns,l,vs,hx,⟨hg _ (.head _),rfl,rfl,hg _ (.tail _ (.head _))⟩,e,r,h2⟩
theorem handed_of {K:KA}{x:SV}{v:Value}(h:VR K x v)(hh:handedS x=true):handedIn v=true:=by
 cases x with
 | int x=>obtain ⟨t,rfl⟩:=h;rfl
 | str x=>obtain ⟨t,rfl⟩:=h;rfl
 | val v=>cases (show _=v from h);cases v <;> first | rfl | cases hh
 | tup l=>obtain ⟨a,_,_,rfl,_⟩:=h;rfl
 | lst l=>obtain ⟨a,_,_,rfl,_⟩:=h;rfl
 | sq l=>obtain ⟨a,_,_,rfl,_⟩:=h;rfl
 | rng n=>obtain ⟨a,_,_,_,rfl,_⟩:=h;rfl
 | obj C ns l=>obtain ⟨a,_,_,_,_,rfl,_⟩:=h;rfl
 | dct w ns l=>obtain ⟨a,_,_,rfl,_⟩:=h;rfl
theorem attr_sound (G:Good σ kk){x:SV}{u:Value}{c:Nat}{ex:Bool}{k:SV→MLd→Prop}(h:attrK led x c fun r=>k r led)(st:SS σ m cz hid led s)(hx:VR (Kn σ hid) x u)
  (cn:Fin σ m cz hid led k Q):wpAny (model rowP σ.w) σ.A (getAttr u (an c) ex) Q E s:=by
 obtain ⟨a,C,d,es,n,ns,l,vs,rfl,I,e,r,h⟩:=inst_at G st hx h
 obtain ⟨hg,h⟩:=condK_of h
 obtain ⟨y,hr,h⟩:=optK_of h
 obtain ⟨hh,h⟩:=condK_of h
 obtain ⟨n1,ck,n3⟩:=noAttr σ.w hg
 obtain ⟨v,g1,g2⟩:=getL_of n3 e r hr
 exact get_own st.F G.X I (ck.g _) ck.h n1 rfl g1 (handed_of g2 hh) (cn.id h g2 (st.tok _))
theorem meth_sound (G:Good σ kk){x:SV}{u:Value}{f c:Nat}{p:Prop}{pl:Sem Bool}{Q:Value × List Value→Shared→Prop}(h:MethOk led x f c p)(st:SS σ m cz hid led s)(hx:VR (Kn σ hid) x u)
  (cn:p→keepIn (H.K σ.w.params) (.ref f)=true→Q (.ref f,[u]) s):wpAny (model rowP σ.w) σ.A (getMethod u (mn c) pl) Q E s:=by
 obtain ⟨a,C,d,es,n,ns,l,vs,rfl,I,e,r,h⟩:=inst_at G st hx h
 obtain ⟨hg,h⟩:=condK_of h
 have mi:=methIs σ.w hg
 exact method_inst st.F G.X I (mi.cl.g _) mi.ff mi.i (getL_none (fun _=>mn_ne mi.lt) e) (cn h mi.k)
end
end
end Mine
end
section
namespace Mine
noncomputable section
theorem FzL.rel {K:KA}{r w:SV}(h:∀ u,VR K r u→VR K w u){l l':List SV}(z:FzL r w l l'):∀ {vs:List Value},VRs K l vs→VRs K l' vs:=by
 induction z with
 | nil=>exact fun e=>e
 | keep _ ih=>exact fun ⟨v,q,e,a,b⟩=>⟨v,q,e,a,ih b⟩
 | swap _ ih=>exact fun ⟨v,q,e,a,b⟩=>⟨v,q,e,h v a,ih b⟩
theorem FzM.rel {K:KA}{r w:SV}(h:∀ u,VR K r u→VR K w u){l l':MLd}(z:FzM r w l l'):∀ {q:Ld},RelL K l q→RelL K l' q:=by
 induction z with
 | nil=>exact fun e=>e
 | keep _ ih=>exact fun ⟨q1,q2,e,a,b⟩=>⟨q1,q2,e,a,ih b⟩
 | lst f _ ih=>exact fun ⟨q1,q2,e,⟨vs,nn,e2,a⟩,b⟩=>⟨q1,q2,e,⟨vs,nn,e2,f.rel h a⟩,ih b⟩
 | inst f _ ih=>exact fun ⟨q1,q2,e,⟨d,es,n,vs,e2,k,a⟩,b⟩=>⟨q1,q2,e,⟨d,es,n,vs,e2,k,f.rel h a⟩,ih b⟩
theorem froz_rel {K K':KA}{a:Addr}{o:MO}{x:Ld}(h:RelO K a o x)(up:∀ a o,K a o→K' a o)(hx:∀ q∈x,K' q.1 q.2):∀ u,VR K' (.val (.ref a)) u→VR K' (froz o) u:=by
 intro u hu
 cases (show u=.ref a from hu)
 cases o with
 | lst l=>obtain ⟨vs,nn,rfl,r⟩:=h;exact ⟨a,_,vs,rfl,hx _ (.head _),⟨nn,rfl⟩,VRs.mono up _ _ r⟩
 | inst C ns l=>obtain ⟨d,es,n,vs,rfl,e,r⟩:=h;exact ⟨a,d,es,n,vs,rfl,hx _ (.head _),hx _ (.tail _ (.head _)),e,VRs.mono up _ _ r⟩
 | dct w=>obtain ⟨o,rfl,r⟩:=h;exact ⟨a,o,[],rfl,hx _ (.head _),r,rfl⟩
section
variable {σ:Cx}{kk:Nat}{env:Env}{m:Mp}{cz hid:Ld}{led led':MLd}{s:Shared}{cc:CC}{sl:Sl}{A:Around}{Q E:Value→Shared→Prop}
theorem Fz.sound {vs ws:List SV}{led led2:MLd}(z:Fz vs led ws led2):∀ {hid:Ld} {us:List Value},SS σ m cz hid led s→VRs (Kn σ hid) vs us→∃ hid',(∀ q∈hid,q∈hid')∧SS σ m cz hid' led2 s∧VRs (Kn σ hid') ws us:=by
 induction z with
 | nil=>exact fun st r=>⟨_,fun _ h=>h,st,r⟩
 | one sp fm fl _ ih =>
  intro hid us st r
  refine el1a3 st.ex fun ledc rl se S=>?_
  refine el2a3 (sp.rel rl) fun x y e1q ry pm=>?_
  refine el2a3 e1q fun q1 q2 e1 ro e2=>?_
  clear e1q
  cases (show q2=[] from e2)
  rw [List.append_nil] at e1
  cases e1
  have up:∀ a o,Kn σ hid a o→Kn σ (x++hid) a o:=Kn.mono fun q hq=>iR hq
  have fr:=froz_rel ro up fun q hq=>.inr (iL hq)
  have nd:=(pm.map (fun q:Addr × Obj=>q.1)).nodup_iff.mp se.nd
  rw [List.map_append,List.nodup_append] at nd
  have mx:∀ q∈x,q∈ledc:=fun q hq=>pm.mem_iff.mpr (iL hq)
  have my:∀ q∈y,q∈ledc:=fun q hq=>pm.mem_iff.mpr (iR hq)
  obtain ⟨hid',u,st2,r2⟩:=ih (show SS σ m cz (x++hid) _ s from ⟨y,fm.rel fr (ry.mono up),⟨nd.2.1,fun q hq p hp=>(mem_app3.mp hp).elim (fun hp=>se.d1 q (my q hq) p (iL hp)) fun hp=>hp.elim (fun hp=>nd.2.2 p.1 (List.mem_map_of_mem hp) q.1 (List.mem_map_of_mem hq)) fun hp=>se.d1 q (my q hq) p (iR hp),
   se.nc,fun q hq p hp=>(iA hp).elim (fun hp=>(se.d1 p (mx p hp) q (iL hq)).symm) fun hp=>se.d2 q hq p hp⟩,
   S.sub fun q hq=>(mem_app3.mp hq).elim (fun hq=>iL (my q hq)) fun hq=>hq.elim (fun hq=>iR (iL hq)) fun hq=>(iA hq).elim (fun hq=>iL (mx q hq)) fun hq=>iR (iR hq)⟩) (fl.rel fr (VRs.mono up _ _ r))
  exact ⟨hid',fun q hq=>u q (iR hq),st2,r2⟩
theorem new_sound (G:Good σ kk){C:Addr}{xs:List SV}{vs:List Value}{k:SV→MLd→Prop}(h:newK σ.pw kk C xs led k)(st:SS σ m cz hid led s)(hv:VRs (Kn σ hid) xs vs)
  (c:Fin σ m cz hid led k Q):wpAny (model rowP σ.w) σ.A (call (.ref C) vs) Q E s:=by
 obtain ⟨fI,k1,lin,rest,P,hi,hk1,hsp,hF,hk⟩:=h
 refine el0a3 (init_ok σ.w hi) fun i1 i2 i3=>?_
 refine el1a3 st.ex fun ledc r sp S=>?_
 refine call_cls S.F G.X S.N i1 i2 i3 fun x dx h' F' N' lo hlt=>?_
 have st1:SS σ m cz hid ((x,.inst C [] [])::led) { s with heap:=h' }:=SS.made (n:=[]) (x:=[(x,instObj C dx),(dx,dictOf [] 0)]) r sp ⟨dx,[],0,[],rfl,⟨rfl,rfl⟩,rfl⟩
  (List.nodup_cons.mpr ⟨fun h=>Nat.ne_of_gt hlt (iS h),List.nodup_cons.mpr ⟨List.not_mem_nil,List.nodup_nil⟩⟩)
  (fun y hy q hq=>(iC hy).elim (fun e=>e▸Nat.ne_of_lt (Nat.lt_trans (lo q hq) hlt)) fun hy=>iS hy▸Nat.ne_of_lt (lo q hq)) ⟨F',N',S.gs,S.dr,S.os⟩
 have hd:=G.d _ hk1
 have hu:=G.u _ hk1
 refine fn_use G (hF x) (.left hsp) st1 (⟨.ref x,vs,rfl,rfl,hv⟩:VRs (Kn σ hid) (.ref x::xs) (.ref x::vs)) (dp:=σ.dp+1) (by clear hu;omega) (by have h8:(Code.builtin "type.__call__" { pos:=Value.ref C::vs }).cUnits≤8:=iE rfl;show σ.un+_+8 * k1 < cLine;clear hd;omega) (fun h=>h.elim) (fun r v l hid' s' hP rv u st'=>?_) fun h=>h.elim
 obtain ⟨rfl,r',l',hz,hk'⟩:=hk x r l hP
 cases (show v=.none from rv)
 refine el1a3 (hz.sound st' (⟨.ref x,[],rfl,rfl,rfl⟩:VRs (Kn σ hid') [.ref x] [.ref x])) fun hid2 u2 st3 eRq=>?_
 refine el2a3 eRq fun v' _ e rv _=>?_
 clear eRq
 cases e
 exact ⟨rfl,c _ _ _ _ _ hk' rv (fun q hq=>u2 q (u q hq)) st3⟩
theorem upd_mk {a:Addr}{o o':Obj}{pre post:Ld}(h1:∀ p∈pre,p.1≠a)(h2:∀ p∈post,p.1≠a):Upd a o o' (pre++(a,o)::post) (pre++(a,o')::post):=by
 induction pre with
 | nil=>exact .head h2
 | cons p pre ih=>exact .tail (h1 p (.head _)) (ih fun q hq=>h1 q (.tail _ hq))
theorem Sep.swap {l1 l2:Ld}(sp:Sep l1 cz hid)(h:l1.map (·.1)=l2.map (·.1)):Sep l2 cz hid:=by
 refine ⟨h▸sp.nd,fun q hq p hp=>?_,sp.nc,sp.d2⟩
 refine el1a2 (iM (show q.1∈l1.map (·.1) from h▸List.mem_map_of_mem hq)) fun q0 h0 e=>?_
 exact e▸sp.d1 q0 h0 p hp
theorem Sep.around {pre post:Ld}{a:Addr}{o:Obj}(sp:Sep (pre++(a,o)::post) cz hid):(∀ p∈pre,p.1≠a)∧∀ p∈post++(cz++hid),p.1≠a:=by
 have nd:=sp.nd
 rw [List.map_append,List.nodup_append,List.map_cons,List.nodup_cons] at nd
 exact ⟨fun p hp=>nd.2.2 p.1 (List.mem_map_of_mem hp) a (.head _),fun p hp=>(iA hp).elim (fun hp e=>nd.2.1.1 (List.mem_map.mpr ⟨p,hp,e⟩)) fun hp=>sp.d1 (a,o) (iR (.head _)) p hp⟩
theorem lst_upd {a:Addr}{l l':List SV}(st:SS σ m cz hid led s)(hU:LUpd a (.lst l) (.lst l') led led'):∃ vs nn n,St σ m n s∧VRs (Kn σ hid) l vs∧∀ vs' nn',∃ n',Upd a (listO vs nn) (listO vs' nn') n n'∧∀ s',VRs (Kn σ hid) l' vs'→St σ m n' s'→SS σ m cz hid led' s':=by
 refine el1a3 st.ex fun ledc r sp S=>?_
 refine el3a3 (hU.rel r) fun pre x post e1q e2q hx=>?_
 subst e1q
 refine el2a2 e2q fun vs nn e1q rv=>?_
 clear e2q
 subst e1q
 obtain ⟨h1,h2⟩:=Sep.around (pre:=pre) (post:=post) (a:=a) (o:=listO vs nn) sp
 exact ⟨vs,nn,pre++(a,listO vs nn)::(post++(cz++hid)),S.sub fun q hq=>by rw [List.append_assoc];exact hq,rv,fun vs' nn'=>⟨pre++(a,listO vs' nn')::(post++(cz++hid)),upd_mk h1 h2,
  fun s' rv' S'=>⟨_,hx [(a,listO vs' nn')] ⟨vs',nn',rfl,rv'⟩,sp.swap (by simp),S'.sub fun q hq=>by rw [List.append_assoc] at hq;exact hq⟩⟩⟩
theorem tupMade {l:List SV}{vs:List Value}{k:SV→MLd→Prop}(st:SS σ m cz hid led s)(hv:VRs (Kn σ hid) l vs)(hz:Nat.ble l.length 40=true)(h:k (.tup l) led)(c:Fin σ m cz hid led k Q):wpAny (model rowP σ.w) A (newTuple vs) Q E s:=by
 refine el1a4 st.new fun n S lt nw _=>?_
 exact newTuple_N S.F S.N (fun h' F' N'=>c.tup S nw h hv lt F' N') (small_of (hv.length▸Nat.le_trans (iE hz) (iE rfl)))
theorem lstMade {l:List SV}{vs:List Value}{k:SV→MLd→Prop}(st:SS σ m cz hid led s)(hv:VRs (Kn σ hid) l vs)(hz:Nat.ble l.length 40=true)(h:k (.lst l) led)(c:Fin σ m cz hid led k Q):wpAny (model rowP σ.w) A (newList vs) Q E s:=by
 refine el1a4 st.new fun n S lt nw _=>?_
 exact newList_N S.F S.N (fun h' F' N'=>c.lst S nw h hv lt F' N') (small_of (hv.length▸Nat.le_trans (iE hz) (iE rfl)))
theorem mlsMade {l:List SV}{vs:List Value}(st:SS σ m cz hid led s)(hv:VRs (Kn σ hid) l vs)(hz:Nat.ble l.length 40=true)(c:∀ a s',SS σ m cz hid ((a,.lst l)::led) s'→Q (.ref a) s'):wpAny (model rowP σ.w) A (newList vs) Q E s:=by
 refine el1a3 st.ex fun ledc r sp S=>?_
 exact newList_N S.F S.N (fun h' F' N'=>c _ _ (SS.made (n:=[]) (x:=[(s.heap.objs.size,listO vs 0)]) r sp ⟨vs,0,rfl,hv⟩ (List.nodup_cons.mpr ⟨List.not_mem_nil,List.nodup_nil⟩) (fun y hy q hq=>iS hy▸Nat.ne_of_lt (Heap.lt_size (S.N q hq).1)) ⟨F',N',S.gs,S.dr,S.os⟩))
  (small_of (hv.length▸Nat.le_trans (iE hz) (iE rfl)))
noncomputable def lmId (b:LM):String:=LM.casesOn (motive:=fun _=>String) b "list.append" "list.pop" "list.extend"
theorem lm_sound (G:Good σ kk){b:LM}{x:SV}{xs:List SV}{u:Value}{vs:List Value}{k:SV→MLd→Prop}(h:lmK led b x xs k)(st:SS σ m cz hid led s)(hx:VR (Kn σ hid) x u)(hv:VRs (Kn σ hid) xs vs)
  (c:Fin σ m cz hid led k Q):wpAny (model rowP σ.w) σ.A (call (.builtin (lmId b)) (u::vs)) Q E s:=by
 refine el1a2 (noE (refE_of h)) fun a e1q h1=>?_
 subst e1q
 clear h
 cases (show u=.ref a from hx)
 cases b with
 | append =>
  refine el1a2 (arg1_of h1) fun y e1q eRq=>?_
  subst e1q
  obtain ⟨l,led',hU,hz,h⟩:=eRq
  refine el2a3 hv fun w _ e1q rw1 e2q=>?_
  clear hv
  subst e1q
  subst e2q
  refine el3a3 (lst_upd st hU) fun ws nn n S rv up=>?_
  refine el1a2 (up (ws++[w]) (nn+1)) fun n' U nx=>?_
  exact append_K (its:=ws.toArray) (n:=nn) S.F S.N (by rw [List.push_toArray];exact U) (fun h' F' N'=>c _ _ _ _ _ h rfl (fun _ h=>h) (nx _ (rv.snoc rw1) ⟨F',N',S.gs,S.dr,S.os⟩)) (small_of (show ws.length≤_ from rv.length▸Nat.le_trans hz (iE rfl)))
 | pop =>
  cases xs with
  | cons _ _=>exact h1.elim
  | nil =>
   obtain ⟨l,y,led',hU,hz,h⟩:=h1
   cases (show vs=[] from hv)
   refine el3a3 (lst_upd st hU) fun ws nn n S rv up=>?_
   refine el2a3 rv.split fun p q e1q rp eRq=>?_
   subst e1q
   refine el2a3 eRq fun w _ e1q rw1 e2q=>?_
   clear eRq
   subst e1q
   subst e2q
   refine el1a2 (up p (nn+1)) fun n' U nx=>?_
   exact kl_pop (its:=(p++[w]).toArray) S.F S.N (last_snoc p w) U (small_of (Nat.le_trans (Nat.le_of_eq (show (p++[w]).length=p.length+1 by rw [List.length_append];rfl)) (Nat.succ_le_succ (rp.length▸Nat.le_trans hz (iE rfl))))) (fun h' F' N'=>c _ _ _ _ _ h rw1 (fun _ h=>h) (nx _ rp ⟨F',N',S.gs,S.dr,S.os⟩))
 | extend =>
  refine el1a2 (arg1_of h1) fun y e1q h2=>?_
  subst e1q
  refine el1a2 (noE (lstE_of h2)) fun r e1q eRq=>?_
  subst e1q
  obtain ⟨l,led',hU,hz,h⟩:=eRq
  refine el2a3 hv fun w _ e1q e2q e3q=>?_
  clear hv
  subst e1q
  refine el3a4 e2q fun b o ws2 e1q kb ib rb=>?_
  clear e2q
  subst e1q
  subst e3q
  refine el3a3 (lst_upd st hU) fun ws nn n S rv up=>?_
  have hl:ws.length≤1000:=rv.length▸hz.1
  have hl2:ws2.length≤1000:=rb.length▸hz.2
  obtain ⟨n2,rfl⟩:=ib
  have hb:=st.kn G kb
  have sm:ws.length+ws2.length≤sizeLine:=small_of (Nat.le_trans (Nat.add_le_add hl hl2) (iE rfl))
  have hd:¬(!ws.toArray.isEmpty&&Builtin.List.listTooLong (ws.toArray.size+ws2.toArray.size))=true:=by
   have:Builtin.List.listTooLong (ws.toArray.size+ws2.toArray.size)=false:=decide_eq_false (Nat.not_lt.mpr sm)
   rw [this,Bool.and_false];exact Bool.false_ne_true
  refine el1a2 (up (ws++ws2) (if ws2=[] then nn else nn+1)) fun n' U nx=>?_
  refine el2a4 U.split fun pre post e1q e2q p1 p2=>?_
  subst e1q
  subst e2q
  have z:=S.N (_,listO ws nn) (List.mem_append.mpr (.inr (.head _)))
  show wpAny _ _ (call (.builtin "list.extend") _) _ _ _
  refine call_meets PySem.F.slot_list_extend ⟨_,z.1,rfl⟩ PySem.F.entry_list_extend (PySem.F.args_list_extend_2 _ _) (PySem.AutoSeq1.list_extend_list_list_0 _ ws.toArray nn b ws2.toArray n2 hd (small_of (Nat.le_trans hl (iE rfl:1000≤3000))) (Nat.le_succ_of_le sm)) ⟨z.1,hb,?_⟩
  refine c _ _ _ _ _ h rfl (fun _ h=>h) (nx _ (VRs.append rb rv) ⟨S.F.change (Heap.SameBut.update ..) z.2.1 z.2.2,?_,S.gs,S.dr,S.os⟩)
  by_cases h0:ws2=[]
  ·subst h0
   rw [if_pos rfl]
   exact kl_turn0 (fun x=>x++#[]) S.N p1 p2 (by simp) (by simp)
  ·rw [if_neg h0]
   exact kl_turn _ S.N p1 p2 (by simp) (by simp [h0])
end
end
end Mine
end
section
namespace Mine
noncomputable section
noncomputable def biName (b:BI):Str:=BI.casesOn (motive:=fun _=>Str) b "abs" "int" "max" "min" "len" "sum" "range" "list" "tuple" "str"
noncomputable def biVal (b:BI):Value:=BI.casesOn (motive:=fun _=>Value) b (.builtin "abs") (.type "int") (.builtin "max") (.builtin "min") (.builtin "len") (.builtin "sum") (.type "range") (.type "list") (.type "tuple") (.type "str")
theorem bi_boot:∀ b:BI,bootBuiltins (biName b)=some (biVal b)
 | .abs=>by show bootBuiltins "abs"=_;boot_fast
 | .int=>by show bootBuiltins "int"=_;boot_fast
 | .max=>by show bootBuiltins "max"=_;boot_fast
 | .min=>by show bootBuiltins "min"=_;boot_fast
 | .len=>by show bootBuiltins "len"=_;boot_fast
 | .sum=>by show bootBuiltins "sum"=_;boot_fast
 | .range=>by show bootBuiltins "range"=_;boot_fast
 | .list=>by show bootBuiltins "list"=_;boot_fast
 | .tuple=>by show bootBuiltins "tuple"=_;boot_fast
 | .str=>by show bootBuiltins "str"=_;boot_fast
section
variable {σ:Cx}{kk:Nat}{env:Env}{m:Mp}{cz hid:Ld}{led led':MLd}{s:Shared}{cc:CC}{sl:Sl}{A:Around}{Q E:Value→Shared→Prop}
theorem bi_sound (G:Good σ kk){b:BI}{xs:List SV}{vs:List Value}{k:SV→MLd→Prop}(h:biK led b xs fun r=>k r led)(st:SS σ m cz hid led s)(hv:VRs (Kn σ hid) xs vs)
  (c:Fin σ m cz hid led k Q):wpAny (model rowP σ.w) σ.A (call (biVal b) vs) Q E s:=by
 cases b with
 | abs =>
  refine el1a2 (arg1_of h) fun x e1q h1=>?_
  subst e1q
  refine el1a2 (noE (intE_of h1)) fun x e1q h2=>?_
  subst e1q
  refine el2a3 hv fun _ _ e1q e2q e3q=>?_
  clear hv
  subst e1q
  obtain ⟨t,rfl⟩:=e2q
  subst e3q
  exact call_abs_int fun u tk=>c.int st h2
 | int =>
  refine el1a2 (arg1_of h) fun x e1q h1=>?_
  subst e1q
  rcases intE_of h1 with ⟨x,rfl,h2⟩ | h2
  ·refine el2a3 hv fun _ _ e1q e2q e3q=>?_
   clear hv
   subst e1q
   obtain ⟨t,rfl⟩:=e2q
   subst e3q
   exact call_int_int (c.id h2 ⟨_,rfl⟩ st)
  ·refine el1a2 (noE (boolE_of h2)) fun x e1q h3=>?_
   subst e1q
   refine el2a3 hv fun v _ e1q e e2q=>?_
   clear hv
   subst e1q
   subst e2q
   cases (show v=_ from e)
   exact call_int_bool (c.int st h3)
 | max =>
  refine el1a2 st.same fun n S nx=>?_
  cases xs with
  | nil=>exact h.elim
  | cons x r =>
   cases r with
   | nil =>
    refine el1a2 (noE (lstE_of (show lstE x _ False from h))) fun _ e1q eRq=>?_
    subst e1q
    obtain ⟨ns,rfl,hz,hne,h2⟩:=eRq
    refine el2a3 hv fun _ _ e1q e2q e3q=>?_
    clear hv
    subst e1q
    refine el3a4 e2q fun a o ws e1q ka ia ra=>?_
    clear e2q
    subst e1q
    subst e3q
    exact kso_max S.F S.N (st.isL G ka ia) (ints_are ra) (List.length_pos_iff.mpr hne) rfl fun h' M t tk F' N' h1 h3=>c.id (h2 M h1 h3) ⟨_,rfl⟩ (nx _ _ F' N')
   | cons y r =>
    refine el1a2 (noE (intE_of (show intE x _ False from h))) fun x e1q h1=>?_
    subst e1q
    refine el1a2 (noE (intE_of h1)) fun y e1q h2=>?_
    subst e1q
    obtain ⟨e,h3⟩:=condK_of h2
    cases r with
    | cons _ _=>cases e
    | nil =>
     refine el2a3 hv fun _ _ e1q e2q eRq=>?_
     clear hv
     subst e1q
     obtain ⟨t,rfl⟩:=e2q
     refine el2a3 eRq fun _ _ e1q e2q e3q=>?_
     clear eRq
     subst e1q
     obtain ⟨t2,rfl⟩:=e2q
     subst e3q
     exact max_two_N rfl S.F S.N fun h' tk F' N'=>c.id h3 ⟨_,rfl⟩ (nx _ _ F' N')
 | min =>
  refine el1a2 st.same fun n S nx=>?_
  cases xs with
  | nil=>exact h.elim
  | cons x r =>
   cases r with
   | nil =>
    refine el1a2 (noE (lstE_of (show lstE x _ False from h))) fun _ e1q eRq=>?_
    subst e1q
    obtain ⟨ns,rfl,hz,hne,h2⟩:=eRq
    refine el2a3 hv fun _ _ e1q e2q e3q=>?_
    clear hv
    subst e1q
    refine el3a4 e2q fun a o ws e1q ka ia ra=>?_
    clear e2q
    subst e1q
    subst e3q
    exact kso_min S.F S.N (st.isL G ka ia) (ints_are ra) (List.length_pos_iff.mpr hne) rfl fun h' M t tk F' N' h1 h3=>c.id (h2 M h1 h3) ⟨_,rfl⟩ (nx _ _ F' N')
   | cons y r =>
    refine el1a2 (noE (intE_of (show intE x _ False from h))) fun x e1q h1=>?_
    subst e1q
    refine el1a2 (noE (intE_of h1)) fun y e1q h2=>?_
    subst e1q
    obtain ⟨e,h3⟩:=condK_of h2
    cases r with
    | cons _ _=>cases e
    | nil =>
     refine el2a3 hv fun _ _ e1q e2q eRq=>?_
     clear hv
     subst e1q
     obtain ⟨t,rfl⟩:=e2q
     refine el2a3 eRq fun _ _ e1q e2q e3q=>?_
     clear eRq
     subst e1q
     obtain ⟨t2,rfl⟩:=e2q
     subst e3q
     exact min_two_N rfl S.F S.N fun h' tk F' N'=>c.id h3 ⟨_,rfl⟩ (nx _ _ F' N')
 | sum =>
  refine el1a2 (arg1_of h) fun x e1q h1=>?_
  subst e1q
  refine el1a2 (noE (lstE_of h1)) fun _ e1q eRq=>?_
  subst e1q
  obtain ⟨ns,rfl,hz,h2⟩:=eRq
  refine el2a3 hv fun _ _ e1q e2q e3q=>?_
  clear hv
  subst e1q
  refine el3a4 e2q fun a o ws e1q ka ia ra=>?_
  clear e2q
  subst e1q
  subst e3q
  refine el1a2 st.same fun n S nx=>?_
  exact sumK rfl S.F S.N (st.isL G ka ia) (ints_are ra) fun h' tk t F' N'=>c.id h2 ⟨_,rfl⟩ (nx _ _ F' N')
 | len =>
  refine el1a2 (arg1_of h) fun x e1q h1=>?_
  subst e1q
  refine el2a3 hv fun v _ e1q hx e2q=>?_
  clear hv
  subst e1q
  subst e2q
  have sm:∀ {a b:Nat},a=b→b < 1000000000→(a:Int) < 2 ^ 63:=fun e h=>e▸Int.ofNat_lt.mpr (Nat.lt_of_lt_of_le h (iE rfl:1000000000≤2 ^ 63))
  rcases strE_of h1 with ⟨x,rfl,h2⟩ | h0
  ·obtain ⟨hz,h2⟩:=condK_of h2
   obtain ⟨t,rfl⟩:=hx
   exact PySem.P.len_str (Int.not_le.mpr (sm rfl (Nat.lt_of_le_of_lt (iE hz) (iE rfl)))) (c.int st h2)
  clear h1
  rcases seqK_of h0 with ⟨l,rfl,hz,h2⟩ | ⟨l,hl,hz,h2⟩
  ·refine el3a4 hx fun a o ws e1q ka ia ra=>?_
   clear hx
   subst e1q
   rw [← ra.length] at h2
   exact len_tuple (st.isT G ka ia) (sm ra.length hz) (c.int st h2)
  ·refine el2a3 (seqOf G st hl hx) fun a ws e1q r L=>?_
   subst e1q
   rw [← r.length] at h2
   exact len_list L (sm r.length hz) (c.int st h2)
 | range =>
  refine el1a2 (arg1_of h) fun x e1q h1=>?_
  subst e1q
  refine el1a3 (noE (intE_of h1)) fun n0 e1q hz h2=>?_
  subst e1q
  refine el2a3 hv fun _ _ e1q e2q e3q=>?_
  clear hv
  subst e1q
  obtain ⟨t,rfl⟩:=e2q
  subst e3q
  refine el1a4 st.new fun n S lt nw _=>?_
  refine range1_rows S.F S.N fun h' tk t1 u1 v1 hR F' N' keep=>?_
  refine c _ _ _ _ _ h2 ⟨_,t1,u1,v1,rfl,.inr (.head _)⟩ cons_sub (nw _ _ _ lt ⟨F',fun q hq=>(iC hq).elim (fun e=>?_) (N' q),S.gs,S.dr,S.os⟩)
  cases e
  exact ⟨by rw [Int.toNat_of_nonneg hz.1];exact hR,Nat.ne_of_gt S.F.ns.lt,next_is_new S.F⟩
 | list =>
  refine el1a2 (arg1_of h) fun x e1q h1=>?_
  subst e1q
  refine el1a3 (noE (tupE_of h1)) fun l e1q hz h2=>?_
  subst e1q
  refine el2a3 hv fun _ _ e1q e2q e3q=>?_
  clear hv
  subst e1q
  refine el3a4 e2q fun a o ws e1q ka ia ra=>?_
  clear e2q
  subst e1q
  subst e3q
  refine el1a4 st.new fun n S lt nw _=>?_
  exact list_copyKT S.F S.N (st.isT G ka ia) (fun D cc h' F' N' l1=>c.lst S nw h2 ra l1 F' N') (small_of (show ws.length≤3000 from ra.length▸Nat.le_trans hz (iE rfl)))
 | tuple =>
  refine el1a2 (arg1_of h) fun x e1q eRq=>?_
  subst e1q
  obtain ⟨l,hl,hz,h2⟩:=eRq
  refine el2a3 hv fun v _ e1q hx e2q=>?_
  clear hv
  subst e1q
  subst e2q
  refine el2a3 (seqOf G st hl hx) fun a ws e1q r L=>?_
  subst e1q
  refine el1a4 st.new fun n S lt nw _=>?_
  exact kde_tupleOf (zs:=ws) S.F S.N L (show ws.length≤16384 from r.length▸Nat.le_trans hz (iE rfl)) rfl (fun D h' F' N' l1=>c.tup S nw h2 r l1 F' N')
 | str =>
  refine el1a2 (arg1_of h) fun x e1q h1=>?_
  subst e1q
  refine el1a2 (noE (intE_of h1)) fun x e1q h2=>?_
  subst e1q
  obtain ⟨hz,h3⟩:=condK_of h2
  refine el2a3 hv fun _ _ e1q e2q e3q=>?_
  clear hv
  subst e1q
  obtain ⟨t,rfl⟩:=e2q
  subst e3q
  exact PySem.P.str_of_int (iE hz) (c.id h3 ⟨_,rfl⟩ (st.tok _))
end
end
end Mine
end
section
namespace Mine
noncomputable section
section
variable {σ:Cx}{kk:Nat}{env:Env}{m:Mp}{cz hid:Ld}{led led':MLd}{s:Shared}{cc:CC}{sl:Sl}{A:Around}{Q E:Value→Shared→Prop}
theorem tail_val {M:Model}{value slice:Expr}{o i:Value}(x:Str)(p:Pos)(h:wpAny (model rowP σ.w) A (subscriptTail (.Name x p) slice o i) Q E s):wpAny (model rowP σ.w) A (subscriptTail value slice o i) Q E s:=fun Γ q hΓ=>by
 have h1:=h Γ q hΓ
 unfold subscriptTail at h1 ⊢
 simp only [Sem.wp_bind'] at h1 ⊢
 refine Sem.wp_mono _ Γ _ (fun a q1 s1 g1=>Sem.wp_mono _ Γ _ (fun b q2 s2 g2=>?_) (fun _ _ _ h'=>h') _ _ g1) (fun _ _ _ h'=>h') _ _ h1
 have g3:Q b s2:=by
  rw [show letTemporaryGo (.Name x p) o b=pure () from rfl] at g2
  simpa only [Sem.wp_pure'] using g2
 exact wpAny_letTemporaryGo (base:=value) (o:=o) (r:=b) (prog:=rowP) (w:=σ.w) (A:=A) (E:=E) (Q:=fun _ s=>Q b s) g3 Γ q2 (by assumption)
theorem subSlice {a b:Value}{x y:Option Expr}{p:Pos}:subscripted (.Slice x y none p) false a b=operate [b,a] (getItem a b):=rfl
theorem places_G (n a:Nat)(h:a≤n):Builtin.Slice.slicePlaces (a:Int) (n:Int) 1=n - a:=by
 unfold Builtin.Slice.slicePlaces
 simp
 omega
theorem tail_adjG {n a:Nat}(h1:0 < a)(h2:a≤n):Builtin.Slice.sliceAdjust (some (Int.ofNat a)) none 1 (n:Int)=((a:Int),(n:Int)):=by
 unfold Builtin.Slice.sliceAdjust
 simp
 omega
theorem head_adjG {n a:Nat}(h2:a < n):Builtin.Slice.sliceAdjust none (some (Int.ofNat a)) 1 (n:Int)=(((0:Nat):Int),(a:Int)):=by
 unfold Builtin.Slice.sliceAdjust
 simp
 omega
theorem slcL_of {l:List SV}{lo hi:Option Int}{k:List SV→Prop}(h:slcL l lo hi k):(∃ a,lo=none∧hi=some (Int.ofNat a)∧a < l.length∧k (l.take a))∨(∃ a,lo=some (Int.ofNat a)∧hi=none∧0 < a∧a≤l.length∧k (l.drop a))∨(lo=some 1∧hi=some (-1)∧l.length=2∧k []):=by
 cases hi with
 | some j =>
  cases j with
  | ofNat a =>
   obtain ⟨e,h1⟩:=condK_of (show condK (isNil lo.toList) _ from h)
   obtain ⟨e2,h2⟩:=condK_of h1
   cases lo with
   | some _=>cases e
   | none=>exact .inl ⟨a,rfl,rfl,iE e2,h2⟩
  | negSucc n =>
   obtain ⟨e,h1⟩:=condK_of (show condK (Nat.beq n 0) _ from h)
   obtain ⟨e2,h2⟩:=condK_of h1
   refine el1a2 (optK_of h2) fun j e1q h3=>?_
   subst e1q
   obtain ⟨e4,h4⟩:=condK_of h3
   cases Nat.eq_of_beq_eq_true e
   cases of_decide_eq_true e4
   exact .inr (.inr ⟨rfl,rfl,Nat.eq_of_beq_eq_true e2,h4⟩)
 | none =>
  refine el1a2 (optK_of (show optK lo _ from h)) fun j e1q h1=>?_
  subst e1q
  cases j with
  | negSucc n=>exact h1.elim
  | ofNat a =>
   obtain ⟨e,h2⟩:=condK_of (show condK (Nat.blt 0 a&&Nat.ble a l.length) _ from h1)
   obtain ⟨e1,e2⟩:=iB e
   exact .inr (.inl ⟨a,rfl,rfl,iE e1,iE e2,h2⟩)
theorem sls_sound {x:Str}{t:Tok}{vl vu:Value}{lo hi:Option Int}{aa bb:Option Expr}{y:Str}{p q:Pos}{k:SV→MLd→Prop}(h:slsK x lo hi fun r=>k r led)(st:SS σ m cz hid led s)
  (pl:IsPart vl lo) (pu:IsPart vu hi) (c:Fin σ m cz hid led k Q) :
  wpAny (model rowP σ.w) σ.A (subscriptTail (.Name y q) (.Slice aa bb none p) (.str x t) (.ref s.heap.objs.size)) Q E { s with heap:=s.heap.push { cls:=.type "slice",data:=.fields #[vl,vu,.none] } }:=by
 obtain ⟨hz,h1⟩:=condK_of h
 refine el1a2 st.same fun n S nx=>?_
 have hs:x.length≤sizeLine:=small_of (Nat.le_trans (iE hz) (iE rfl))
 have w:∀ h' t' tk,Fr σ.g σ.L h' m→News σ.g σ.L h' n→Q (.str (Txt.slice x lo hi) t') { s with heap:=h',toks:=tk }:=fun h' t' tk F' N'=>c.id h1 ⟨_,rfl⟩ (nx h' tk F' N')
 cases pl with
 | none=>cases pu with
  | none=>exact slice_strN_nn S.F S.N w (subSlice (x:=aa) (y:=bb) (p:=p)) (fun _=>rfl) hs
  | int j u=>exact slice_strN_ns S.F S.N w (subSlice (x:=aa) (y:=bb) (p:=p)) (fun _=>rfl) hs
 | int i u=>cases pu with
  | none=>exact slice_strN_sn S.F S.N w (subSlice (x:=aa) (y:=bb) (p:=p)) (fun _=>rfl) hs
  | int j u=>exact slice_strN_ss S.F S.N w (subSlice (x:=aa) (y:=bb) (p:=p)) (fun _=>rfl) hs
theorem slice_sound (G:Good σ kk){x:SV}{u vl vu:Value}{lo hi:Option Int}{value:Expr}{aa bb:Option Expr}{p:Pos}{k:SV→MLd→Prop}(h:slcK x lo hi fun r=>k r led)(st:SS σ m cz hid led s)(hx:VR (Kn σ hid) x u)
  (pl:IsPart vl lo) (pu:IsPart vu hi) (c:Fin σ m cz hid led k Q) :
  wpAny (model rowP σ.w) σ.A (subscriptTail value (.Slice aa bb none p) u (.ref s.heap.objs.size)) Q E { s with heap:=s.heap.push { cls:=.type "slice",data:=.fields #[vl,vu,.none] } }:=by
 refine tail_val (M:=model rowP σ.w) "x" p ?_
 refine el1a4 st.new fun n S _ nw _=>?_
 have sz:∀ {l:List SV} {vs zs:List Value},VRs (Kn σ hid) l vs→l.length≤1000→zs.length≤vs.length→zs.length≤sizeLine:=fun r h h2=>small_of (Nat.le_trans h2 (r.length▸Nat.le_trans h (iE rfl)))
 rcases strE_of h with ⟨x,rfl,h1⟩ | h0
 ·obtain ⟨t,rfl⟩:=hx
  exact sls_sound h1 st pl pu c
 clear h
 rcases tupE_of h0 with ⟨l,rfl,hlen,h1⟩ | h1
 ·refine el3a4 hx fun D0 o vs e1q ka ia ra=>?_
  clear hx
  subst e1q
  have T:=st.isT G ka ia
  have hl:=ra.length
  have tup:=fun (a:Nat) {b:Int} {c0:Nat} {r:List SV} {zs:List Value} (ea:Builtin.Slice.sliceAdjust lo hi 1 (vs.length:Int)=((a:Int),b)) (ec:Builtin.Slice.slicePlaces (a:Int) b 1=c0) (hno:((a:Int)==0&&(1:Int)==1&&c0==vs.length)=false) (ez:(vs.drop a).take c0=zs) (rz:VRs (Kn σ hid) r zs) (hs:zs.length≤vs.length) (hk:k (.tup r) led) =>
   slice_tup (E:=E) (A:=σ.A) (prog:=rowP) (w:=σ.w) (value:=.Name "x" p) a S.F S.N T pl pu ea ec hno ez (fun D h' F' N' lt=>c.tup S nw hk rz lt F' N') (subSlice (x:=aa) (y:=bb) (p:=p)) (fun _=>rfl) (sz ra hlen hs)
  rcases slcL_of h1 with ⟨a,rfl,rfl,lt,hk⟩ | ⟨a,rfl,rfl,h0,le,hk⟩ | ⟨rfl,rfl,e,hk⟩
  ·rw [← hl] at lt
   exact tup 0 (head_adjG lt) (places_G a 0 (Nat.zero_le _)) (by simp;omega) rfl (ra.take a) (by simp;omega) hk
  ·rw [← hl] at le
   exact tup a (tail_adjG h0 le) (places_G _ _ le) (by simp;omega) (List.take_of_length_le (by simp)) (ra.drop a) (by simp) hk
  ·rw [← hl] at e
   exact tup 1 (b:=1) (c0:=0) (zs:=[]) (r:=[]) (by rw [e];rfl) rfl rfl rfl rfl (Nat.zero_le _) hk
 ·refine el1a3 (noE (lstE_of h1)) fun l e1q hlen h2=>?_
  subst e1q
  refine el3a4 hx fun D0 o vs e1q ka ia ra=>?_
  clear hx
  subst e1q
  have T:=st.isL G ka ia
  have hl:=ra.length
  have lst:=fun {r:List SV} {zs:List Value} (e:slicePick vs.toArray lo hi none=zs.toArray) (rz:VRs (Kn σ hid) r zs) (hk:k (.lst r) led) =>
   kmk_slice (E:=E) (A:=σ.A) (prog:=rowP) (w:=σ.w) (value:=.Name "x" p) S.F S.N T pl pu (fun D h' F' N' lt=>c.lst S nw hk rz lt F' (show News _ _ _ ((D,listO zs 0)::n) from by rw [e] at N';exact N')) (subSlice (x:=aa) (y:=bb) (p:=p)) (fun _=>rfl) (sz ra hlen (Nat.le_refl _))
  rcases slcL_of h2 with ⟨a,rfl,rfl,lt,hk⟩ | ⟨a,rfl,rfl,h0,le,hk⟩ | ⟨rfl,rfl,e,hk⟩
  ·exact lst (slicePick_upto _ _ (by rw [List.size_toArray,hl];exact Nat.le_of_lt lt)) (ra.take a) hk
  ·exact lst (slicePick_from _ _ (by rw [List.size_toArray,hl];exact le)) (ra.drop a) hk
  ·obtain ⟨v1,v2,rfl⟩:∃ v1 v2,vs=[v1,v2]:=by
    have e2:=hl.trans e
    clear lst ra hl T h1 h2 hk st S c nw sz ka ia e pl pu
    cases vs with
    | nil=>cases e2
    | cons v1 vs=>cases vs with
     | nil=>cases e2
     | cons v2 vs=>cases vs with
      | nil=>exact ⟨v1,v2,rfl⟩
      | cons _ _=>cases e2
   exact lst (zs:=[]) (r:=[]) rfl rfl hk
end
end
end Mine
end
section
namespace Mine
noncomputable section
noncomputable def isGloS (names:List (Str × NameKind))(x:Str):Bool:=isKind .globalImplicit names x&&!strEq x "__debug__"
noncomputable def inner (cc:CC)(sc:Scope)(xs:List Str):CC where
 names:=cc.names.map (fun o=>match o with
  | some x=>if isKind .free sc.names x&&!strEq x "__debug__" then some x else none
  | none=>none)++xs.map some
 isG:=isGloS sc.names
 cells:=[]
 top:=false
noncomputable def compScopeOk (cc:CC)(sc:Scope)(xs:List Str):Bool :=
 sc.names.all (fun y=>(y.2==.local&&isKind .local sc.names y.1) || (y.2==.free&&cc.cells.any (strEq y.1)) || y.2==.globalImplicit)&&(xs.all (isKind .local sc.names)&&(xs.all (fun x=>!strEq x "__debug__")&&sc.kind==.function))
theorem kind_lookup {k:NameKind}{x:Str}:∀ {names:List (Str × NameKind)},isKind k names x=true→names.lookup x=some k
 | [],h=>by cases h
 | (n,q)::r,h=>by
  unfold isKind at h
  rw [List.find?_cons] at h
  cases e:strEq n x with
  | true =>
   simp only [e] at h
   have e2:=strEq_eq e
   have e3:=eq_of_beq h
   subst e2 e3
   simp [List.lookup]
  | false =>
   simp only [e] at h
   have ne:(x==n)=false:=by rw [beq_eq_false_iff_ne];exact (strEq_ne e).symm
   rw [List.lookup_cons,ne]
   exact kind_lookup (by unfold isKind;exact h)
theorem lookup_relabel {env:Env}{x:Str}{k:NameKind}:∀ {names:List (Str × NameKind)},names.lookup x=some k →
  (names.map fun (n,k)=>if (k==NameKind.free&&env.scope.kind==.function&&env.kindOf n==some .cell) then (n,NameKind.cell) else (n,k)).lookup x=some (if (k==NameKind.free&&env.scope.kind==.function&&env.kindOf x==some .cell) then NameKind.cell else k)
 | [],h=>by simp at h
 | (n,q)::r,h=>by
  show List.lookup x ((if (q==NameKind.free&&env.scope.kind==.function&&env.kindOf n==some .cell)=true then (n,NameKind.cell) else (n,q))::_)=_
  cases hx:x==n with
  | true =>
   have e:=eq_of_beq hx
   subst e
   simp only [List.lookup_cons,hx] at h
   cases h
   by_cases hc:(k==NameKind.free&&env.scope.kind==.function&&env.kindOf x==some .cell)=true
   ·rw [if_pos hc];simp [hc]
   ·rw [if_neg hc];simp only [List.lookup_cons,hx,if_neg hc]
  | false =>
   simp only [List.lookup_cons,hx] at h
   have ih:=lookup_relabel (env:=env) h
   by_cases hc:(q==NameKind.free&&env.scope.kind==.function&&env.kindOf n==some .cell)=true
   ·rw [if_pos hc];simp only [List.lookup_cons,hx];exact ih
   ·rw [if_neg hc];simp only [List.lookup_cons,hx];exact ih
theorem clos_go {env:Env}:∀ (names:List (Str × NameKind)) (cs:List (Str × Addr)),(∀ q∈names,q.2=.free→∃ c,env.cells.lookup q.1=some c)→(∀ p∈cs,env.cells.lookup p.1=some p.2) →
  ∃ cl,(forIn names cs fun (x:Str × NameKind) (r:List (Str × Addr))=>(match x with | (name,kind)=>if (kind==.free)=true then do let a ← cellOf env name;pure (ForInStep.yield ((name,a)::r)) else pure (ForInStep.yield r):Sem (ForInStep (List (Str × Addr)))))=(pure cl:Sem _)∧(∀ p∈cl,env.cells.lookup p.1=some p.2)∧(∀ p∈cs,p∈cl)∧∀ q∈names,q.2=.free→∃ c,(q.1,c)∈cl
 | [],cs,_,h=>⟨cs,rfl,h,fun _ h=>h,fun _ h=>nomatch h⟩
 | (n,k)::r,cs,hf,h=>by
  cases hk:k==NameKind.free with
  | true =>
   obtain ⟨c,hc⟩:=hf (n,k) (.head _) (eq_of_beq hk)
   obtain ⟨cl,e,h1,h2,h3⟩:=clos_go r ((n,c)::cs) (fun q hq=>hf q (.tail _ hq)) (fun p hp=>by
    rcases iC hp with rfl | hp
    ·exact hc
    ·exact h p hp)
   refine ⟨cl,?_,h1,fun p hp=>h2 p (.tail _ hp),fun q hq hqf=>?_⟩
   ·rw [List.forIn_cons]
    simp only [hk,if_true]
    have e2:cellOf env n=pure c:=by unfold cellOf;rw [hc]
    rw [e2]
    exact e
   ·rcases iC hq with rfl | hq
    ·exact ⟨c,h2 _ (.head _)⟩
    ·exact h3 q hq hqf
  | false =>
   refine el1a4 (clos_go r cs (fun q hq=>hf q (.tail _ hq)) h) fun cl e h1 h2 h3=>?_
   refine ⟨cl,?_,h1,h2,fun q hq hqf=>?_⟩
   ·rw [List.forIn_cons]
    simp only [hk]
    exact e
   ·rcases iC hq with rfl | hq
    ·have e1:k=.free:=hqf
     subst e1;cases hk
    ·exact h3 q hq hqf
theorem lookup_of {env:Env}{cl:List (Str × Addr)}{x:Str}{c:Addr}(h:∀ p∈cl,env.cells.lookup p.1=some p.2)(hm:∃ c,(x,c)∈cl)(hc:env.cells.lookup x=some c):cl.lookup x=some c:=by
 induction cl with
 | nil=>obtain ⟨c,hm⟩:=hm;cases hm
 | cons p r ih =>
  obtain ⟨n,a⟩:=p
  cases hx:x==n with
  | true =>
   have e:=eq_of_beq hx
   subst e
   rw [List.lookup_cons,hx]
   have:=h (x,a) (.head _)
   rw [hc] at this
   exact this.symm
  | false =>
   rw [List.lookup_cons,hx]
   refine ih (fun p hp=>h p (.tail _ hp)) ?_
   obtain ⟨c',hm⟩:=hm
   rcases iC hm with e | hm
   ·cases e;rw [BEq.rfl] at hx;cases hx
   ·exact ⟨c',hm⟩
theorem closure_ok {env:Env}{sc:Scope}(hf:∀ q∈sc.names,q.2=.free→∃ c,env.cells.lookup q.1=some c):∃ cl,closureFor sc env=pure cl∧∀ x c,(x,NameKind.free)∈sc.names→env.cells.lookup x=some c→cl.lookup x=some c:=by
 refine el1a4 (clos_go sc.names [] hf (fun _ h=>nomatch h)) fun cl e h1 _ h3=>?_
 refine ⟨cl,?_,fun x c hx hc=>lookup_of h1 (h3 _ hx rfl) hc⟩
 unfold closureFor
 show (do let r ← forIn sc.names _ _;pure r)=_
 rw [show (forIn sc.names ([]:List (Str × Addr)) _:Sem _)=pure cl from e]
 rfl
theorem lookup_mem {k:NameKind}{x:Str}:∀ {names:List (Str × NameKind)},names.lookup x=some k→(x,k)∈names
 | [],h=>by cases h
 | (n,q)::r,h=>by
  rw [List.lookup_cons] at h
  split at h
  ·rename_i e;cases h;rw [eq_of_beq e];exact .head _
  ·exact .tail _ (lookup_mem h)
theorem any_strEq {x:Str}{l:List Str}(h:l.any (strEq x)=true):x∈l:=by
 refine el1a2 (List.any_eq_true.mp h) fun y hy e=>?_
 rw [strEq_eq e];exact hy
section
variable {σ:Cx}{kk:Nat}{env:Env}{m:Mp}{cz hid:Ld}{led led':MLd}{s:Shared}{cc:CC}{sl:Sl}{A:Around}
structure InOk (σ:Cx)(cc:CC)(sc:Scope)(xs:List Str)(cl:List (Str × Addr)):Prop where
 clos:closureFor sc σ.env=pure cl
 cells:∀ x c,(x,NameKind.free)∈sc.names→σ.cl.lookup x=some c→cl.lookup x=some c
 hcell:∀ y∈sc.names,y.2≠.cell
 kind:sc.kind=.function
 loc:∀ y∈sc.names,y.2=.local→sc.names.lookup y.1=some .local
 hx:∀ x∈xs,sc.names.lookup x=some .local
 dbg:∀ x∈xs,(x==("__debug__":Str))=false
 free:∀ y∈sc.names,y.2=.free→y.1∈cc.cells
theorem inner_ok (EO:EnvOk σ σ.env cc)(ht:cc.top=true){sc:Scope}{xs:List Str}(hc:compScopeOk cc sc xs=true):∃ cl,InOk σ cc sc xs cl:=by
 unfold compScopeOk at hc
 simp only [Bool.and_eq_true,List.all_eq_true,Bool.or_eq_true,beq_iff_eq,Bool.not_eq_true'] at hc
 refine el0a4 hc fun h1 h2 h3 h4=>?_
 clear hc
 have hfree:∀ y∈sc.names,y.2=.free→y.1∈cc.cells:=fun y hy e=>by
  rcases h1 y hy with (h | h) | h
  ·rw [e] at h;cases h.1
  ·exact any_strEq h.2
  ·rw [e] at h;cases h
 refine el1a2 (closure_ok (env:=σ.env) (sc:=sc) fun q hq e=>(EO.cel ht _ (hfree q hq e)).2) fun cl e1 e2=>?_
 refine ⟨cl,e1,e2,fun y hy e=>?_,h4,fun y hy e=>?_,fun x hx=>kind_lookup (h2 x hx),fun x hx=>?_,hfree⟩
 ·rcases h1 y hy with (h | h) | h
  ·rw [e] at h;cases h.1
  ·rw [e] at h;cases h.1
  ·rw [e] at h;cases h
 ·rcases h1 y hy with (h | h) | h
  ·exact kind_lookup h.2
  ·rw [e] at h;cases h.1
  ·rw [e] at h;cases h
 ·rw [beq_eq_false_iff_ne];exact strEq_ne (h3 x hx)
theorem glo_of {names:List (Str × NameKind)}{x:Str}(h:isGloS names x=true):names.lookup x=some .globalImplicit∧(x==("__debug__":Str))=false:=by
 unfold isGloS at h
 rw [Bool.and_eq_true,Bool.not_eq_true'] at h
 exact ⟨kind_lookup h.1,by rw [beq_eq_false_iff_ne];exact strEq_ne h.2⟩
theorem inner_env (G:Good σ kk){sc:Scope}{xs:List Str}{cl:List (Str × Addr)}(I:InOk σ cc sc xs cl)(C:Addr):EnvOk σ (compEnvC sc cl C σ.env) (inner cc sc xs) where
 glob x v hg e s Q E pos m F h:=by
  obtain ⟨h1,h2⟩:=glo_of hg
  have hk:(compEnvC sc cl C σ.env).kindOf x=some .globalImplicit:=lookup_relabel h1
  exact LCgL.ld_global F G.X G.T e h rfl I.kind hk h2
 bui x v hg e hv hn s Q E pos m F h:=by
  obtain ⟨h1,h2⟩:=glo_of hg
  have hk:(compEnvC sc cl C σ.env).kindOf x=some .globalImplicit:=lookup_relabel h1
  exact LCgL.ld_built F G.X G.T e hv hn h rfl rfl I.kind hk h2
 top h:=by cases h
 cel h:=by cases h
theorem inner_rel (G:Good σ kk)(EO:EnvOk σ σ.env cc)(ht:cc.top=true){cz':Ld}{sc:Scope}{xs:List Str}{vs:List SV}{cl:List (Str × Addr)}{C:Addr}{oC:Obj}{m₂:Mp}(I:InOk σ cc sc xs cl)(R:RelE σ σ.env m cz hid cc sl)(hsub:∀ q∈cz,q∈cz')
  (hC:(C,oC)∈cz') (hN:LCg.NsObj oC m₂) (hl:xs.length=vs.length) (hv:∀ (j:Nat) x v,xs[j]? = some x→vs[j]? = some v→∃ u,m₂ x=some u∧VR (Kn σ hid) v u):RelE σ (compEnvC sc cl C σ.env) m cz' hid (inner cc sc xs) (sl++vs.map some):=by
 refine ⟨?_,fun i x v hx hs=>?_⟩
 ·simp only [inner,List.length_append,List.length_map,R.len,hl]
 ·by_cases hi:i < sl.length
  ·have hx':(inner cc sc xs).names[i]? = (cc.names.map (fun o=>match o with
    | some x=>if isKind .free sc.names x&&!strEq x "__debug__" then some x else none
    | none=>none))[i]?:=List.getElem?_append_left (by rw [List.length_map,R.len];exact hi)
   rw [hx',List.getElem?_map] at hx
   rw [List.getElem?_append_left hi] at hs
   refine el1a2 (iO hx) fun o ho e=>?_
   cases o with
   | none=>cases e
   | some y =>
    dsimp only at e
    split at e
    ·rename_i hk
     cases e
     rw [Bool.and_eq_true,Bool.not_eq_true'] at hk
     refine el1a3 (R.at_ i _ v ho hs) fun u r n cellf=>?_
     have hfr:=kind_lookup hk.1
     have hmem:(x,NameKind.free)∈sc.names:=lookup_mem hfr
     refine el2a3 (cellf ht (I.free _ hmem rfl)) fun c o c1 c2 c3=>?_
     obtain ⟨k1,_⟩:=EO.cel ht _ (I.free _ hmem rfl)
     refine ⟨u,r,fun s Q E pos hid2 led st h=>?_,fun h=>by cases h⟩
     have hdb:(x==("__debug__":Str))=false:=by rw [beq_eq_false_iff_ne];exact strEq_ne hk.2
     unfold isCell at k1
     rw [Bool.and_eq_true] at k1
     have hk2:(compEnvC sc cl C σ.env).kindOf x=some .cell:=by
      have:=lookup_relabel (env:=σ.env) hfr
      refine Eq.trans this ?_
      have e1:(σ.env.scope.kind==ScopeKind.function)=true:=by rw [show σ.env.scope.kind=σ.cs.kind from rfl,G.k];rfl
      have e2:(σ.env.kindOf x==some .cell)=true:=by rw [show σ.env.kindOf x=some .cell from kind_lookup k1.1];rfl
      rw [e1,e2];rfl
     exact wpAny_Name (wpAny_loadName_cell I.kind hk2 (I.cells _ _ hmem c1) ⟨o,st.at_cz (hsub _ c2),c3⟩ h) hdb
    ·cases e
  ·have hlen:cc.names.length≤i:=by rw [R.len];omega
   have hx':(xs.map some)[i - sl.length]? = some (some x):=by
    rw [← hx]
    simp only [inner]
    rw [List.getElem?_append_right (by rw [List.length_map];exact hlen),List.length_map,R.len]
   rw [List.getElem?_append_right (by omega)] at hs
   rw [List.getElem?_map] at hx' hs
   refine el1a2 (iO hx') fun x0 h1 e1=>?_
   refine el1a2 (iO hs) fun v0 h2 e2=>?_
   cases e1;cases e2
   refine el1a2 (hv _ _ _ h1 h2) fun u hm r=>?_
   have hmx:=List.mem_of_getElem? h1
   refine ⟨u,r,fun s Q E pos hid2 led st h=>?_,fun h=>by cases h⟩
   exact ldVarK (hN.ns (st.at_cz hC)) hm h I.kind (lookup_relabel_local (I.hx _ hmx)) (I.dbg _ hmx)
end
end
end Mine
end
section
namespace Mine
noncomputable section
section
variable {σ:Cx}{kk:Nat}{env:Env}{m:Mp}{cz hid:Ld}{led led':MLd}{s:Shared}{cc:CC}{sl:Sl}{A:Around}
theorem shared_eta {s s':Shared}(h1:s'.gens=s.gens)(h2:s'.drawn=s.drawn)(h3:s'.os=s.os):s'={ s with heap:=s'.heap,toks:=s'.toks }:=by
 cases s;cases s';dsimp only at h1 h2 h3;subst h1 h2 h3;rfl
theorem SS.within {ledc:Ld}{I C D:Addr}{oI oC oD:Obj}{s':Shared}(r:RelL (Kn σ hid) led ledc)(sp:Sep ledc cz hid)(F:Fr σ.g σ.L s'.heap m)(N:News σ.g σ.L s'.heap ((I,oI)::(C,oC)::(D,oD)::(ledc++(cz++hid))))
  (off:LCg.Off3 I C D (ledc++(cz++hid))) (ne:(@Ne Nat I C)∧(@Ne Nat I D)∧(@Ne Nat C D)) (h1:s'.gens=σ.gs) (h2:s'.drawn=σ.dr) (h3:s'.os=σ.os):SS σ m ((I,oI)::(C,oC)::(D,oD)::cz) hid led s':=by
 have o:=off.mem
 refine ⟨ledc,r,⟨sp.nd,fun q hq p hp=>?_,?_,fun q hq p hp=>?_⟩,⟨F,fun q hq=>N q ?_,h1,h2,h3⟩⟩
 ·have oq:=o q (iL hq)
  rcases iC hp with rfl | hp
  ·exact oq.1.symm
  ·rcases iC hp with rfl | hp
   ·exact oq.2.1.symm
   ·rcases iC hp with rfl | hp
    ·exact oq.2.2.symm
    ·exact sp.d1 q hq p hp
 ·simp only [List.map_cons,List.nodup_cons,List.mem_cons,List.mem_map,not_or]
  have oc:∀ x∈cz,_:=fun x hx=>o x (iR (iL hx))
  exact ⟨⟨ne.1,ne.2.1,fun ⟨x,hx,e⟩=>(oc x hx).1 e⟩,⟨ne.2.2,fun ⟨x,hx,e⟩=>(oc x hx).2.1 e⟩,fun ⟨x,hx,e⟩=>(oc x hx).2.2 e,sp.nc⟩
 ·have op:=o p (iR (iR hp))
  rcases iC hq with rfl | hq
  ·exact op.1
  ·rcases iC hq with rfl | hq
   ·exact op.2.1
   ·rcases iC hq with rfl | hq
    ·exact op.2.2
    ·exact sp.d2 q hq p hp
 ·rcases iA hq with hq | hq
  ·exact .tail _ (.tail _ (.tail _ (iL hq)))
  ·rcases iA hq with hq | hq
   ·rcases iC hq with rfl | hq
    ·exact .head _
    ·rcases iC hq with rfl | hq
     ·exact .tail _ (.head _)
     ·rcases iC hq with rfl | hq
      ·exact .tail _ (.tail _ (.head _))
      ·exact .tail _ (.tail _ (.tail _ (iR (iL hq))))
   ·exact .tail _ (.tail _ (.tail _ (iR (iR hq))))
theorem SS.without {I C D:Addr}{oI oC oD:Obj}{s':Shared}(st:SS σ m ((I,oI)::(C,oC)::(D,oD)::cz) hid led s') :
  ∃ ledc,RelL (Kn σ hid) led ledc∧Sep ledc cz hid∧Fr σ.g σ.L s'.heap m∧News σ.g σ.L s'.heap ((I,oI)::(C,oC)::(D,oD)::(ledc++(cz++hid)))∧LCg.Off3 I C D (ledc++(cz++hid))∧s'.gens=σ.gs∧s'.drawn=σ.dr∧s'.os=σ.os:=by
 refine el1a3 st.ex fun ledc r sp S=>?_
 have nc:=sp.nc
 simp only [List.map_cons,List.nodup_cons,List.mem_cons,List.mem_map,not_or] at nc
 refine el0a4 nc fun e1q e2q n6 n7=>?_
 clear nc
 refine el0a3 e1q fun _ _ n3=>?_
 clear e1q
 obtain ⟨_,n5⟩:=e2q
 refine ⟨ledc,r,⟨sp.nd,fun q hq p hp=>sp.d1 q hq p (.tail _ (.tail _ (.tail _ hp))),n7,fun q hq=>sp.d2 q (.tail _ (.tail _ (.tail _ hq)))⟩,S.F,fun q hq=>S.N q ?_,LCg.Off3.of fun p hp=>?_,S.gs,S.dr,S.os⟩
 ·rcases iC hq with rfl | hq
  ·exact iR (.head _)
  ·rcases iC hq with rfl | hq
   ·exact iR (.tail _ (.head _))
   ·rcases iC hq with rfl | hq
    ·exact iR (.tail _ (.tail _ (.head _)))
    ·rcases iA hq with hq | hq
     ·exact iL hq
     ·exact iR (.tail _ (.tail _ (.tail _ hq)))
 ·rcases iA hp with hp | hp
  ·have o:=sp.d1 p hp
   exact ⟨(o (I,oI) (.head _)).symm,(o (C,oC) (.tail _ (.head _))).symm,(o (D,oD) (.tail _ (.tail _ (.head _)))).symm⟩
  ·rcases iA hp with hp | hp
   ·exact ⟨fun e=>n3 ⟨p,hp,e⟩,fun e=>n5 ⟨p,hp,e⟩,fun e=>n6 ⟨p,hp,e⟩⟩
   ·exact ⟨sp.d2 (I,oI) (.head _) p hp,sp.d2 (C,oC) (.tail _ (.head _)) p hp,sp.d2 (D,oD) (.tail _ (.tail _ (.head _))) p hp⟩
noncomputable def CompJ (σ:Cx)(cz hid1:Ld)(R:Nat→List SV→MLd→Prop)(i:Nat)(ys:List Value)(nx:Ld):Prop :=
 ∃ acc led2 ledc2 hid2,R i acc led2∧VRs (Kn σ hid2) acc ys∧(∀ q∈hid1,q∈hid2)∧RelL (Kn σ hid2) led2 ledc2∧Sep ledc2 cz hid2∧nx=ledc2++(cz++hid2)
theorem comp_endV {hid1 hid2:Ld}{I C D:Addr}{oI oC:Obj}{ys:List Value}{S:Ld→Prop}{R:Nat→List SV→MLd→Prop}{i:Nat}{acc:List SV}{s1 s2:Shared}{y:SV}{v:Value}
  (hS:∀ l h,(∀ q∈hid1,q∈h)→S (l++(cz++h))) (g1:s1.gens=σ.gs) (g2:s1.drawn=σ.dr) (g3:s1.os=σ.os) (hR:R (i+1) (acc++[y]) led) (ha:VRs (Kn σ hid2) acc ys) (u:∀ q∈hid1,q∈hid2) {hid3:Ld} (u3:∀ q∈hid2,q∈hid3)
  (rv:VR (Kn σ hid3) y v) (st:SS σ m ((I,oI)::(C,oC)::(D,LCg.lst ys)::cz) hid3 led s2) :
  LCg.CompEnd σ.g σ.L m s1 I oI C oC D (LCg.lst ys) S (fun y nx'=>CompJ σ cz hid1 R (i+1) (ys++[y]) nx') v s2:=by
 refine el1a8 st.without fun ledc r sp F N off e1 e2 e3=>?_
 exact ⟨s2.heap,s2.toks,ledc++(cz++hid3),shared_eta (e1.trans g1.symm) (e2.trans g2.symm) (e3.trans g3.symm),F,N,off,hS _ _ fun q hq=>u3 q (u q hq),
  acc++[y],led,ledc,hid3,hR,(ha.up u3).snoc rv,fun q hq=>u3 q (u q hq),r,sp,rfl⟩
theorem comp_state {hid1:Ld}{R:Nat→List SV→MLd→Prop}{n:Nat}{ys:List Value}{nx:Ld}{m':Mp}{D:Addr}{s':Shared}(J:CompJ σ cz hid1 R n ys nx)(F:Fr σ.g σ.L s'.heap m')(N:News σ.g σ.L s'.heap ((D,LCg.lst ys)::nx))(o:LCg.Off1 D nx)(g1:s'.gens=σ.gs)(g2:s'.drawn=σ.dr)(g3:s'.os=σ.os) :
  ∃ acc led2 hid2,R n acc led2∧VR (Kn σ hid2) (.lst acc) (.ref D)∧(∀ q∈hid1,q∈hid2)∧SS σ m' cz hid2 led2 s':=by
 refine el4a6 J fun acc led2 ledc2 hid2 h1 h2 h3 h4 h5 e1q=>?_
 clear J
 subst e1q
 have oo:=off1_mem o
 refine ⟨acc,led2,(D,LCg.lst ys)::hid2,h1,vr_newL h2 ⟨_,rfl⟩,fun q hq=>.tail _ (h3 q hq),⟨ledc2,h4.mono (Kn.mono cons_sub),⟨h5.nd,fun q hq p hp=>?_,h5.nc,fun q hq p hp=>?_⟩,⟨F,fun q hq=>N q ?_,g1,g2,g3⟩⟩⟩
 ·rcases iA hp with hp | hp
  ·exact h5.d1 q hq p (iL hp)
  ·rcases iC hp with rfl | hp
   ·exact (oo q (iL hq)).symm
   ·exact h5.d1 q hq p (iR hp)
 ·rcases iC hp with rfl | hp
  ·exact (oo q (iR (iL hq))).symm
  ·exact h5.d2 q hq p hp
 ·rcases iA hq with hq | hq
  ·exact .tail _ (iL hq)
  ·rcases iA hq with hq | hq
   ·exact .tail _ (iR (iL hq))
   ·rcases iC hq with rfl | hq
    ·exact .head _
    ·exact .tail _ (iR (iR hq))
theorem comp_fin {hid1:Ld}{R:Nat→List SV→MLd→Prop}{k:SV→MLd→Prop}{Q:Value→Shared→Prop}{n:Nat}{ys:List Value}{nx:Ld}(hR:∀ acc led,R n acc led→k (.lst acc) led)(g1:s.gens=σ.gs)(g2:s.drawn=σ.dr)(g3:s.os=σ.os)
  (c:Fin σ m cz hid1 led k Q) (J:CompJ σ cz hid1 R n ys nx):LCg.FinE σ.g σ.L m s Q ys nx:=by
 intro D h tk F N o
 refine el3a4 (comp_state (s':={ s with heap:=h,toks:=tk }) J F N o g1 g2 g3) fun acc led2 hid2 h1 h2 h3 h4=>?_
 exact c _ _ _ _ _ (hR _ _ h1) h2 h3 h4
end
section
variable {σ:Cx}{kk:Nat}{env:Env}{m:Mp}{cz hid:Ld}{led led':MLd}{s:Shared}{cc:CC}{sl:Sl}{A:Around}
noncomputable abbrev EltOk (σ:Cx)(m:Mp)(cc:CC)(sc:Scope)(cl:List (Str × Addr))(xs:List Str)(sl:Sl)(elt:Expr)(F:List SV→MLd→(SV→MLd→Prop)→Prop):Prop :=
 ∀ cz' hid' C vs led' k2,RelE σ (compEnvC sc cl C σ.env) m cz' hid' (inner cc sc xs) (sl++vs.map some)→F vs led' k2→XE σ (compEnvC sc cl C σ.env) m cz' hid' led' elt k2
theorem drop_cons {α:Type}{l:List α}{i:Nat}{x:α}(h:l[i]? = some x):l.drop i=x::l.drop (i+1):=by
 obtain ⟨h1,h2⟩:=List.getElem?_eq_some_iff.mp h
 rw [List.drop_eq_getElem_cons h1,h2]
theorem snocK_of {l:List SV}{y:SV}:∀ {k:List SV→Prop},snocK l y k→k (l++[y]):=by
 induction l with
 | nil=>exact fun h=>h
 | cons x l ih=>exact fun {k} h=>ih (show snocK l y fun l'=>k (x::l') from h)
theorem rest_U (G:Good σ kk)(EO:EnvOk σ σ.env cc)(ht:cc.top=true){sc:Scope}{x:Str}{cl:List (Str × Addr)}{elt:Expr}{F:SV→MLd→(SV→MLd→Prop)→Prop}{l:List SV}{hid1 ledc:Ld}{S:Ld→Prop}{P:Nat→Value→Prop}{FinX:List Value→Ld→Prop}{kf:List SV→MLd→Prop}
  (I:InOk σ cc sc [x] cl) (R:RelE σ σ.env m cz hid1 cc sl) (helt:EltOk σ m cc sc cl [x] sl elt fun vs led k=>match vs with | [v]=>F v led k | _=>False)
  (hP:∀ i v,i < l.length→P i v→∃ sv,l[i]? = some sv∧VR (Kn σ hid1) sv v) (hS:∀ l h,(∀ q∈hid1,q∈h)→S (l++(cz++h))) (g1:s.gens=σ.gs) (g2:s.drawn=σ.dr) (g3:s.os=σ.os)
  (h0:compL0 F l [] led kf) (r:RelL (Kn σ hid1) led ledc) (sp:Sep ledc cz hid1)
  (fin:∀ ys nx,CompJ σ cz hid1 (fun i acc led=>compL0 F (l.drop i) acc led kf) l.length ys nx→FinX ys nx) :
  LCg.CompRest rowP σ.w σ.A σ.g σ.L m σ.env elt x sc cl s S P FinX l.length 0 [] (ledc++(cz++hid1)):=by
 refine comp_any (CompJ σ cz hid1 fun i acc led=>compL0 F (l.drop i) acc led kf) ⟨[],led,ledc,hid1,h0,rfl,fun _ h=>h,r,sp,rfl⟩ ?_ fin
 rintro i v ys nx A oA C oC D m₂ h tk E' hi hv ⟨acc,led2,ledc2,hid2,h1,h2,h3,h4,h5,rfl⟩ hC hx FF N off ne
 refine el1a2 (hP i v hi hv) fun sv hl rv=>?_
 rw [drop_cons hl] at h1
 have st:=SS.within (s':={ s with heap:=h,toks:=tk }) h4 h5 FF N off ne g1 g2 g3
 have RI:=inner_rel G EO ht (cz':=(A,oA)::(C,oC)::(D,LCg.lst ys)::cz) (vs:=[sv]) (C:=C) (oC:=oC) I (R.mono h3) (fun q hq=>.tail _ (.tail _ (.tail _ hq))) (.tail _ (.head _)) hC rfl fun j x' v' e1 e2=>by
  cases j with
  | zero=>cases e1;cases e2;exact ⟨v,hx,rv.up h3⟩
  | succ j=>cases e1
 refine helt _ _ C [sv] led2 _ RI h1 _ _ _ st fun y w led3 hid3 s3 gy ry u3 st3=>?_
 exact comp_endV hS (s1:={ s with heap:=h,toks:=tk }) g1 g2 g3 (R:=fun i acc led=>compL0 F (l.drop i) acc led kf) (snocK_of gy) h2 h3 u3 ry st3
theorem src_lst (G:Good σ kk){a:Addr}{vs:List Value}{nn:Nat}(ka:Kn σ hid a (listO vs nn))(l h:Ld)(u:∀ q∈hid,q∈h):LCg.SrcAt σ.g a vs.toArray (l++(cz++h)) :=
 ka.elim (fun k=>.inl ⟨_,G.kn _ _ k,rfl,_,rfl⟩) fun k=>.inr ⟨_,iR (iR (u _ k)),rfl,_,rfl⟩
theorem lst_small {l:List SV}{K:KA}{vs:List Value}(r:VRs K l vs)(h:l.length≤1000):vs.toArray.size≤sizeLine:=small_of (show vs.length≤3000 from r.length▸Nat.le_trans h (iE rfl))
theorem lstK_of {iv:SV}{K:List SV→Prop}(h:lstK iv K):∃ l,iv=.lst l∧l.length≤1000∧K l:=noE (lstE_of h)
theorem src_ok (G:Good σ kk){iv:SV}{v:Value}{K:List SV→Prop}(st:SS σ m cz hid led s)(h:iterK iv K)(hv:VR (Kn σ hid) iv v){elt:Expr}{x:Str}{sc:Scope}{cl:List (Str × Addr)}{FF:Shared→List Value→Ld→Prop}{s0:Shared}
  (rest:∀ l S P s2 ledc,K l→l.length≤1000→(∃ h,s2={ s with heap:=h })→(∀ i v,i < l.length→P i v→∃ sv,l[i]? = some sv∧VR (Kn σ hid) sv v)→(∀ l h,(∀ q∈hid,q∈h)→S (l++(cz++h)))→RelL (Kn σ hid) led ledc→Sep ledc cz hid→s.gens=σ.gs∧s.drawn=σ.dr∧s.os=σ.os →
   LCg.CompRest rowP σ.w σ.A σ.g σ.L m σ.env elt x sc cl s2 S P (FF s2) l.length 0 [] (ledc++(cz++hid))):LCg.CompSrc rowP σ.w σ.A σ.g σ.L m σ.env elt x sc cl FF v s:=by
 refine el1a3 st.ex fun ledc r sp T=>?_
 have gg:=And.intro T.gs (And.intro T.dr T.os)
 rcases lstE_of h with ⟨l,rfl,hz,h1⟩ | h1
 ·refine el3a4 hv fun a o vs e1q ka e2q ra=>?_
  clear hv
  subst e1q
  obtain ⟨nn,rfl⟩:=e2q
  refine .inl ⟨a,vs.toArray,_,rfl,rfl,T.F,T.N,src_lst G ka ledc hid (fun _ h=>h),lst_small ra hz,fun s2 hs2=>?_⟩
  have R:=rest _ (LCg.SrcAt σ.g a vs.toArray) (fun i v=>vs.toArray[i]? = some v) s2 ledc h1 hz hs2 (fun i v _ hv=>ra.get' (List.getElem?_toArray▸hv)) (src_lst G ka) r sp gg
  rw [← ra.length] at R
  exact R
 ·refine el1a3 (noE (rngE_of h1)) fun n0 e1q hz h2=>?_
  subst e1q
  refine el4a2 hv fun a t u q e1q ka=>?_
  clear hv
  subst e1q
  have hlen:(rangeV n0).length=n0:=by rw [rangeV,List.length_map,List.length_range]
  clear h h1
  have sm:Builtin.Range.small 0 (n0:Int) 1=true:=by clear rest T gg ka sp r;exact small_one (by omega) (by omega) (by omega) (by omega)
  have sz:Builtin.Range.rangeSize 0 (n0:Int) 1=((n0:Nat):Int):=by clear rest T gg ka sp r;rw [rangeSize_one];split <;> omega
  refine .inr ⟨a,0,n0,t,u,q,n0,_,rfl,rfl,T.F,T.N,st.kn G ka,sm,sz,small_of (Nat.le_trans hz (iE rfl)),fun s2 hs2=>?_⟩
  have R:=rest _ (fun _=>True) (fun i v=>∃ t,v=.int (0+(i:Int)) t) s2 ledc h2 (by rw [hlen];exact hz) hs2 (fun i v hi hv=>?_) (fun _ _ _=>trivial) r sp gg
  ·rw [hlen] at R
   exact R
  ·obtain ⟨t,rfl⟩:=hv
   rw [hlen] at hi
   exact ⟨.int i,by rw [rangeV,List.getElem?_map,List.getElem?_range hi];rfl,t,by rw [Int.zero_add]⟩
end
end
end Mine
end
section
namespace Mine
noncomputable section
noncomputable def isLocS (cs:Scope)(x:Str):Bool:=isKind .local cs.names x&&!strEq x "__debug__"
noncomputable def fcc (cs:Scope)(nm:List Str):CC where
 names:=nm.map some
 isG:=isGloS cs.names
 cells:=nm.filter (isCell cs)
 top:=true
structure NmOk (σ:Cx)(nm:List Str):Prop where
 nd:nm.Nodup
 k:∀ x∈nm,isLocS σ.cs x=true∨isCell σ.cs x=true
 inj:∀ x y c,σ.cl.lookup x=some c→σ.cl.lookup y=some c→x=y
 ex:∀ x∈nm,isCell σ.cs x=true→∃ c,σ.cl.lookup x=some c
structure RelS (σ:Cx)(nm:List Str)(m:Mp)(cz hid:Ld)(sl:Sl):Prop where
 len:nm.length=sl.length
 at_:∀ (i:Nat) (x:Str) (v:SV),nm[i]? = some x→(sl:List (Option SV))[i]? = some (some v)→∃ u,VR (Kn σ hid) v u∧((isLocS σ.cs x=true∧m x=some u)∨(isCell σ.cs x=true∧∃ c o,σ.cl.lookup x=some c∧(c,o)∈cz∧o.data=.cell (some u)))
 cells:∀ x∈nm,isCell σ.cs x=true→∃ c o v0,σ.cl.lookup x=some c∧(c,o)∈cz∧o.data=.cell v0
section
variable {σ:Cx}{kk:Nat}{nm:List Str}{m:Mp}{cz hid fx:Ld}{led led':MLd}{s:Shared}{sl:Sl}
theorem loc_cell {cs:Scope}{x:Str}(h:isLocS cs x=true)(h':isCell cs x=true):False:=by
 unfold isLocS at h;unfold isCell at h'
 rw [Bool.and_eq_true] at h h'
 have a:=kind_lookup h.1
 have b:=kind_lookup h'.1
 rw [a] at b;cases b
theorem RelS.mono {hid':Ld}(R:RelS σ nm m cz hid sl)(u:∀ q∈hid,q∈hid'):RelS σ nm m cz hid' sl :=
 ⟨R.len,fun i x v a b=>let ⟨w,r,h⟩:=R.at_ i x v a b;⟨w,r.up u,h⟩,R.cells⟩
theorem RelS.toE (G:Good σ kk)(R:RelS σ nm m cz hid sl):RelE σ σ.env m (fx++cz) hid (fcc σ.cs nm) sl:=by
 refine ⟨by simp [fcc,R.len],fun i x v a b=>?_⟩
 have a':nm[i]? = some x:=by
  have:(nm.map some)[i]? = some (some x):=a
  rw [List.getElem?_map] at this
  refine el1a2 (iO this) fun y h1 h2=>?_
  cases h2;exact h1
 refine el1a2 (R.at_ i x v a' b) fun u r h=>?_
 refine ⟨u,r,fun s Q E pos hid2 led2 st hq=>?_,fun _ hm=>?_⟩
 ·rcases h with ⟨h1,h2⟩ | ⟨h1,c,o,h2,h3,h4⟩
  ·unfold isLocS at h1
   rw [Bool.and_eq_true,Bool.not_eq_true'] at h1
   exact nameX_L st.F h2 hq G.k (kind_lookup h1.1) (by rw [beq_eq_false_iff_ne];exact strEq_ne h1.2)
  ·unfold isCell at h1
   rw [Bool.and_eq_true,Bool.not_eq_true'] at h1
   have hg:=st.at_cz (iR h3)
   exact wpAny_Name (wpAny_loadName_cell G.k (kind_lookup h1.1) h2 ⟨o,hg,h4⟩ hq) (by rw [beq_eq_false_iff_ne];exact strEq_ne h1.2)
 ·have hm':x∈nm.filter (isCell σ.cs):=hm
  have hc:=(List.mem_filter.mp hm').2
  rcases h with ⟨h1,_⟩ | ⟨_,c,o,h2,h3,h4⟩
  ·exact (loc_cell h1 hc).elim
  ·exact ⟨c,o,h2,iR h3,h4⟩
theorem envOk (G:Good σ kk)(O:NmOk σ nm):EnvOk σ σ.env (fcc σ.cs nm) where
 glob x v hg e s Q E pos m F h:=by
  obtain ⟨h1,h2⟩:=glo_of hg
  exact nameX_K F G.X (topRead_of G.T) e h G.k h1 h2
 bui x v hg e hv hn s Q E pos m F h:=by
  obtain ⟨h1,h2⟩:=glo_of hg
  exact nameX_B F G.X (topRead_of G.T) e hv hn h G.k h1 h2
 top _:=rfl
 cel _ x hx:=by
  have hx':x∈nm.filter (isCell σ.cs):=hx
  obtain ⟨h1,h2⟩:=List.mem_filter.mp hx'
  exact ⟨h2,O.ex x h1 h2⟩
theorem setK_of {v:SV}{sl:Sl}:∀ {i:Nat} {k:Sl→Prop},setK sl i v k→k (setS sl i v):=by
 induction sl with
 | nil=>exact fun h=>h
 | cons x l ih =>
  intro i k h
  cases i with
  | zero=>exact h
  | succ i=>exact ih (show setK l i v fun l'=>k (x::l') from h)
theorem setsK_of {is:List Nat}:∀ {sl:Sl} {vs:List SV} {k:Sl→Prop},setsK sl is vs k→k (setsS sl is vs):=by
 induction is with
 | nil=>exact fun h=>h
 | cons i is ih =>
  intro sl vs k h
  cases vs with
  | nil=>exact h
  | cons v vs=>exact ih (setK_of (show setK sl i v fun sl'=>setsK sl' is vs k from h))
theorem setS_len {v:SV}{sl:Sl}:∀ {i:Nat},(setS sl i v).length=sl.length:=by
 induction sl with
 | nil=>intro i;rfl
 | cons x l ih =>
  intro i
  cases i with
  | zero=>rfl
  | succ i=>exact congrArg Nat.succ (ih (i:=i))
theorem setS_get {v w:SV}{sl:Sl}:∀ {i j:Nat},(setS sl i v:List (Option SV))[j]? = some (some w)→(j=i∧w=v)∨(j≠i∧(sl:List (Option SV))[j]? = some (some w)):=by
 induction sl with
 | nil=>intro i j h;cases h
 | cons x l ih =>
  intro i j h
  cases i with
  | zero =>
   cases j with
   | zero=>cases (show some (some v)=some (some w) from h);exact .inl ⟨rfl,rfl⟩
   | succ j=>exact .inr ⟨Nat.succ_ne_zero j,h⟩
  | succ i =>
   cases j with
   | zero=>exact .inr ⟨(Nat.succ_ne_zero i).symm,h⟩
   | succ j=>exact (ih (i:=i) (j:=j) h).imp (fun a=>⟨congrArg Nat.succ a.1,a.2⟩) fun a=>⟨fun e=>a.1 (Nat.succ.inj e),a.2⟩
theorem nodup_idx {x:Str}{l:List Str}(hn:l.Nodup){i j:Nat}(h:l[i]? = some x)(h':l[j]? = some x):i=j:=by
 obtain ⟨h1,e1⟩:=List.getElem?_eq_some_iff.mp h
 obtain ⟨h2,e2⟩:=List.getElem?_eq_some_iff.mp h'
 exact (List.getElem_inj hn).mp (e1.trans e2.symm)
theorem updF_mk {ca:Addr}{o:Obj}{a b:Ld}(h1:∀ p∈a,p.1≠ca)(h2:∀ p∈b,p.1≠ca):UpdF ca o (a++(ca,o)::b) (fun o'=>a++(ca,o')::b):=by
 induction a with
 | nil=>exact .head h2
 | cons p a ih=>exact .tail (h1 p (.head _)) (ih fun q hq=>h1 q (.tail _ hq))
theorem store_sound (G:Good σ kk)(O:NmOk σ nm){i:Nat}{x:Str}{v:SV}{u:Value}{Q:Unit→Shared→Prop}{E:Value→Shared→Prop}(hx:nm[i]? = some x)(R:RelS σ nm m cz hid sl)(st:SS σ m (fx++cz) hid led s)(hv:VR (Kn σ hid) v u)
  (c:∀ m' cz' s',RelS σ nm m' cz' hid (setS sl i v)→SS σ m' (fx++cz') hid led s'→Q () s'):wpAny (model rowP σ.w) σ.A (storeName σ.env x u) Q E s:=by
 have hm:=List.mem_of_getElem? hx
 have inj:∀ {j:Nat},nm[j]? = some x→j=i:=fun {j} hj=>by
  exact nodup_idx O.nd hj hx
 refine el1a3 st.ex fun ledc r sp S=>?_
 rcases O.k x hm with hl | hl
 ·have hl':=hl
  unfold isLocS at hl'
  rw [Bool.and_eq_true,Bool.not_eq_true'] at hl'
  refine storeX_L S.F S.N (fun h' F' N'=>c _ cz _ ⟨by rw [setS_len];exact R.len,fun j y w hy hw=>?_,R.cells⟩ ⟨ledc,r,sp,⟨F',N',S.gs,S.dr,S.os⟩⟩) G.k (kind_lookup hl'.1)
  rcases setS_get hw with ⟨rfl,rfl⟩ | ⟨hne,hw⟩
  ·rw [hx] at hy
   cases hy
   exact ⟨u,hv,.inl ⟨hl,by simp⟩⟩
  ·refine el1a2 (R.at_ j y w hy hw) fun z rz h=>?_
   refine ⟨z,rz,h.imp (fun ⟨a,b⟩=>⟨a,?_⟩) id⟩
   have:y≠x:=fun e=>hne (inj (e▸hy))
   rw [if_neg this];exact b
 ·have hl':=hl
  unfold isCell at hl'
  rw [Bool.and_eq_true,Bool.not_eq_true'] at hl'
  refine el3a3 (R.cells x hm hl) fun ca o v0 hca hmem hd=>?_
  refine el2a1 (List.append_of_mem hmem) fun pre post hcz=>?_
  subst hcz
  have nc:=sp.nc
  have hne:(∀ p∈ledc++(fx++pre),p.1≠ca)∧∀ p∈post++hid,p.1≠ca:=by
   rw [List.map_append,List.map_append,List.map_cons] at nc
   rw [List.nodup_append,List.nodup_append,List.nodup_cons] at nc
   refine el0a3 nc fun _ e1q n3=>?_
   clear nc
   refine el0a3 e1q fun _ _ n2=>?_
   clear e1q
   rename_i e1q
   obtain ⟨n1,_⟩:=e1q
   refine ⟨fun p hp e=>?_,fun p hp e=>?_⟩
   ·rcases iA hp with hp | hp
    ·exact sp.d1 p hp (ca,o) (iL (iR (iR (.head _)))) e.symm
    ·rcases iA hp with hp | hp
     ·exact n3 p.1 (List.mem_map_of_mem hp) ca (iR (.head _)) e
     ·exact n2 p.1 (List.mem_map_of_mem hp) ca (.head _) e
   ·rcases iA hp with hp | hp
    ·have hm:p.1∈post.map (·.1):=List.mem_map_of_mem hp
     rw [show p.1=ca from e] at hm
     exact n1 hm
    ·exact sp.d2 (ca,o) (iR (iR (.head _))) p hp e
  have Un:=updF_mk (o:=o) hne.1 hne.2
  have e1:ledc++((fx++(pre++(ca,o)::post))++hid)=(ledc++(fx++pre))++(ca,o)::(post++hid):=by simp
  have S':=S
  rw [e1] at S'
  refine storeX_C S'.F S'.N hca Un hd (fun h' o' F' N' hd'=>?_) G.k (kind_lookup hl'.1)
  refine c m (pre++(ca,o')::post) _ ⟨by rw [setS_len];exact R.len,fun j y w hy hw=>?_,fun y hy hyc=>?_⟩ ⟨ledc,r,⟨sp.nd,fun q hq p hp=>?_,?_,fun q hq p hp=>?_⟩,⟨F',fun q hq=>N' q ?_,S.gs,S.dr,S.os⟩⟩
  ·rcases setS_get hw with ⟨rfl,rfl⟩ | ⟨hne2,hw⟩
   ·rw [hx] at hy
    cases hy
    exact ⟨u,hv,.inr ⟨hl,ca,o',hca,iR (.head _),hd'⟩⟩
   ·refine el1a2 (R.at_ j y w hy hw) fun z rz h=>?_
    refine ⟨z,rz,h.imp id fun ⟨a,c',o2,b1,b2,b3⟩=>⟨a,c',o2,b1,?_,b3⟩⟩
    have hyx:y≠x:=fun e=>hne2 (inj (e▸hy))
    have hcc:c'≠ca:=fun e=>hyx (O.inj y x ca (e▸b1) hca)
    rcases iA b2 with b2 | b2
    ·exact iL b2
    ·rcases iC b2 with b2 | b2
     ·exact (hcc (congrArg Prod.fst b2)).elim
     ·exact iR (.tail _ b2)
  ·by_cases hyx:y=x
   ·subst hyx;exact ⟨ca,o',_,hca,iR (.head _),hd'⟩
   ·refine el3a3 (R.cells y hy hyc) fun c' o2 w0 b1 b2 b3=>?_
    have hcc:c'≠ca:=fun e=>hyx (O.inj y x ca (e▸b1) hca)
    refine ⟨c',o2,w0,b1,?_,b3⟩
    rcases iA b2 with b2 | b2
    ·exact iL b2
    ·rcases iC b2 with b2 | b2
     ·exact (hcc (congrArg Prod.fst b2)).elim
     ·exact iR (.tail _ b2)
  ·have:∃ p0∈(fx++(pre++(ca,o)::post))++hid,p0.1=p.1:=by
    have hp':p.1∈((fx++(pre++(ca,o')::post))++hid).map (·.1):=List.mem_map_of_mem hp
    have e:((fx++(pre++(ca,o')::post))++hid).map (·.1)=((fx++(pre++(ca,o)::post))++hid).map (·.1):=by simp
    rw [e] at hp'
    exact iM hp'
   refine el1a2 this fun p0 h0 e=>?_
   clear this
   rw [← e];exact sp.d1 q hq p0 h0
  ·have e:(fx++(pre++(ca,o')::post)).map (·.1)=(fx++(pre++(ca,o)::post)).map (·.1):=by simp
   rw [e];exact sp.nc
  ·have:∃ p0∈fx++(pre++(ca,o)::post),p0.1=q.1:=by
    have hp':q.1∈(fx++(pre++(ca,o')::post)).map (·.1):=List.mem_map_of_mem hq
    have e:(fx++(pre++(ca,o')::post)).map (·.1)=(fx++(pre++(ca,o)::post)).map (·.1):=by simp
    rw [e] at hp'
    exact iM hp'
   refine el1a2 this fun p0 h0 e=>?_
   clear this
   rw [← e];exact sp.d2 p0 h0 p hp
  ·have e2:ledc++((fx++(pre++(ca,o')::post))++hid)=(ledc++(fx++pre))++(ca,o')::(post++hid):=by simp
   rw [e2] at hq;exact hq
end
end
end Mine
end
section
namespace Mine
noncomputable section
theorem tups_of (h:Heap):∃ T:Ld,∀ a o,(a,o)∈T↔h.get? a=some o∧o.cls=.type "tuple":=by
 have key:∀ n:Nat,∃ T:Ld,∀ a o,(a,o)∈T↔a < n∧h.get? a=some o∧o.cls=.type "tuple":=by
  intro n
  induction n with
  | zero=>exact ⟨[],fun a o=>⟨fun h=>(by cases h),fun h=>absurd h.1 (Nat.not_lt_zero _)⟩⟩
  | succ n ih =>
   obtain ⟨T,hT⟩:=ih
   by_cases e:∃ o,h.get? n=some o∧o.cls=.type "tuple"
   ·refine el1a2 e fun o h1 h2=>?_
    clear e
    refine ⟨(n,o)::T,fun a o'=>⟨fun hm=>?_,fun hm=>?_⟩⟩
    ·rcases iC hm with e | hm
     ·cases e;exact ⟨Nat.lt_succ_self _,h1,h2⟩
     ·obtain ⟨x,y⟩:=(hT a o').mp hm;exact ⟨Nat.lt_succ_of_lt x,y⟩
    ·refine el0a3 hm fun x y z=>?_
     clear hm
     rcases Nat.lt_succ_iff_lt_or_eq.mp x with x | x
     ·exact .tail _ ((hT a o').mpr ⟨x,y,z⟩)
     ·subst x
      rw [h1] at y
      cases y;exact .head _
   ·refine ⟨T,fun a o'=>⟨fun hm=>?_,fun hm=>?_⟩⟩
    ·obtain ⟨x,y⟩:=(hT a o').mp hm;exact ⟨Nat.lt_succ_of_lt x,y⟩
    ·refine el0a3 hm fun x y z=>?_
     clear hm
     rcases Nat.lt_succ_iff_lt_or_eq.mp x with x | x
     ·exact (hT a o').mpr ⟨x,y,z⟩
     ·subst x;exact (e ⟨_,y,z⟩).elim
 obtain ⟨T,hT⟩:=key h.objs.size
 exact ⟨T,fun a o=>⟨fun hm=>((hT a o).mp hm).2,fun hm=>(hT a o).mpr ⟨Heap.lt_size hm.1,hm⟩⟩⟩
section
variable {σ:Cx}{kk:Nat}{env:Env}{m:Mp}{cz hid:Ld}{led led':MLd}{s:Shared}{cc:CC}{sl:Sl}{A:Around}{T:Ld}{g h:Heap}{L:Addr}
noncomputable abbrev IsTups (g:Heap)(T:Ld):Prop:=∀ a o,(a,o)∈T↔g.get? a=some o∧o.cls=.type "tuple"
noncomputable abbrev hidT (g:Heap)(T:Ld):Heap:=hideAll g (T.map (·.1))
theorem fr_hidT (F:Fr g L h m):Fr (hidT g T) L h m:=⟨F.ns,fun b o e=>F.keep b o (of_hideAll _ e),by rw [hideAll_size];exact F.above⟩
theorem news_hidT (hT:IsTups g T)(F:Fr g L h m){n:Ld}(N:News g L h n):News (hidT g T) L h (n++T):=by
 intro q hq
 have none_of:∀ {b:Addr},g.get? b=none→(hidT g T).get? b=none:=fun {b} e=>by
  cases e2:(hidT g T).get? b with
  | none=>rfl
  | some o=>rw [of_hideAll _ e2] at e;cases e
 rcases iA hq with hq | hq
 ·exact ⟨(N q hq).1,(N q hq).2.1,none_of (N q hq).2.2⟩
 ·have h1:=((hT q.1 q.2).mp hq).1
  exact ⟨F.keep _ _ h1,Nat.ne_of_lt (Nat.lt_of_lt_of_le (Heap.lt_size h1) F.above),hideAll_none _ (List.mem_map_of_mem hq)⟩
theorem fr_unhid (hT:IsTups g T){n:Ld}(F:Fr (hidT g T) L h m)(N:News (hidT g T) L h n)(hs:∀ q∈T,q∈n):Fr g L h m:=by
 refine ⟨F.ns,fun b o e=>?_,by have:=F.above;rwa [hideAll_size] at this⟩
 by_cases hb:b∈T.map (·.1)
 ·refine el1a2 (iM hb) fun q hq e1q=>?_
  subst e1q
  have h1:=((hT q.1 q.2).mp hq).1
  rw [e] at h1
  cases h1
  exact (N q (hs q hq)).1
 ·exact F.keep b o (hideAll_get _ e hb)
theorem none_unhid {b:Addr}(e:(hidT g T).get? b=none)(hb:∀ q∈T,q.1≠b):g.get? b=none:=by
 cases e2:g.get? b with
 | none=>rfl
 | some o =>
  rw [hideAll_get _ e2 (fun hm=>by obtain ⟨q,hq,e3⟩:=iM hm;exact hb q hq e3)] at e
  cases e
noncomputable def CompJP (σ:Cx)(cz hid1 T:Ld)(R:Nat→List SV→MLd→Prop)(i:Nat)(ys:List Value)(nx:Ld):Prop :=
 ∃ n0,nx=n0++T∧(∀ q∈n0,σ.g.get? q.1=none)∧CompJ σ cz hid1 R i ys n0
theorem rest_P (hT:IsTups σ.g T)(G:Good σ kk)(EO:EnvOk σ σ.env cc)(ht:cc.top=true){sc:Scope}{x x2:Str}{cl:List (Str × Addr)}{elt:Expr}{F:SV→SV→MLd→(SV→MLd→Prop)→Prop}{l:List SV}{vs:List Value}{hid1 ledc:Ld}{S:Ld→Prop}{FinX:List Value→Ld→Prop}{kf:List SV→MLd→Prop}
  (I:InOk σ cc sc [x,x2] cl) (R:RelE σ σ.env m cz hid1 cc sl)
  (helt:∀ cz' hid' C a b led' k2,RelE σ (compEnvC sc cl C σ.env) m cz' hid' (inner cc sc [x,x2]) (sl++[some a,some b])→F a b led' k2→XE σ (compEnvC sc cl C σ.env) m cz' hid' led' elt k2)
  (hl:VRs (Kn σ hid1) l vs) (hS:∀ l h,(∀ q∈hid1,q∈h)→S ((l++(cz++h))++T)) (g1:s.gens=σ.gs) (g2:s.drawn=σ.dr) (g3:s.os=σ.os)
  (h0:compL0 (fun x led2 k2=>pairK x fun a b=>F a b led2 k2) l [] led kf) (r:RelL (Kn σ hid1) led ledc) (sp:Sep ledc cz hid1) (hn:∀ q∈ledc++(cz++hid1),σ.g.get? q.1=none)
  (fin:∀ ys nx,CompJP σ cz hid1 T (fun i acc led=>compL0 (fun x led2 k2=>pairK x fun a b=>F a b led2 k2) (l.drop i) acc led kf) l.length ys nx→FinX ys nx) :
  LCp.CompRestP rowP σ.w σ.A (hidT σ.g T) σ.L m σ.env elt x x2 sc cl s S (fun i v=>vs.toArray[i]? = some v) FinX l.length 0 [] ((ledc++(cz++hid1))++T):=by
 refine comp_pairs (CompJP σ cz hid1 T fun i acc led=>compL0 (fun x led2 k2=>pairK x fun a b=>F a b led2 k2) (l.drop i) acc led kf) ⟨_,rfl,hn,[],led,ledc,hid1,h0,rfl,fun _ h=>h,r,sp,rfl⟩ ?_ fin
 intro i v ys nx hi hv hqq
 refine el1a3 hqq fun n0 e1q hn0 eRq=>?_
 clear hqq
 subst e1q
 refine el4a6 eRq fun acc led2 ledc2 hid2 h1 h2 h3 h4 h5 e1q=>?_
 clear eRq
 subst e1q
 refine el1a2 (hl.get' (by simpa using hv)) fun sv hsv rv=>?_
 dsimp only at h1
 rw [drop_cons hsv] at h1
 replace h1:pairK sv (fun a b=>F a b led2 fun y led'=>snocK acc y fun acc=>compL0 (fun x led2 k2=>pairK x fun a b=>F a b led2 k2) (l.drop (i+1)) acc led' kf):=h1
 refine el1a2 (tupK_of h1) fun l2 e1q h1=>?_
 subst e1q
 refine el2a2 (arg2_of h1) fun a b e1q h1=>?_
 subst e1q
 ·refine el3a4 rv fun t ot ws e1q kt it rw_=>?_
  clear rv
  subst e1q
  refine el2a3 rw_ fun va _ e1 ra eRq=>?_
  clear rw_
  refine el2a3 eRq fun vb _ e2 rb e3=>?_
  clear eRq
  cases (show _=[] from e3)
  subst e2 e1
  obtain ⟨i1,nt,i2⟩:=it
  refine ⟨t,ot,va,vb,nt,rfl,?_,i1,i2,?_⟩
  ·rcases kt with k | k
   ·exact iR ((hT _ _).mpr ⟨G.kn _ _ k,i1⟩)
   ·exact iL (iR (iR (h3 _ k)))
  intro A oA C oC D m₂ h tk E' hC hx hx2 FF N off ne
  have om:=off.mem
  have hg:∀ b:Addr,(hidT σ.g T).get? b=none→(∀ q∈T,q.1≠b)→σ.g.get? b=none:=fun b=>none_unhid
  have oT:∀ q∈T,q.1≠A∧q.1≠C∧q.1≠D:=fun q hq=>om q (iR hq)
  have F1:Fr σ.g σ.L h m:=fr_unhid hT FF N fun q hq=>.tail _ (.tail _ (.tail _ (iR hq)))
  have N1:News σ.g σ.L h ((A,oA)::(C,oC)::(D,LCg.lst ys)::(ledc2++(cz++hid2))):=by
   intro q hq
   have hq':q∈(A,oA)::(C,oC)::(D,LCg.lst ys)::((ledc2++(cz++hid2))++T):=by
    rcases iC hq with rfl | hq
    ·exact .head _
    ·rcases iC hq with rfl | hq
     ·exact .tail _ (.head _)
     ·rcases iC hq with rfl | hq
      ·exact .tail _ (.tail _ (.head _))
      ·exact .tail _ (.tail _ (.tail _ (iL hq)))
   refine ⟨(N q hq').1,(N q hq').2.1,?_⟩
   rcases iC hq with rfl | hq
   ·exact hg _ (N _ hq').2.2 fun q h=>(oT q h).1
   ·rcases iC hq with rfl | hq
    ·exact hg _ (N _ hq').2.2 fun q h=>(oT q h).2.1
    ·rcases iC hq with rfl | hq
     ·exact hg _ (N _ hq').2.2 fun q h=>(oT q h).2.2
     ·exact hn0 q hq
  have off1:LCg.Off3 A C D (ledc2++(cz++hid2)):=LCg.Off3.of fun p hp=>om p (iL hp)
  have st:=SS.within (s':={ s with heap:=h,toks:=tk }) h4 h5 F1 N1 off1 ne g1 g2 g3
  have RI:=inner_rel G EO ht (cz':=(A,oA)::(C,oC)::(D,LCg.lst ys)::cz) (vs:=[a,b]) (C:=C) (oC:=oC) I (R.mono h3) (fun q hq=>.tail _ (.tail _ (.tail _ hq))) (.tail _ (.head _)) hC rfl fun j x' v' e1 e2=>by
   cases j with
   | zero=>cases e1;cases e2;exact ⟨va,hx,ra.up h3⟩
   | succ j =>
    cases j with
    | zero=>cases e1;cases e2;exact ⟨vb,hx2,rb.up h3⟩
    | succ j=>cases e1
  refine helt _ _ C a b led2 _ RI h1 _ _ _ st fun y w led3 hid3 s3 gy ry u3 st3=>?_
  refine el3a6 (comp_endV (S:=fun n=>S (n++T)) hS (s1:={ s with heap:=h,toks:=tk }) g1 g2 g3 (R:=fun i acc led=>compL0 (fun x led2 k2=>pairK x fun a b=>F a b led2 k2) (l.drop i) acc led kf) (snocK_of gy) h2 h3 u3 ry st3) fun h' tk' nw e F' N' off' hS' hn'=>?_
  have nn:∀ q∈T,∀ b:Addr,σ.g.get? b=none→q.1≠b:=fun q hq b e e2=>by rw [← e2,((hT q.1 q.2).mp hq).1] at e;cases e
  refine ⟨h',tk',nw++T,e,fr_hidT F',?_,LCg.Off3.of fun p hp=>?_,hS',nw,rfl,fun q hq=>(N' q (.tail _ (.tail _ (.tail _ hq)))).2.2,hn'⟩
  ·exact news_hidT hT F' N'
  ·rcases iA hp with hp | hp
   ·exact off'.mem p hp
   ·exact ⟨nn p hp _ (N' _ (.head _)).2.2,nn p hp _ (N' _ (.tail _ (.head _))).2.2,nn p hp _ (N' _ (.tail _ (.tail _ (.head _)))).2.2⟩
theorem src_okP (hT:IsTups σ.g T)(G:Good σ kk){iv:SV}{v:Value}{K:List SV→Prop}(st:SS σ m cz hid led s)(h:lstK iv K)(hv:VR (Kn σ hid) iv v){elt:Expr}{x x2:Str}{sc:Scope}{cl:List (Str × Addr)}{FF:Shared→List Value→Ld→Prop}
  (rest:∀ l vs S s2 ledc,K l→VRs (Kn σ hid) l vs→(∃ h,s2={ s with heap:=h })→(∀ l h,(∀ q∈hid,q∈h)→S ((l++(cz++h))++T))→RelL (Kn σ hid) led ledc→Sep ledc cz hid→(∀ q∈ledc++(cz++hid),σ.g.get? q.1=none)→s.gens=σ.gs∧s.drawn=σ.dr∧s.os=σ.os →
   LCp.CompRestP rowP σ.w σ.A (hidT σ.g T) σ.L m σ.env elt x x2 sc cl s2 S (fun i v=>vs.toArray[i]? = some v) (FF s2) l.length 0 [] ((ledc++(cz++hid))++T)):LCp.SrcLP rowP σ.w σ.A (hidT σ.g T) σ.L m σ.env elt x x2 sc cl FF v s:=by
 refine el1a3 st.ex fun ledc r sp S0=>?_
 have gg:=And.intro S0.gs (And.intro S0.dr S0.os)
 refine el1a3 (lstK_of h) fun l e1q hz hk=>?_
 subst e1q
 refine el3a4 hv fun a o vs e1q ka e2q ra=>?_
 clear hv
 subst e1q
 obtain ⟨nn,rfl⟩:=e2q
 have e:=VRs.length ra
 have src:∀ l h,(∀ q∈hid,q∈h)→LCg.SrcAt (hidT σ.g T) a vs.toArray ((l++(cz++h))++T):=fun l h u=>by
  rcases ka with k | k
  ·refine .inl ⟨_,hideAll_get _ (G.kn _ _ k) fun hm=>?_,rfl,_,rfl⟩
   refine el1a2 (iM hm) fun q hq e=>?_
   obtain ⟨h1,h2⟩:=(hT q.1 q.2).mp hq
   rw [show q.1=a from e,G.kn _ _ k] at h1
   have e5:=Option.some.inj h1
   rw [← e5] at h2
   exact absurd (Value.type.inj h2) (by decide)
  ·exact .inr ⟨_,iL (iR (iR (u _ k))),rfl,_,rfl⟩
 refine ⟨a,vs.toArray,_,rfl,rfl,fr_hidT S0.F,news_hidT hT S0.F S0.N,src ledc hid (fun _ h=>h),by rw [List.size_toArray];exact small_of (by omega),fun s2 hs2=>?_⟩
 have R:=rest l vs (LCg.SrcAt (hidT σ.g T) a vs.toArray) s2 ledc hk ra hs2 src r sp (fun q hq=>(S0.N q hq).2.2) gg
 rw [List.size_toArray,e]
 exact R
theorem comp_finP (hT:IsTups σ.g T){hid1:Ld}{R:Nat→List SV→MLd→Prop}{k:SV→MLd→Prop}{Q:Value→Shared→Prop}{n:Nat}{ys:List Value}{nx:Ld}(hR:∀ acc led,R n acc led→k (.lst acc) led)(g1:s.gens=σ.gs)(g2:s.drawn=σ.dr)(g3:s.os=σ.os)
  (c:Fin σ m cz hid1 led k Q) (J:CompJP σ cz hid1 T R n ys nx):LCg.FinE (hidT σ.g T) σ.L m s Q ys nx:=by
 intro D h tk F N o
 refine el1a3 J fun n0 e1q hn0 _=>?_
 clear J
 rename_i J
 subst e1q
 have oo:=off1_mem o
 have F1:Fr σ.g σ.L h m:=fr_unhid hT F N fun q hq=>.tail _ (iR hq)
 have N1:News σ.g σ.L h ((D,LCg.lst ys)::n0):=by
  intro q hq
  rcases iC hq with rfl | hq
  ·exact ⟨(N _ (.head _)).1,(N _ (.head _)).2.1,none_unhid (N _ (.head _)).2.2 fun q h=>oo q (iR h)⟩
  ·have:=N q (.tail _ (iL hq))
   exact ⟨this.1,this.2.1,hn0 q hq⟩
 refine el3a4 (comp_state (s':={ s with heap:=h,toks:=tk }) J F1 N1 (off1_of fun q hq=>oo q (iL hq)) g1 g2 g3) fun acc led2 hid2 h1 h2 h3 h4=>?_
 exact c _ _ _ _ _ (hR _ _ h1) h2 h3 h4
end
end
end Mine
end
section
namespace Mine
noncomputable section
theorem getL_isSome {x:Str}{ns:List Nat}:∀ {vs:List Value} {es:List DictEntry},EntR ns vs es→(getL x es).isSome=true:=by
 induction ns with
 | nil=>rintro _ _ ⟨_,rfl⟩;rfl
 | cons n ns ih =>
  intro _ _ hqq
  refine el4a5 hqq fun v r e q e1q e2q e3q e4 e5=>?_
  clear hqq
  subst e1q
  subst e2q
  obtain ⟨t,e3⟩:=e3q
  rw [getL_cons e3]
  cases an n==x with
  | true=>rfl
  | false=>exact ih e5
theorem putL_cons {x:Str}{h:Int}{k u:Value}{e:DictEntry}{q:List DictEntry}{n:Nat}{t:Tok}(he:e.key=.str (an n) t):putL x h k u (e::q)=if an n==x then { e with val:=u }::q else e::putL x h k u q:=by
 obtain ⟨hs,ky,vl⟩:=e
 cases (show ky=_ from he)
 rw [putL]
 rfl
theorem put_rel {K:KA}{c:Nat}(hc:Nat.blt c ATN.length=true){h:Int}{t:Tok}{x:SV}{u:Value}(hx:VR K x u){ns:List Nat}:∀ {l:List SV} {vs:List Value} {es:List DictEntry},EntR ns vs es→VRs K l vs→∃ vs',EntR (setField ns l c x).1 vs' (putL (an c) h (.str (an c) t) u es)∧VRs K (setField ns l c x).2 vs':=by
 induction ns with
 | nil=>rintro l _ _ ⟨rfl,rfl⟩ r;exact ⟨[u],⟨u,[],_,[],rfl,rfl,⟨t,rfl⟩,rfl,rfl,rfl⟩,u,[],rfl,hx,rfl⟩
 | cons n ns ih =>
  rintro l _ _ ⟨v,r,e,q,rfl,rfl,⟨tt,e3⟩,e4,e5⟩ rl
  cases l with
  | nil=>cases (show v::r=[] from rl)
  | cons y l =>
   refine el2a3 rl fun v' r' e6 e7 e8=>?_
   clear rl
   cases e6
   rw [putL_cons e3]
   show ∃ vs',EntR (if Nat.beq n c then (n::ns,x::l) else ((n::(setField ns l c x).1),y::(setField ns l c x).2)).1 vs' _∧VRs K (if Nat.beq n c then (n::ns,x::l) else ((n::(setField ns l c x).1),y::(setField ns l c x).2)).2 vs'
   cases hb:Nat.beq n c with
   | true =>
    rw [Nat.eq_of_beq_eq_true hb,BEq.rfl]
    exact ⟨u::r,⟨u,r,_,q,rfl,rfl,⟨tt,by rw [← Nat.eq_of_beq_eq_true hb];exact e3⟩,rfl,e5⟩,u,r,rfl,hx,e8⟩
   | false =>
    have hne:¬ (an n==an c)=true:=fun k=>by rw [an_inj hc (eq_of_beq k),Nat.beq_refl] at hb;cases hb
    rw [if_neg hne]
    refine el1a2 (ih e5 e8) fun vs' h1 h2=>?_
    exact ⟨v::vs',⟨v,vs',_,_,rfl,rfl,⟨tt,e3⟩,e4,h1⟩,v,vs',rfl,e7,h2⟩
theorem setField_len {c:Nat}{x:SV}{ns:List Nat}:∀ {l:List SV},(setField ns l c x).1.length≤ns.length+1:=by
 induction ns with
 | nil=>intro l;exact Nat.le_refl _
 | cons n ns ih =>
  intro l
  cases l with
  | nil=>exact Nat.succ_le_succ (Nat.zero_le _)
  | cons y l =>
   show (if Nat.beq n c then (n::ns,x::l) else ((n::(setField ns l c x).1),y::(setField ns l c x).2)).1.length≤_
   cases Nat.beq n c with
   | true=>exact Nat.le_succ _
   | false=>exact Nat.succ_le_succ ih
theorem EntR.length {ns:List Nat}:∀ {vs:List Value} {es:List DictEntry},EntR ns vs es→es.length=ns.length:=by
 induction ns with
 | nil=>rintro _ _ ⟨_,rfl⟩;rfl
 | cons n ns ih=>rintro _ _ ⟨v,r,e,q,rfl,rfl,_,_,e5⟩;exact congrArg Nat.succ (ih e5)
section
variable {σ:Cx}{kk:Nat}{nm:List Str}{m:Mp}{cz hid fx:Ld}{led led':MLd}{s:Shared}{sl:Sl}
theorem inst_upd {a C:Addr}{ns ns':List Nat}{l l':List SV}(st:SS σ m cz hid led s)(hU:LUpd a (.inst C ns l) (.inst C ns' l') led led'):∃ d es nn vs n,St σ m n s∧s.heap.get? a=some (instObj C d)∧s.heap.get? d=some (dictOf es nn)∧EntR ns vs es∧VRs (Kn σ hid) l vs ∧
  ∀ es' nn',∃ n',Upd d (dictOf es nn) (dictOf es' nn') n n'∧∀ s' vs',EntR ns' vs' es'→VRs (Kn σ hid) l' vs'→St σ m n' s'→SS σ m cz hid led' s':=by
 refine el1a3 st.ex fun ledc r sp S=>?_
 refine el3a3 (hU.rel r) fun pre x post e e1q hx=>?_
 obtain ⟨d,es,nn,vs,e2,er,rv⟩:=e1q
 subst e e2
 have ha:=S.N (a,instObj C d) (by simp)
 have hd:=S.N (d,dictOf es nn) (by simp)
 refine ⟨d,es,nn,vs,_,S,ha.1,hd.1,er,rv,fun es' nn'=>⟨((pre++[(a,instObj C d)])++(d,dictOf es' nn')::post)++(cz++hid),?_,fun s' vs' er' rv' S'=>⟨_,hx [(a,instObj C d),(d,dictOf es' nn')] ⟨d,es',nn',vs',rfl,er',rv'⟩,sp.swap (by simp),by simpa using S'⟩⟩⟩
 have sp':Sep ((pre++[(a,instObj C d)])++(d,dictOf es nn)::post) cz hid:=by simpa using sp
 obtain ⟨h1,h2⟩:=Sep.around sp'
 have:=upd_mk (a:=d) (o:=dictOf es nn) (o':=dictOf es' nn') h1 h2
 simpa using this
theorem attr_store (G:Good σ kk){a C:Addr}{ns:List Nat}{l:List SV}{c:Nat}{x:SV}{u:Value}{Q:Unit→Shared→Prop}{E:Value→Shared→Prop}(st:SS σ m cz hid led s)(hg:getOk C c=true)(hz:ns.length≤100)
  (hU:LUpd a (.inst C ns l) (.inst C (setField ns l c x).1 (setField ns l c x).2) led led') (hx:VR (Kn σ hid) x u) (k:∀ s',SS σ m cz hid led' s'→Q () s'):wpAny (model rowP σ.w) σ.A (setAttr (.ref a) (an c) u) Q E s:=by
 refine el5a6 (inst_upd st hU) fun d es nn vs n S ha hd er rv up=>?_
 refine el0a3 (noAttr σ.w hg) fun n1 n2 n3=>?_
 have ht:takerIn (H.K σ.w.params) C (an c)=some none:=by unfold takerIn;rw [n1];rfl
 refine el1a2 (up (putL (an c) (PyData.keyHash σ.w.params (an c)) (.str (an c) (s.toks+1)) u es) (putN (an c) es nn)) fun n' U nx=>?_
 obtain ⟨vs',p1,p2⟩:=put_rel n3 hx er rv
 refine set_dict S.F G.X S.N ⟨ha,rfl,rfl,hd⟩ rfl n2.s n2.o ht n2.h (getL_isSome er) rfl U ?_ fun h' F' N'=>k _ (nx _ vs' p1 p2 ⟨F',N',S.gs,S.dr,S.os⟩)
 rw [p1.length]
 exact Nat.le_trans setField_len (Nat.le_trans (Nat.succ_le_succ hz) (iE rfl))
theorem fldK_of {c:Nat}{u:SV}{ns:List Nat}:∀ {l:List SV} {k:List Nat→List SV→Prop},fldK ns l c u k→k (setField ns l c u).1 (setField ns l c u).2:=by
 induction ns with
 | nil=>exact fun h=>h
 | cons n ns ih =>
  intro l k h
  cases l with
  | nil=>exact h
  | cons v vs =>
   show k (if Nat.beq n c then (n::ns,u::vs) else ((n::(setField ns vs c u).1),v::(setField ns vs c u).2)).1 (if Nat.beq n c then (n::ns,u::vs) else ((n::(setField ns vs c u).1),v::(setField ns vs c u).2)).2
   replace h:Bool.casesOn (motive:=fun _=>Prop) (Nat.beq n c) (fldK ns vs c u fun ns' l'=>k (n::ns') (v::l')) (k (n::ns) (u::vs)):=h
   cases hb:Nat.beq n c with
   | true=>rw [hb] at h;exact h
   | false=>rw [hb] at h;exact ih h
theorem attrS_sound (G:Good σ kk){c:Nat}{ov v:SV}{u w:Value}{P:MLd→Prop}{Q:Unit→Shared→Prop}{E:Value→Shared→Prop}(h:attrS ov c v led P)(st:SS σ m cz hid led s)(hu:VR (Kn σ hid) ov u)(hx:VR (Kn σ hid) v w)(k:∀ led' s',P led'→SS σ m cz hid led' s'→Q () s') :
  wpAny (model rowP σ.w) σ.A (setAttr u (an c) w) Q E s:=by
 refine el1a2 (noE (refE_of h)) fun a e1q eRq=>?_
 subst e1q
 obtain ⟨C,ns,l,_,h1⟩:=eRq
 obtain ⟨led',hU,h2⟩:=fldK_of h1
 obtain ⟨h3,h4⟩:=condK_of h2
 obtain ⟨h5,h6⟩:=condK_of h4
 cases (show u=.ref a from hu)
 exact attr_store G st h3 (iE h5) hU hx fun s' st'=>k _ _ h6 st'
theorem dict_store {a:Addr}{x:Str}{t:Tok}{u:Value}{Q:Unit→Shared→Prop}{E:Value→Shared→Prop}(st:SS σ m cz hid led s)(hU:LSplit led [(a,.dct σ.w)] led')(k:∀ s',SS σ m cz hid led' s'→Q () s'):wpAny (model rowP σ.w) σ.A (setItem (.ref a) (.str x t) u) Q E s:=by
 refine el1a3 st.ex fun ledc r sp S=>?_
 refine el2a3 (hU.rel r) fun x1 y e1q ry pm=>?_
 obtain ⟨q1,q2,rfl,⟨o,rfl,lo,hd,_⟩,e2⟩:=e1q
 cases (show q2=[] from e2)
 have my:∀ q∈y,q∈ledc:=fun q hq=>pm.mem_iff.mpr (iR hq)
 have nd:=(pm.map (fun q:Addr × Obj=>q.1)).nodup_iff.mp sp.nd
 have ma:(a,o)∈ledc:=pm.mem_iff.mpr (.head _)
 have z:=S.N _ (iL ma)
 have off:∀ q∈y++(cz++hid),q.1≠a:=fun q hq=>(iA hq).elim (fun hq e=>(List.nodup_cons.mp nd).1 (List.mem_map.mpr ⟨q,hq,e⟩)) fun hq=>sp.d1 _ ma q hq
 refine wpAny_setItem_pairs (kvs:=[]) (k:=x) (knd:=PySem.strKind rowP σ.w) (strKind_is ..) (Heap.dictOf_iff.mpr ⟨o,z.1,hd⟩) (fun h' _ hs=>k _ ⟨y,ry,⟨(List.nodup_cons.mp nd).2,fun q hq p hp=>sp.d1 q (my q hq) p hp,sp.nc,sp.d2⟩,S.F.change hs z.2.1 z.2.2,fun q hq=>?_,S.gs,S.dr,S.os⟩) (Nat.zero_le _)
 have zq:=S.N q ((iA hq).elim (fun hq=>iL (my q hq)) fun hq=>iR hq)
 exact ⟨hs.extBut _ _ (off q hq) zq.1,zq.2⟩
theorem item_store (G:Good σ kk){a:Addr}{l:List SV}{j:Nat}{t:Tok}{x:SV}{u:Value}{Q:Unit→Shared→Prop}{E:Value→Shared→Prop}(st:SS σ m cz hid led s)(hj:j < l.length)(hz:l.length≤1000)
  (hU:LUpd a (.lst l) (.lst (l.set j x)) led led') (hx:VR (Kn σ hid) x u) (k:∀ s',SS σ m cz hid led' s'→Q () s'):wpAny (model rowP σ.w) σ.A (setItem (.ref a) (.int (j:Int) t) u) Q E s:=by
 refine el3a3 (lst_upd st hU) fun vs nn n S rv up=>?_
 refine el1a2 (up (vs.set j u) nn) fun n' U nx=>?_
 refine el2a4 U.split fun pre post e1 e2 h1 h2=>?_
 subst e1 e2
 have z:=S.N (a,listO vs nn) (List.mem_append.mpr (.inr (.head _)))
 have hl:=VRs.length rv
 have rs:∀ {l:List SV} {vs:List Value} {j:Nat},VRs (Kn σ hid) l vs→VRs (Kn σ hid) (l.set j x) (vs.set j u):=by
  intro l
  induction l with
  | nil=>intro vs j h;rw [show vs=[] from h];rfl
  | cons y l ih =>
   intro vs j hqq
   refine el2a3 hqq fun v r e a b=>?_
   clear hqq
   subst e
   cases j with
   | zero=>exact ⟨u,r,rfl,hx,b⟩
   | succ j=>exact ⟨v,_,rfl,a,ih b⟩
 refine ki_setAt z.1 (by omega) (by omega) (by rw [List.size_toArray];simp;omega) (k _ (nx _ (rs rv) ⟨S.F.change (Heap.SameBut.update ..) z.2.1 z.2.2,ki_turn _ S.N h1 h2 ?_ ?_,S.gs,S.dr,S.os⟩))
 ·show vs.toArray.setIfInBounds (j:Int).toNat u=(vs.set j u).toArray
  apply Array.toList_inj.mp
  simp
 ·simp
end
end
end Mine
end
section
namespace Mine
noncomputable section
noncomputable def smName (b:SM):Str:=SM.casesOn (motive:=fun _=>Str) b "strip" "endswith" "index" "get"
noncomputable def smId (b:SM):String:=SM.casesOn (motive:=fun _=>String) b "str.strip" "str.endswith" "str.index" "dict.get"
section
variable {σ:Cx}{kk:Nat}{m:Mp}{cz hid:Ld}{led:MLd}{s:Shared}{E:Value→Shared→Prop}
theorem dct_of (G:Good σ kk)(st:SS σ m cz hid led s){w:World}{ks:List Str}{l:List SV}{u:Value}(h:VR (Kn σ hid) (.dct w ks l) u):∃ a vs,u=.ref a∧s.heap.DictOf (PySem.strKind rowP w) a (ks.zip vs):=by
 refine el3a4 h fun a o vs e1q ka e2q r=>?_
 clear h
 subst e1q
 refine el0a3 e2q fun h1 h2 h3=>?_
 clear e2q
 exact ⟨a,vs,rfl,Heap.dictOf_iff.mpr ⟨o,st.kn G ka,h2⟩⟩
theorem sm_get (G:Good σ kk){b:SM}{x:SV}{p:Prop}{u:Value}{pl:Sem Bool}{Q:Value × List Value→Shared→Prop}(h:SmOn b x p)(st:SS σ m cz hid led s)(hx:VR (Kn σ hid) x u)(c:p→Q (.builtin (smId b),[u]) s):wpAny (model rowP σ.w) σ.A (getMethod u (smName b) pl) Q E s:=by
 cases b with
 | strip=>obtain ⟨x,rfl,h⟩:=noE (strE_of (show strE x _ False from h));obtain ⟨t,rfl⟩:=hx;exact PySem.GM.strip (c h)
 | endswith=>obtain ⟨x,rfl,h⟩:=noE (strE_of (show strE x _ False from h));obtain ⟨t,rfl⟩:=hx;exact PySem.GM.endswith (c h)
 | index=>obtain ⟨x,rfl,h⟩:=noE (strE_of (show strE x _ False from h));obtain ⟨t,rfl⟩:=hx;exact PySem.GM.index (c h)
 | get =>
  refine el3a2 (noE (dctE_of (show dctE x _ False from h))) fun w ks l e1q h=>?_
  subst e1q
  refine el2a2 (dct_of G st hx) fun a vs e1q hD=>?_
  subst e1q
  exact getMethod_builtin hD.typeIs PySem.F.plainAttrs_dict PySem.F.slot_dict_get PySem.F.type_dict_get hD.mapOf.noDict (c h)
theorem sm_sound (G:Good σ kk){b:SM}{x:SV}{xs:List SV}{u:Value}{vs:List Value}{k:SV→MLd→Prop}{Q:Value→Shared→Prop}(h:smK σ.w b x xs fun r=>k r led)(st:SS σ m cz hid led s)(hx:VR (Kn σ hid) x u)(hv:VRs (Kn σ hid) xs vs)
  (c:Fin σ m cz hid led k Q):wpAny (model rowP σ.w) σ.A (call (.builtin (smId b)) (u::vs)) Q E s:=by
 cases b with
 | strip =>
  refine el1a2 (noE (strE_of (show strE x _ False from h))) fun x e1q h=>?_
  subst e1q
  cases xs with
  | cons _ _=>exact h.elim
  | nil =>
   cases (show vs=[] from hv)
   obtain ⟨hz,h⟩:=condK_of (show condK _ _ from h)
   obtain ⟨t,rfl⟩:=hx
   exact SC.strip (fun t' tk=>c.id h ⟨_,rfl⟩ (st.tok _)) (small_of (Nat.le_trans (iE hz) (iE rfl)))
 | endswith =>
  refine el1a2 (noE (strE_of (show strE x _ False from h))) fun x e1q h=>?_
  subst e1q
  refine el1a2 (arg1_of h) fun y e1q h=>?_
  subst e1q
  refine el1a2 (noE (strE_of h)) fun y e1q h=>?_
  subst e1q
  obtain ⟨t,rfl⟩:=hx
  refine el2a3 hv fun _ _ e1q e2q e3q=>?_
  clear hv
  subst e1q
  obtain ⟨t',rfl⟩:=e2q
  subst e3q
  exact SC.endswith (c.id h rfl st)
 | index =>
  refine el1a2 (noE (strE_of (show strE x _ False from h))) fun x e1q h1=>?_
  subst e1q
  refine el1a2 (arg1_of h1) fun y e1q h2=>?_
  subst e1q
  refine el1a2 (noE (strE_of h2)) fun y e1q h3=>?_
  subst e1q
  obtain ⟨t,rfl⟩:=hx
  refine el2a3 hv fun _ _ e1q e2q e3q=>?_
  clear hv
  subst e1q
  obtain ⟨t',rfl⟩:=e2q
  subst e3q
  obtain ⟨i,rest,ho,h4⟩:=h3
  exact SC.index ho (c.id h4 ⟨_,rfl⟩ (st.tok _))
 | get =>
  refine el3a3 (noE (dctE_of (show dctE x _ False from h))) fun w ks l e1q hw h1=>?_
  subst e1q
  refine el2a5 (dct_at G st hw hx) fun a ws e1q lo D r hl=>?_
  subst e1q
  cases xs with
  | nil=>exact h1.elim
  | cons x xs =>
   refine el1a2 (noE (strE_of (show strE x _ False from h1))) fun key e1q h2=>?_
   subst e1q
   refine el2a3 hv fun _ _ e1q e2q hv1=>?_
   clear hv
   subst e1q
   obtain ⟨t,rfl⟩:=e2q
   have g:∀ {d:SV} {dv:Value},VR (Kn σ hid) d dv→VR (Kn σ hid) ((dctGet ks l key).getD d) ((valueAt (ks.zip ws) key).getD dv):=fun hd=>by
    rcases dctGet_of (key:=key) r hl with ⟨e1,e2⟩ | ⟨x,v,e1,e2,rx⟩
    ·rw [e1,e2];exact hd
    ·rw [e1,e2];exact rx
   cases xs with
   | nil =>
    cases (show _=[] from hv1)
    exact call_meetsIn PySem.F.slot_dict_get D.typeIs PySem.F.entry_dict_get (PySem.F.args_dict_get_2 _ _) (meets_dict_get _ a (isStrOf_self key t) lo) ⟨_,D.mapOf,c.id h2 (g rfl) (st.tok _)⟩
   | cons d xs =>
    obtain ⟨e,h3⟩:=condK_of (show condK (isNil xs) _ from h2)
    cases isNil_of e
    refine el2a3 hv1 fun dv _ e1q rd e2q=>?_
    clear hv1
    subst e1q
    subst e2q
    exact call_meetsIn PySem.F.slot_dict_get D.typeIs PySem.F.entry_dict_get (PySem.F.args_dict_get_3 _ _ _) (meets_dict_get_default _ a (isStrOf_self key t) lo dv) ⟨_,D.mapOf,c.id h3 (g rd) (st.tok _)⟩
end
end
end Mine
end
section
namespace Mine
noncomputable section
noncomputable def FT:List (Nat × Str):=(105,"common_divisor")::(113,"fraction")::(120,"plus")::(127,"minus")::(134,"times")::(162,"sign_of")::(169,"compare")::(176,"least")::(183,"greatest")::(190,"floor_of")::(197,"rounded")::(204,"root_floor")::(280,"box_of")::(285,"point_box")::(474,"spot_of")::(488,"is_flat")::(507,"flat_spots")::(514,"rounded_spot")::(521,"unlike_neighbours")::(583,"Flattener")::(595,"flattened")::(654,"Matrix")::(665,"identity")::(697,"ShapeBox")::(708,"segment_points")::(713,"box_grain")::(720,"shape_box")::(727,"stretch_of")::(852,"_law_pool")::(859,"_law_take")::(866,"_law_one")::(873,"_law_divisor")::(880,"_law_share")::(887,"_law_is_near")::(892,"_law_box_right")::(897,"_law_stretch_right")::(904,"_law_within")::(911,"_law_depth_right")::(253,"whole_of")::(260,"read_exponent")::(267,"read_decimal")::(275,"write_decimal")::(771,"unit_of")::(780,"length")::(838,"place_told")::(831,"group_words")::(763,"link_of")::(845,"framed")::(788,"element_of")::(242,"NumberText")::(752,"Element")::(820,"Uses")::[]
theorem ft_ok (w:World):FT.all (fun q=>nsIn (H.K w.params) mainGlobals q.2==some (some (.ref q.1))&&keepIn (H.K w.params) (.ref q.1))=true:=by kernel_rfl
noncomputable def BIs:List BI:=[.abs,.int,.max,.min,.len,.sum,.range,.list,.tuple,.str]
theorem bis_ok (w:World):BIs.all (fun b=>nsIn (H.K w.params) mainGlobals (biName b)==some none&&!strEq (biName b) "__name__")=true:=by kernel_rfl
noncomputable def optB {α:Type}(o:Option α)(p:α→Bool):Bool:=Option.casesOn (motive:=fun _=>Bool) o false p
noncomputable def litB (x:SV)(v:Value):Bool:=match x with
 | .int i=>(match v with
  | .int j _=>i==j
  | _=>false)
 | .str s=>(match v with
  | .str t _=>strEq s t
  | _=>false)
 | _=>false
noncomputable def litsB:List SV→List Value→Bool
 | [],vs=>isNil vs
 | x::l,vs=>List.casesOn (motive:=fun _=>Bool) vs false fun v vs=>litB x v&&litsB l vs
noncomputable def refO (v:Value):Option Addr:=match v with
 | .ref a=>some a
 | _=>none
noncomputable def seqO (o:Obj):Option (Array Value):=match o.data with
 | .seq items _=>some items
 | _=>none
noncomputable def tupO (x:SV):Option (List SV):=match x with
 | .tup l=>some l
 | _=>none
noncomputable def gvB (K:Frag)(x:SV)(v:Value):Bool:=Option.casesOn (motive:=fun _=>Bool) (tupO x) (litB x v) fun l=>optB (refO v) fun a=>optB (K.lookup a) fun o=>o.cls==.type "tuple"&&optB (seqO o) fun items=>litsB l items.toList
theorem gv_tab (w:World):GV.all (fun q=>optB (nsIn (H.K w.params) mainGlobals q.1) fun o=>optB o fun v=>gvB (H.K w.params) q.2 v)=true:=by kernel_rfl
noncomputable def optC {α:Type}(o:Option α)(f:α→IE):IE:=Option.casesOn (motive:=fun _=>IE) o .bad f
noncomputable def ifC (c:Bool)(a:IE):IE:=Bool.casesOn (motive:=fun _=>IE) c .bad a
noncomputable def orC {α:Type}(o:Option α)(f:α→IE)(d:IE):IE:=Option.casesOn (motive:=fun _=>IE) o d f
noncomputable def ixOf (x:Str):List (Option Str)→Option Nat
 | []=>none
 | o::l=>Bool.casesOn (motive:=fun _=>Option Nat) (optB o (strEq x)) ((ixOf x l).map Nat.succ) (some 0)
noncomputable def nameC (cc:CC)(x:Str):IE:=orC (ixOf x cc.names) .loc (ifC (cc.isG x) (optC (GV.findIdx? fun q=>strEq q.1 x) .glo))
noncomputable def cstC (c:Const):IE:=match c with
 | .none=>.cst .none
 | .bool b=>.cst (.bool b)
 | .int i=>.cst (.int i)
 | .str s=>.cst (.str s)
 | _=>.bad
noncomputable def argsC (rec:Expr→IE)(es:List Expr):IE:=es.foldr (fun e r=>.cons (rec e) r) .nil
noncomputable def opC (rec:Expr→IE)(o:Op)(es:List Expr):IE:=ifC (es.all plainArg) (.op o (argsC rec es))
noncomputable def intC (e:Expr):Option Int:=match e with
 | .Constant c _ _=>(match c with
  | .int i=>some i
  | _=>none)
 | _=>none
noncomputable def bndC (e:Expr):Option Int:=match e with
 | .UnaryOp op a _=>(match op with
  | .USub=>(intC a).map Neg.neg
  | _=>none)
 | e=>intC e
noncomputable def bndO (e:Option Expr):Option (Option Int):=Option.casesOn (motive:=fun _=>Option (Option Int)) e (some none) fun e=>(bndC e).map some
noncomputable def subC (rec:Expr→IE)(v s:Expr):IE:=match s with
 | .Slice a b st _=>Option.casesOn (motive:=fun _=>IE) st (orC (bndO a) (fun lo=>optC (bndO b) fun hi=>opC rec (.slc lo hi) [v]) (optC a fun a=>optC b fun b=>opC rec .sls [v,a,b])) fun _=>.bad
 | s=>opC rec .item [v,s]
noncomputable def callC (rec:Expr→IE)(cc:CC)(x:Str)(args:List Expr):IE:=ifC (cc.isG x) (orC (FT.find? fun q=>strEq q.2 x) (fun q=>opC rec (Bool.casesOn (motive:=fun _=>Op) (IN.any fun p=>Nat.beq p.1 q.1) (.call q.1) (.new q.1)) args)
 (optC (BIs.find? fun b=>strEq (biName b) x) fun b=>ifC (!isNil args) (opC rec (.bi b) args)))
noncomputable def LMs:List LM:=[.append,.pop,.extend]
noncomputable def lmName (b:LM):Str:=LM.casesOn (motive:=fun _=>Str) b "append" "pop" "extend"
noncomputable def SMs:List SM:=[.strip,.endswith,.index,.get]
noncomputable def atrN (e:Expr):Bool:=match e with
 | .Attribute _ x _=>strEq x "attributes"
 | _=>false
noncomputable def smFor (v:Expr)(x:Str):Option SM:=SMs.find? fun b=>strEq (smName b) x&&SM.casesOn (motive:=fun _=>Bool) b true true true (atrN v)
noncomputable def methC (rec:Expr→IE)(v:Expr)(x:Str)(ap pos:Pos)(args:List Expr):IE:=ifC (Nat.beq (knd v) 4&&(Nat.beq ap.endLine pos.line&&(Nat.blt args.length 20&&args.all plainArg))) (orC (LMs.find? fun b=>strEq (lmName b) x) (fun b=>.lm b (rec v) (argsC rec args))
 (orC (smFor v x) (fun b=>.sm b (rec v) (argsC rec args)) (optC (MT.find? fun q=>strEq (mn q.2.2) x) fun q=>.meth q.1 q.2.2 (rec v) (argsC rec args))))
noncomputable def boolC (an:Bool)(rec:Expr→IE):List Expr→IE
 | []=>.bad
 | e::es=>List.casesOn (motive:=fun _=>IE) es (rec e) fun _ _=>Bool.casesOn (motive:=fun _=>IE) an (.or (rec e) (boolC an rec es)) (.and (rec e) (boolC an rec es))
noncomputable def isZ (i:Int):Bool:=Int.casesOn (motive:=fun _=>Bool) i (fun n=>Nat.beq n 0) fun _=>false
noncomputable def nameOf (e:Expr):Option Str:=match e with
 | .Name x _=>some x
 | _=>none
noncomputable def namesOf:List Expr→Option (List Str)
 | []=>some []
 | e::r=>(nameOf e).bind fun x=>(namesOf r).map (x::·)
noncomputable def pairC (xs:List Str)(f:Str→Str→IE):IE:=List.casesOn (motive:=fun _=>IE) xs .bad fun x r=>List.casesOn (motive:=fun _=>IE) r .bad fun y r=>ifC (isNil r) (f x y)
noncomputable def compC (rec:CC→Expr→IE)(cc:CC)(elt:Expr)(g:Comprehension)(sc:Scope):IE:=ifC (cc.top&&(plainArg g.iter&&(isZ g.is_async&&isNil g.ifs)))
 (orC (nameOf g.target) (fun x=>ifC (compScopeOk cc sc [x]) (.comp (rec cc g.iter) (rec (inner cc sc [x]) elt)))
  (optC ((tupX g.target).bind namesOf) fun xs=>pairC xs fun x y=>ifC (!strEq x y&&compScopeOk cc sc [x,y]) (.compP (rec cc g.iter) (rec (inner cc sc [x,y]) elt))))
noncomputable def keyC (e:Expr):Option Str:=match e with
 | .Constant c _ _=>(match c with
  | .str s=>some s
  | _=>none)
 | _=>none
noncomputable def keysC:List (Option Expr)→Option (List Str)
 | []=>some []
 | o::l=>(o.bind keyC).bind fun s=>(keysC l).map (s::·)
noncomputable def cmpStep (rec:CC→Expr→IE)(cc:CC)(e:Expr):IE:=match e with
 | .Name x _=>nameC cc x
 | .Constant c _ _=>cstC c
 | .BinOp l op r _=>opC (rec cc) (.bin op) [l,r]
 | .UnaryOp op a _=>(match op with
  | .USub=>opC (rec cc) .neg [a]
  | .Not=>.not (rec cc a)
  | _=>.bad)
 | .Compare l ops rs _=>(match ops,rs with
  | [op],[r]=>ifC (!behindInMarks op r) (opC (rec cc) (.cmp op) [l,r])
  | [p,q],[b,c]=>ifC (!behindInMarks q c) (.chn p q (rec cc l) (rec cc b) (rec cc c))
  | _,_=>.bad)
 | .Tuple es _ _=>opC (rec cc) .tup es
 | .List es _=>opC (rec cc) .lst es
 | .Subscript v s _=>subC (rec cc) v s
 | .Attribute v x _=>ifC (Nat.beq (knd v) 4) (optC (ATN.findIdx? (strEq x)) fun c=>opC (rec cc) (.attr c) [v])
 | .Call f args kws pos=>(match kws with
  | []=>(match f with
   | .Name x _=>callC (rec cc) cc x args
   | .Attribute v x ap=>methC (rec cc) v x ap pos args
   | _=>.bad)
  | _=>.bad)
 | .BoolOp op es _=>boolC (match op with
  | .And=>true
  | .Or=>false) (rec cc) es
 | .IfExp t a b _=>.ite (rec cc t) (rec cc a) (rec cc b)
 | .Dict keys vals _=>optC (keysC keys) fun ks=>ifC (Nat.beq ks.length vals.length&&(nodupS ks&&Nat.ble ks.length 15)) (opC (rec cc) (.dsp ks) vals)
 | .ListComp elt gens sc _=>(match gens with
  | [g]=>compC rec cc elt g sc
  | _=>.bad)
 | _=>.bad
noncomputable def cmpE:Nat→CC→Expr→IE
 | 0=>fun _ _=>.bad
 | n+1=>cmpStep (cmpE n)
end
end Mine
end
section
namespace Mine
noncomputable section
section
variable {σ:Cx}{kk:Nat}{env:Env}{m:Mp}{cz hid:Ld}{led:MLd}{s:Shared}{cc:CC}{sl:Sl}{Q E:Value→Shared→Prop}{X:Pw}
noncomputable def XEok (σ:Cx)(kk:Nat)(ir:IE)(cc:CC)(e:Expr):Prop:=∀ {env:Env} {m:Mp} {cz hid:Ld} {led:MLd} {sl:Sl} {k:SV→MLd→Prop},EnvOk σ env cc→RelE σ env m cz hid cc sl→vcE σ.pw kk ir sl led k→XE σ env m cz hid led e k
noncomputable def XTok (σ:Cx)(kk:Nat)(ir:IE)(cc:CC)(e:Expr):Prop:=∀ {env:Env} {m:Mp} {cz hid:Ld} {led:MLd} {sl:Sl} {k:Bool→MLd→Prop},EnvOk σ env cc→RelE σ env m cz hid cc sl→vcE σ.pw kk ir sl led (fun v l=>boolK v fun c=>k c l)→XT σ env m cz hid led e k
structure VcOk (σ:Cx)(kk:Nat)(ir:IE)(cc:CC)(e:Expr):Prop where
 xe:XEok σ kk ir cc e
 xt:XTok σ kk ir cc e
theorem Fin.up {hid1:Ld}{k:SV→MLd→Prop}(c:Fin σ m cz hid [] k Q)(u:∀ q∈hid,q∈hid1):Fin σ m cz hid1 [] k Q:=fun r v led' hid' s' a b u' st'=>c r v led' hid' s' a b (fun q hq=>u' q (u q hq)) st'
theorem VcOk.plain {ir:IE}{e:Expr}(hf:Nat.blt 0 (knd e)=true)(h2:Nat.beq (knd e) 2=false)(h:XEok σ kk ir cc e):VcOk σ kk ir cc e:=⟨h,fun EO R hv s Q E st c=>isTrue_plain (h EO R hv s _ _ st fun r v led' hid' s' g rv u st'=>by
 refine el1a2 (boolK_of g) fun b e1q g=>?_
 subst e1q
 cases (show v=_ from rv)
 exact wpAny_truthy_bool (c _ _ _ _ g u st')) ((form_ok e hf).test h2 _ _)⟩
theorem VcOk.bad {e:Expr}:VcOk σ kk .bad cc e:=⟨fun _ _ h=>h.elim,fun _ _ h=>h.elim⟩
theorem ifC_of {c:Bool}{a:IE}{k:SV→MLd→Prop}(h:vcE X kk (ifC c a) sl led k):c=true∧vcE X kk a sl led k:=by
 cases c
 ·exact h.elim
 ·exact ⟨rfl,h⟩
theorem optC_of {α:Type}{o:Option α}{f:α→IE}{k:SV→MLd→Prop}(h:vcE X kk (optC o f) sl led k):∃ a,o=some a∧vcE X kk (f a) sl led k:=by
 cases o
 ·exact h.elim
 ·exact ⟨_,rfl,h⟩
theorem orC_of {α:Type}{o:Option α}{f:α→IE}{d:IE}{k:SV→MLd→Prop}(h:vcE X kk (orC o f d) sl led k):(∃ a,o=some a∧vcE X kk (f a) sl led k)∨vcE X kk d sl led k:=by
 cases o
 ·exact .inr h
 ·exact .inl ⟨_,rfl,h⟩
section
variable {rec:Expr→IE}(ih:∀ e,VcOk σ kk (rec e) cc e)
include ih
theorem args_XL (EO:EnvOk σ env cc){es:List Expr}:∀ {hid:Ld} {led:MLd} {K:List SV→MLd→Prop},RelE σ env m cz hid cc sl→vcE σ.pw kk (argsC rec es) sl led (fun r l=>tupK r fun vs=>K vs l)→XL σ env m cz es hid led K:=by
 induction es with
 | nil=>exact fun R hv=>hv
 | cons e es ihe=>exact fun R hv=>show XE _ _ _ _ _ _ _ _ from fun s Q E st c=>(ih e).xe EO R hv s Q E st fun r v led' hid' s' g=>c r v led' hid' s' fun hid1 u=>ihe (R.mono (hid':=hid1) u) g
theorem opC_of (EO:EnvOk σ env cc){o:Op}{es:List Expr}{k:SV→MLd→Prop}(R:RelE σ env m cz hid cc sl)(hv:vcE σ.pw kk (opC rec o es) sl led k):es.all plainArg=true∧XL σ env m cz es hid led fun vs led1=>opK σ.pw kk o vs led1 k:=by
 obtain ⟨h1,h2⟩:=ifC_of hv
 exact ⟨h1,args_XL ih EO R h2⟩
end
theorem getK_of {k:SV→Prop}:∀ {sl:Sl} {i:Nat},getK sl i k→∃ v,(sl:List (Option SV))[i]? = some (some v)∧k v:=fun {sl}=>by
 induction sl with
 | nil=>exact fun h=>h.elim
 | cons o l ih =>
  intro i h
  cases i with
  | zero=>obtain ⟨v,rfl,h⟩:=optK_of (show optK o k from h);exact ⟨v,rfl,h⟩
  | succ i=>exact ih (show getK l i k from h)
theorem args_then {pos:Pos}{args:List Expr}{f:Value}{us:List Value}{P:Heap→Prop}{k:List SV→MLd→Prop}(hp:args.all plainArg=true)(hk:∀ h,P h→∃ kq,(kq=Keeper.frame∨kq=Keeper.machine∨kq=Keeper.boundFrame)∧Looks (model rowP σ.w) h (keeperOf f) kq)
  (h:XL σ env m cz args hid led k) (st:SS σ m cz hid led s)
  (c:∀ xs vs led' hid' s',k xs led'→VRs (Kn σ hid') xs vs→(∀ q∈hid,q∈hid')→SS σ m cz hid' led' s'→P s'.heap∧wpAny (model rowP σ.w) σ.A (call f (us++vs)) Q E s') :
  wpAny (model rowP σ.w) σ.A (callWith pos f us (backTo pos (starEach args env)) []) Q E s:=by
 refine callWith_of (P:=P) (by rw [any_plain hp];rfl) hk ?_
 cases args with
 | nil=>exact evalArgs_nil3 (c [] [] _ _ _ h rfl (fun _ h=>h) st)
 | cons e r =>
  have:=XL.spl (pos:=pos) (Q:=fun vs s'=>P s'.heap∧wpAny (model rowP σ.w) σ.A (call f (us++vs)) Q E s') (E:=E) hp h st c
  rw [starEach_plain (all_cons hp).1] at this ⊢
  exact evalArgs_plain this
theorem keeps_builtin {id:String}(h:Heap):∃ k,(k=Keeper.frame∨k=Keeper.machine∨k=Keeper.boundFrame)∧Looks (model rowP σ.w) h (keeperOf (.builtin id)) k :=
 ⟨.machine,.inr (.inl rfl),Looks.of_pure rfl⟩
theorem find_str {α:Type}{l:List α}{f:α→Str}{x:Str}{q:α}(h:(l.find? fun q=>strEq (f q) x)=some q):q∈l∧f q=x:=⟨List.mem_of_find?_eq_some h,strEq_eq (List.find?_some (p:=fun q=>strEq (f q) x) h)⟩
theorem ixOf_get {x:Str}{l:List (Option Str)}:∀ {i:Nat},ixOf x l=some i→l[i]? = some (some x):=by
 induction l with
 | nil=>intro i h;cases h
 | cons o l ih =>
  intro i h
  have h':Bool.casesOn (motive:=fun _=>Option Nat) (optB o (strEq x)) ((ixOf x l).map Nat.succ) (some 0)=some i:=h
  cases hb:optB o (strEq x) with
  | true =>
   rw [hb] at h'
   cases h'
   cases o with
   | none=>cases hb
   | some y=>cases strEq_eq (show strEq x y=true from hb);rfl
  | false =>
   rw [hb] at h'
   refine el1a2 (iO (show (ixOf x l).map Nat.succ=some i from h')) fun j hj e1q=>?_
   subst e1q
   exact ih hj
theorem lit_ok {K:KA}{x:SV}{v:Value}(h:litB x v=true):VR K x v:=by
 cases x with
 | int i=>cases v with
  | int j t=>exact ⟨t,by rw [eq_of_beq h]⟩
  | _=>cases h
 | str s=>cases v with
  | str u t=>exact ⟨t,by rw [strEq_eq h]⟩
  | _=>cases h
 | _=>cases h
theorem lits_ok {K:KA}{l:List SV}:∀ {vs:List Value},litsB l vs=true→VRs K l vs:=by
 induction l with
 | nil=>intro vs h;exact isNil_of h
 | cons x l ih =>
  intro vs h
  cases vs with
  | nil=>cases h
  | cons v vs =>
   obtain ⟨h1,h2⟩:=iB (show (litB x v&&litsB l vs)=true from h)
   exact ⟨v,vs,rfl,lit_ok h1,ih h2⟩
theorem optB_of {α:Type}{o:Option α}{p:α→Bool}(h:optB o p=true):∃ a,o=some a∧p a=true:=by
 cases o with
 | none=>cases h
 | some a=>exact ⟨a,rfl,h⟩
theorem gv_ok (w:World){q:Str × SV}(h:q∈GV):∃ v,nsIn (H.K w.params) mainGlobals q.1=some (some v)∧∀ K0:KA,(∀ a o,(H.K w.params).lookup a=some o→K0 a o)→VR K0 q.2 v:=by
 refine el1a2 (optB_of (iT (gv_tab w) q h)) fun o e1 h1=>?_
 refine el1a2 (optB_of h1) fun v e1q h2=>?_
 subst e1q
 refine ⟨v,e1,fun K0 hk=>?_⟩
 generalize q.2=x at h2
 clear e1 h1 h
 cases x with
 | tup l =>
  refine el1a2 (optB_of (show optB (refO v) _=true from h2)) fun a e2 h3=>?_
  refine el1a2 (optB_of h3) fun o e3 h4=>?_
  obtain ⟨h5,h6⟩:=iB h4
  refine el1a2 (optB_of h6) fun items e4 h7=>?_
  obtain ⟨oc,od,da,os⟩:=o
  cases v with
  | ref b =>
   cases e2
   cases da with
   | seq it nn =>
    cases (show it=items from Option.some.inj e4)
    exact ⟨a,_,items.toList,rfl,hk _ _ e3,⟨eq_of_beq h5,nn,rfl⟩,lits_ok h7⟩
   | _=>exact noSome e4
  | _=>exact noSome e2
 | _=>exact lit_ok h2
theorem name_ok (G:Good σ kk){x:Str}{p:Pos}:VcOk σ kk (nameC cc x) cc (.Name x p):=.plain rfl rfl fun EO R hv s Q E st c=>by
 rcases orC_of hv with ⟨i,hi,hv⟩ | hv
 ·have hv:getK _ i _:=hv
  obtain ⟨v,hs,hk⟩:∃ v,_∧_:=getK_of hv
  refine el1a3 (R.at_ i x v (ixOf_get hi) hs) fun u r n _=>?_
  exact n s Q E p _ _ st (c _ _ _ _ _ hk r (fun _ h=>h) st)
 ·obtain ⟨hg,hv⟩:=ifC_of hv
  refine el1a2 (optC_of hv) fun j hj hv=>?_
  refine el1a2 (optK_of (show optK GV[j]? _ from hv)) fun q hq hk=>?_
  refine el1a2 (List.findIdx?_eq_some_iff_getElem.mp hj) fun h1 e1 _=>?_
  obtain ⟨h2,e2⟩:=List.getElem?_eq_some_iff.mp hq
  rw [e2] at e1
  cases strEq_eq e1
  refine el1a2 (gv_ok σ.w (List.mem_of_getElem? hq)) fun v g1 g2=>?_
  exact EO.glob _ _ hg g1 _ _ _ _ _ st.F (c _ _ _ _ _ hk (g2 _ fun a o e=>.inl (G.kf a o e)) (fun _ h=>h) st)
theorem cst_ok {c0:Const}{n:Nat}{p:Pos}:VcOk σ kk (cstC c0) cc (.Constant c0 n p):=.plain rfl rfl fun EO R hv s Q E st c=>by
 cases c0 with
 | none=>exact Constant_none (c _ _ _ _ _ hv rfl (fun _ h=>h) st)
 | bool b=>exact Constant_bool (c _ _ _ _ _ hv rfl (fun _ h=>h) st)
 | int i=>exact wpAny_Constant_int (c _ _ _ _ _ hv ⟨_,rfl⟩ (fun _ h=>h) (st.tok _))
 | str t=>exact Constant_str (c _ _ _ _ _ hv ⟨_,rfl⟩ (fun _ h=>h) (st.tok _))
 | _=>exact False.elim hv
section
variable (G:Good σ kk){rec:Expr→IE}(ih:∀ e,VcOk σ kk (rec e) cc e)
include G ih
theorem x_bin {op:Operator}{l r:Expr}{p:Pos}:XEok σ kk (opC rec (.bin op) [l,r]) cc (.BinOp l op r p):=fun EO R hv s Q E st c =>
 wpAny_BinOp ((opC_of ih EO R hv).2.two st fun x y vx vy led1 hid1 s1 g rx ry u1 st1=>bin_sound G (show binK _ x y _ from g) st1 rx ry (Fin.up c u1))
theorem x_neg {a:Expr}{p:Pos}:XEok σ kk (opC rec .neg [a]) cc (.UnaryOp .USub a p):=fun EO R hv s Q E st c =>
 UnaryOp_ ((opC_of ih EO R hv).2.one st fun x vx led1 hid1 s1 g rx u1 st1=>by
  refine el1a2 (noE (intE_of (show intE x _ False from g))) fun y e1q g=>?_
  subst e1q
  obtain ⟨t,rfl⟩:=rx
  exact neg_int (c _ _ _ _ _ g ⟨_,rfl⟩ u1 (st1.tok _)))
theorem x_not {a:Expr}{p:Pos}:VcOk σ kk (.not (rec a)) cc (.UnaryOp .Not a p):=⟨fun EO R hv s Q E st c =>
 UnaryOp_ ((ih a).xe EO R (show vcE σ.pw kk (rec a) _ _ _ from hv) s _ _ st fun r v led1 hid1 s1 g rv u1 st1=>by
  refine el1a2 (boolK_of g) fun b' e1q g=>?_
  subst e1q
  cases (show v=_ from rv)
  exact PyProof.Rows.not_of (wpAny_truthy_bool (c _ _ _ _ _ g rfl u1 st1))),
 fun {_ _ _ _ _ _ k} EO R hv s Q E st c=>isTrue_not ((ih a).xt (k:=fun c l=>k (!c) l) EO R hv s _ _ st fun b' led1 hid1 s1 g u1 st1=>c _ _ _ _ g u1 st1)⟩
theorem x_cmp {op:CmpOp}{l r:Expr}{p:Pos}:VcOk σ kk (ifC (!behindInMarks op r) (opC rec (.cmp op) [l,r])) cc (.Compare l [op] [r] p):=⟨fun {_ _ _ _ _ _ k} EO R hv s Q E st c=>by
  obtain ⟨h1,h2⟩:=ifC_of hv
  exact wpAny_Compare1 ((opC_of ih EO R h2).2.two st fun x y vx vy led1 hid1 s1 g rx ry u1 st1=>cmp_sound G (k:=fun b=>k (.bool b) led1) g st1 rx ry fun b hk tk=>c _ _ _ _ _ hk rfl u1 (st1.tok tk)) (Bool.not_eq_true' _▸h1),
 fun {_ _ _ _ _ _ k} EO R hv s Q E st c=>by
  obtain ⟨h1,h2⟩:=ifC_of hv
  exact wpAny_isTrue_Compare1 ((opC_of ih EO R h2).2.two st fun x y vx vy led1 hid1 s1 g rx ry u1 st1=>cmp_sound G (k:=fun b=>k b led1) g st1 rx ry fun b hk tk=>wpAny_truthy_bool (c _ _ _ _ hk u1 (st1.tok tk))) (Bool.not_eq_true' _▸h1)⟩
theorem x_chn {op oq:CmpOp}{l b r:Expr}{p:Pos}:VcOk σ kk (ifC (!behindInMarks oq r) (.chn op oq (rec l) (rec b) (rec r))) cc (.Compare l [op,oq] [b,r] p):=⟨fun {_ _ _ _ _ _ k} EO R hv s Q E st c=>by
  obtain ⟨h1,h2⟩:=ifC_of hv
  refine Compare_chain (rs:=[]) ((ih l).xe EO R (show vcE σ.pw kk (rec l) _ _ _ from h2) s _ _ st fun x vx led1 hid1 s1 g rx u1 st1=>chain_link (rs:=[]) ((ih b).xe EO (R.mono u1) g s1 _ _ st1 fun y vy led2 hid2 s2 g2 ry u2 st2=>cmp_sound G g2 st2 (rx.up u2) ry fun b' hb tk=>wpAny_truthy_bool ?_)) (Bool.not_eq_true' _▸h1)
  cases b' with
  | false=>exact c _ _ _ _ _ (hb.2 rfl) rfl (fun q hq=>u2 q (u1 q hq)) (st2.tok tk)
  | true=>exact chain_last ((ih r).xe EO ((R.mono u1).mono u2) (hb.1 rfl) _ _ _ (st2.tok tk) fun z vz led3 hid3 s3 g3 rz u3 st3=>cmp_sound G (k:=fun b=>k (.bool b) led3) g3 st3 (ry.up u3) rz fun b2 hb2 tk2=>c _ _ _ _ _ hb2 rfl (fun q hq=>u3 q (u2 q (u1 q hq))) (st3.tok tk2)),
 fun {_ _ _ _ _ _ k} EO R hv s Q E st c=>by
  obtain ⟨h1,h2⟩:=ifC_of hv
  refine isTrue_chain (rs:=[]) ((ih l).xe EO R (show vcE σ.pw kk (rec l) _ _ _ from h2) s _ _ st fun x vx led1 hid1 s1 g rx u1 st1=>test_link (rs:=[]) ((ih b).xe EO (R.mono u1) g s1 _ _ st1 fun y vy led2 hid2 s2 g2 ry u2 st2=>cmp_sound G g2 st2 (rx.up u2) ry fun b' hb tk=>wpAny_truthy_bool ?_)) (Bool.not_eq_true' _▸h1)
  cases b' with
  | false=>exact c _ _ _ _ (hb.2 rfl) (fun q hq=>u2 q (u1 q hq)) (st2.tok tk)
  | true=>exact test_last ((ih r).xe EO ((R.mono u1).mono u2) (hb.1 rfl) _ _ _ (st2.tok tk) fun z vz led3 hid3 s3 g3 rz u3 st3=>cmp_sound G (k:=fun b=>k b led3) g3 st3 (ry.up u3) rz fun b2 hb2 tk2=>wpAny_truthy_bool (c _ _ _ _ hb2 (fun q hq=>u3 q (u2 q (u1 q hq))) (st3.tok tk2)))⟩
theorem x_tup {es:List Expr}{n:Nat}{p:Pos}:XEok σ kk (opC rec .tup es) cc (.Tuple es n p):=fun EO R hv s Q E st c =>
 Tuple_ ((opC_of ih EO R hv).2.spl (opC_of ih EO R hv).1 st fun xs vs led1 hid1 s1 g r1 u1 st1=>tupMade st1 r1 (condK_of g).1 (condK_of g).2 (Fin.up c u1))
theorem x_lst {es:List Expr}{p:Pos}:XEok σ kk (opC rec .lst es) cc (.List es p):=fun EO R hv s Q E st c =>
 List_ ((opC_of ih EO R hv).2.spl (opC_of ih EO R hv).1 st fun xs vs led1 hid1 s1 g r1 u1 st1=>lstMade st1 r1 (condK_of g).1 (condK_of g).2 (Fin.up c u1))
theorem x_mls {es:List Expr}{p:Pos}:XEok σ kk (opC rec .mls es) cc (.List es p):=fun EO R hv s Q E st c =>
 List_ ((opC_of ih EO R hv).2.spl (opC_of ih EO R hv).1 st fun xs vs led1 hid1 s1 g r1 u1 st1=>mlsMade st1 r1 (condK_of g).1 fun a s2 st2=>c _ _ _ _ _ ((condK_of g).2 a) rfl u1 st2)
theorem x_attr {v:Expr}{x:Str}{p:Pos}:XEok σ kk (ifC (Nat.beq (knd v) 4) (optC (ATN.findIdx? (strEq x)) fun c=>opC rec (.attr c) [v])) cc (.Attribute v x p):=fun EO R hv s Q E st c=>by
 obtain ⟨h1,hv1⟩:=ifC_of hv
 refine el1a2 (optC_of hv1) fun i hi hv2=>?_
 refine el1a2 (List.findIdx?_eq_some_iff_getElem.mp hi) fun h2 e1 _=>?_
 have e:x=an i:=by rw [strEq_eq e1,an_eq,List.getElem?_eq_getElem h2];rfl
 rw [e]
 refine Attribute_any_ ((opC_of ih EO R hv2).2.one st fun x vx led1 hid1 s1 g rx u1 st1=>attr_sound G (show attrK led1 x _ _ from g) st1 rx (Fin.up c u1)) ?_
 have e2:=fun env=>(form_ok v (by rw [Nat.eq_of_beq_eq_true h1];rfl)).base h1 (an i) env
 exact congrArg (fun t:Sem Value=>(do
   let o ← t
   standAt p.atName
   let r ← holding [o] (getAttr o (an i) true)
   letTemporaryGo v o r
   pure r)) (e2 _)
end
end
end
end Mine
end
section
namespace Mine
noncomputable section
section
variable {σ:Cx}{kk:Nat}{env:Env}{m:Mp}{cz hid:Ld}{led:MLd}{s:Shared}{cc:CC}{sl:Sl}{Q E:Value→Shared→Prop}{X:Pw}
theorem int_eval {A:Around}{e:Expr}{j:Int}(h:intC e=some j)(c:∀ t tk,Q (.int j t) { s with toks:=tk }):wpAny (model rowP σ.w) A (eval e env) Q E s:=by
 cases e with
 | Constant c _ _=>cases c with
  | int i=>cases h;exact wpAny_Constant_int (c _ _)
  | _=>exact noSome h
 | _=>exact noSome h
theorem bnd_eval {A:Around}{e:Expr}{j:Int}(h:bndC e=some j)(c:∀ v tk,IsPart v (some j)→Q v { s with toks:=tk }):wpAny (model rowP σ.w) A (eval e env) Q E s:=by
 cases e with
 | UnaryOp op a _=>cases op with
  | USub =>
   refine el1a2 (iO (show (intC a).map Neg.neg=some j from h)) fun i hi e1q=>?_
   subst e1q
   exact UnaryOp_ (int_eval hi fun t tk=>neg_int (c _ _ (.int _ _)))
  | _=>exact noSome h
 | Constant=>exact int_eval h fun t tk=>c _ _ (.int _ _)
 | _=>exact noSome h
theorem part_eval {A:Around}{e:Option Expr}{lo:Option Int}(h:bndO e=some lo)(c:∀ v tk,IsPart v lo→Q v { s with toks:=tk }):wpAny (model rowP σ.w) A (evalPart e env) Q E s:=by
 cases e with
 | none=>cases h;exact wpAny_pure (c _ s.toks .none)
 | some e=>obtain ⟨j,hj,rfl⟩:=iO (show (bndC e).map some=some lo from h);exact bnd_eval hj c
section
variable (G:Good σ kk){rec:Expr→IE}(ih:∀ e,VcOk σ kk (rec e) cc e)
include G ih
theorem x_item {v e:Expr}{p:Pos}:XEok σ kk (opC rec .item [v,e]) cc (.Subscript v e p):=fun EO R hv s Q E st c =>
 Subscript_ ((opC_of ih EO R hv).2.two st fun x y vx vy led1 hid1 s1 g rx ry u1 st1=>item_sound G (form_ok e (all_cons (all_cons (opC_of ih EO R hv).1).2).1).sub (show itemK σ.w led1 x y _ from g) st1 rx ry (Fin.up c u1))
theorem x_slc {v:Expr}{a b:Option Expr}{p p2:Pos}:XEok σ kk (orC (bndO a) (fun lo=>optC (bndO b) fun hi=>opC rec (.slc lo hi) [v]) (optC a fun a=>optC b fun b=>opC rec .sls [v,a,b])) cc (.Subscript v (.Slice a b none p2) p):=fun EO R hv s Q E st c=>by
 rcases orC_of hv with ⟨lo,h1,hv1⟩ | hv1
 ·refine el1a2 (optC_of hv1) fun hi h2 hv2=>?_
  exact Subscript_ ((opC_of ih EO R hv2).2.one st fun x vx led1 hid1 s1 g rx u1 st1=>wpAny_Slice (part_eval h1 fun vl tk pl=>part_eval h2 fun vu tk2 pu=>wpAny_pure (slice_sound G (show slcK x _ _ _ from g) ((st1.tok tk).tok tk2) rx pl pu (Fin.up c u1))))
 ·refine el1a2 (optC_of hv1) fun a e1q hv2=>?_
  subst e1q
  refine el1a2 (optC_of hv2) fun b e1q hv3=>?_
  subst e1q
  have X:=(opC_of ih EO R hv3).2
  exact Subscript_ ((show XE _ _ _ _ _ _ _ _ from X) s _ _ st fun x vx led1 hid1 s1 g1 rx u1 st1=>wpAny_Slice ((show XE _ _ _ _ _ _ _ _ from g1 hid1 u1) s1 _ _ st1 fun y vy led2 hid2 s2 g2 ry u2 st2 =>
   (show XE _ _ _ _ _ _ _ _ from g2 hid2 u2) s2 _ _ st2 fun z vz led3 hid3 s3 g3 rz u3 st3=>wpAny_pure (by
    refine el1a2 (noE (strE_of (show strE x _ False from g3 hid3 u3))) fun _ e1q h5=>?_
    subst e1q
    refine el1a2 (noE (intE_of h5)) fun i e1q h6=>?_
    subst e1q
    refine el1a2 (noE (intE_of h6)) fun j e1q h7=>?_
    subst e1q
    obtain ⟨t1,rfl⟩:=ry
    obtain ⟨t2,rfl⟩:=rz
    exact slice_sound (x:=.str _) (lo:=some i) (hi:=some j) G h7 st3 ((rx.up u2).up u3) (.int _ _) (.int _ _) (Fin.up c fun q hq=>u3 q (u2 q (u1 q hq))))))
theorem x_call {x:Str}{p pos:Pos}{args:List Expr}:XEok σ kk (callC rec cc x args) cc (.Call (.Name x p) args [] pos):=fun EO R hv s Q E st c=>by
 obtain ⟨hg,hv⟩:=ifC_of hv
 rcases orC_of hv with ⟨q,hq,hv1⟩ | hv1
 ·obtain ⟨hm,rfl⟩:=find_str hq
  obtain ⟨g1,g2⟩:=iB (iT (ft_ok σ.w) q hm)
  obtain ⟨hp,hx⟩:=opC_of ih EO R hv1
  refine Call_ (EO.glob _ _ hg (eq_of_beq g1) _ _ _ _ _ st.F (args_then (us:=[]) (P:=(H.K σ.w.params).In) hp (fun h X=>keeps_K g2 h X) hx st fun xs vs led1 hid1 s1 g r1 u1 st1=>⟨G.X.keeps st1.F.keep,?_⟩))
  cases hc:IN.any fun p=>Nat.beq p.1 q.1 with
  | true=>rw [hc] at g;exact new_sound G g st1 r1 (Fin.up c u1)
  | false=>rw [hc] at g;exact call_fn (may:=False) G g st1 r1 (Fin.up c u1) fun h=>h.elim
 ·refine el1a2 (optC_of hv1) fun b hb hv2=>?_
  obtain ⟨hm,rfl⟩:=find_str hb
  obtain ⟨hn,hv3⟩:=ifC_of hv2
  obtain ⟨hp,hx⟩:=opC_of ih EO R hv3
  obtain ⟨g1,g2⟩:=iB (iT (bis_ok σ.w) b hm)
  refine Call_ (EO.bui _ _ hg (eq_of_beq g1) (bi_boot _) (strEq_ne (Bool.not_eq_true' _▸g2)) _ _ _ _ _ st.F ?_)
  exact args_then (us:=[]) (P:=fun _=>True) hp (fun h _=>by cases b <;> exact ⟨.machine,.inr (.inl rfl),Looks.of_pure rfl⟩) hx st fun xs vs led1 hid1 s1 g r1 u1 st1=>⟨trivial,bi_sound G (show biK led1 b xs _ from g) st1 r1 (Fin.up c u1)⟩
omit G ih in
theorem meth_eq {o:Expr}{name:Str}{apos pos:Pos}{args:List Expr}(h1:Nat.beq (knd o) 4=true)(h2:Nat.beq apos.endLine pos.line=true)(h3:Nat.blt args.length 20=true)(h4:args.all plainArg=true) :
  eval (.Call (.Attribute o name apos) args [] pos) env=(do
   let ov ← eval o env
   standAt apos.atName
   let (f,first) ← holding [ov] (getMethod ov name (do return (← importBound o env).getD true))
   callWith pos f first (backTo pos (starEach args env)) []):=by
 have hl:(starEach args env).length=args.length:=by
  clear h3 h1
  induction args with
  | nil=>rfl
  | cons a r ih=>rw [starEach_plain (all_cons h4).1,List.length_cons,List.length_cons,ih (all_cons h4).2]
 have hf:methodCallForm (args.length+([]:List Keyword).length) (backTo pos (starEach args env)) (backToKw pos (keywordEach [] env))=true:=by
  unfold methodCallForm
  rw [List.all_eq_not_any_not]
  simp only [Bool.not_not]
  rw [any_plain h4]
  have:args.length+1≤20:=iE h3
  rw [show backToKw pos (keywordEach [] env)=[] from rfl]
  simp
  omega
 have hpos:methodCallPos true o env apos pos=pure pos:=by
  unfold methodCallPos
  rw [show (apos.endLine==pos.line)=true from beq_iff_eq.mpr (Nat.eq_of_beq_eq_true h2)];rfl
 show (do
  let ov ← attributeBase o name env (eval o env)
  standAt apos.atName
  methodCall o name apos pos env ov (args.length+([]:List Keyword).length) (backTo pos (starEach args env)) (backToKw pos (keywordEach [] env)))=_
 rw [(form_ok o (by rw [Nat.eq_of_beq_eq_true h1];rfl)).base h1]
 unfold methodCall
 rw [hf,hpos]
 rfl
omit G ih in
theorem lm_slot:∀ b:LM,Slot "list" (lmName b) (lmId b)∧typeOf (.builtin (lmId b))=pure (.type "method_descriptor")
 | .append=>⟨PySem.F.slot_list_append,PySem.F.type_list_append⟩
 | .pop=>⟨PySem.F.slot_list_pop,PySem.F.type_list_pop⟩
 | .extend=>⟨PySem.F.slot_list_extend,PySem.F.type_list_extend⟩
theorem methG {may:Prop}{v:Expr}{x:Str}{ap pos:Pos}{args:List Expr}{q:Nat × Nat × Nat}{k:SV→MLd→Prop}(EO:EnvOk σ env cc)(h1:Nat.beq (knd v) 4=true)(h2:Nat.beq ap.endLine pos.line=true)(h3:Nat.blt args.length 20=true)(h4:args.all plainArg=true)(hq:(MT.find? fun q=>strEq (mn q.2.2) x)=some q)
  (R:RelE σ env m cz hid cc sl) (hv:vcE σ.pw kk (rec v) sl led fun ov led1=>MethOk led1 ov q.1 q.2.2 (vcE σ.pw kk (argsC rec args) sl led1 fun r led2=>tupK r fun vs=>callG σ.pw may kk q.1 (ov::vs) led2 k)) (st:SS σ m cz hid led s) (c:Fin σ m cz hid led k Q) (er:ErC σ m cz hid may E) :
  wpAny (model rowP σ.w) σ.A (eval (.Call (.Attribute v x ap) args [] pos) env) Q E s:=by
 obtain ⟨_,rfl⟩:=find_str (f:=fun q:Nat × Nat × Nat=>mn q.2.2) hq
 refine MethodCall_ (pl:=(do return (← importBound v env).getD true)) ((ih v).xe EO R hv s _ _ st fun ov u led1 hid1 s1 g ru u1 st1=>?_) (meth_eq h1 h2 h3 h4)
 exact meth_sound G g st1 ru fun g2 hkeep=>args_then (us:=[u]) (P:=(H.K σ.w.params).In) h4 (fun h X=>keeps_K hkeep h X) (args_XL ih EO (K:=fun vs led2=>callG σ.pw may kk q.1 (ov::vs) led2 k) (R.mono u1) g2) st1 fun xs vs led2 hid2 s2 g3 rv u2 st2 =>
  ⟨G.X.keeps st2.F.keep,call_fn G g3 st2 ⟨_,_,rfl,ru.up u2,rv⟩ (Fin.up c fun q hq=>u2 q (u1 q hq)) fun hm e h' tk' x s3 hid3 led3 u3=>er hm e h' tk' x s3 hid3 led3 fun q hq=>u3 q (u2 q (u1 q hq))⟩
theorem x_meth {v:Expr}{x:Str}{ap pos:Pos}{args:List Expr}:XEok σ kk (methC rec v x ap pos args) cc (.Call (.Attribute v x ap) args [] pos):=fun {env _ _ _ _ _ k} EO R hv s Q E st c=>by
 obtain ⟨h0,hv1⟩:=ifC_of hv
 obtain ⟨h1,h0⟩:=iB h0
 obtain ⟨h2,h0⟩:=iB h0
 obtain ⟨h3,h4⟩:=iB h0
 rcases orC_of hv1 with ⟨b,hb,hv2⟩ | hv2
 ·obtain ⟨_,rfl⟩:=find_str hb
  refine MethodCall_ (pl:=(do return (← importBound v env).getD true)) ((ih v).xe EO R (show vcE σ.pw kk (rec v) _ _ _ from hv2) s _ _ st fun ov u led1 hid1 s1 g ru u1 st1=>?_) (meth_eq h1 h2 h3 h4)
  refine el1a2 (noE (refE_of (show refE ov _ False from g))) fun a e1q eRq=>?_
  subst e1q
  obtain ⟨l,hm,g2⟩:=eRq
  cases (show u=.ref a from ru)
  obtain ⟨slot,hty⟩:=lm_slot b
  refine el1a2 (led_obj st1 hm) fun _ e1q ho=>?_
  refine el2a2 e1q fun ws nn _ _=>?_
  clear e1q
  rename_i e1q _
  subst e1q
  refine getMethod_builtin ⟨_,ho _ (.head _),rfl⟩ PySem.F.plainAttrs_list slot hty (fun a e=>by cases e;exact ⟨_,ho _ (.head _),rfl⟩) ?_
  exact args_then (us:=[.ref a]) (P:=fun _=>True) h4 (fun h _=>keeps_builtin h) (args_XL ih EO (K:=fun vs led2=>lmK led2 b (.val (.ref a)) vs k) (R.mono u1) g2) st1 fun xs vs led2 hid2 s2 g3 rv u2 st2=>⟨trivial,lm_sound G g3 st2 rfl rv (Fin.up c fun q hq=>u2 q (u1 q hq))⟩
 rcases orC_of hv2 with ⟨b,hb,hv3⟩ | hv2
 ·have e:=List.find?_some (p:=fun b=>strEq (smName b) x&&SM.casesOn (motive:=fun _=>Bool) b true true true (atrN v)) hb
  cases strEq_eq (iB e).1
  exact MethodCall_ (pl:=(do return (← importBound v env).getD true)) ((ih v).xe EO R (show vcE σ.pw kk (rec v) _ _ _ from hv3) s _ _ st fun ov u led1 hid1 s1 g ru u1 st1=>sm_get G g st1 ru fun g2 =>
   args_then (us:=[u]) (P:=fun _=>True) h4 (fun h _=>keeps_builtin h) (args_XL ih EO (K:=fun vs led2=>smK σ.w b ov vs fun r=>k r led2) (R.mono u1) g2) st1 fun xs vs led2 hid2 s2 g3 rv u2 st2=>⟨trivial,sm_sound G g3 st2 (ru.up u2) rv (Fin.up c fun q hq=>u2 q (u1 q hq))⟩) (meth_eq h1 h2 h3 h4)
 ·refine el1a2 (optC_of hv2) fun q hq hv3=>?_
  exact methG G ih (may:=False) EO h1 h2 h3 h4 hq R hv3 st c fun h=>h.elim
theorem x_ite {t a b:Expr}{p:Pos}:VcOk σ kk (.ite (rec t) (rec a) (rec b)) cc (.IfExp t a b p):=⟨fun {_ _ _ _ _ _ k} EO R hv s Q E st c =>
 IfExp_ ((ih t).xt (k:=fun c l=>ifB c (vcE σ.pw kk (rec a) _ l k) (vcE σ.pw kk (rec b) _ l k)) EO R hv s _ _ st fun b' led1 hid1 s1 g u1 st1=>by
  cases b' with
  | true=>exact (ih a).xe EO (R.mono u1) (g.1 rfl) _ _ _ st1 (Fin.up c u1)
  | false=>exact (ih b).xe EO (R.mono u1) (g.2 rfl) _ _ _ st1 (Fin.up c u1)),
 fun {env _ _ _ _ _ k} EO R hv s Q E st c=>by
  show wpAny _ _ (do if ← isTrue t env (eval t env) then isTrue a env (eval a env) else isTrue b env (eval b env)) _ _ _
  refine wpAny_bind ((ih t).xt (k:=fun c l=>ifB c (vcE σ.pw kk (rec a) _ l fun v l=>boolK v fun c=>k c l) (vcE σ.pw kk (rec b) _ l fun v l=>boolK v fun c=>k c l)) EO R hv s _ _ st fun b' led1 hid1 s1 g u1 st1=>?_)
  cases b' with
  | true=>exact (ih a).xt EO (R.mono u1) (g.1 rfl) _ _ _ st1 fun c' led2 hid2 s2 g2 u2 st2=>c _ _ _ _ g2 (fun q hq=>u2 q (u1 q hq)) st2
  | false=>exact (ih b).xt EO (R.mono u1) (g.2 rfl) _ _ _ st1 fun c' led2 hid2 s2 g2 u2 st2=>c _ _ _ _ g2 (fun q hq=>u2 q (u1 q hq)) st2⟩
theorem x_and {p:Pos}{es:List Expr}:VcOk σ kk (boolC true rec es) cc (.BoolOp .And es p):=by
 induction es with
 | nil=>exact .bad
 | cons e es ihe =>
  cases es with
  | nil=>exact ⟨fun EO R hv s Q E st c=>BoolOp_one ((ih e).xe EO R hv s Q E st c),fun EO R hv s Q E st c=>isTrue_and ((ih e).xt EO R hv s _ _ st fun b' led1 hid1 s1 g u1 st1=>by
    cases b' with
    | true=>exact isTrue_and_nil (c _ _ _ _ g u1 st1)
    | false=>exact c _ _ _ _ g u1 st1)⟩
  | cons e2 es=>exact ⟨fun EO R hv s Q E st c=>BoolOp_and ((ih e).xe EO R (show vcE σ.pw kk (rec e) _ _ _ from hv) s _ _ st fun r v led1 hid1 s1 g rv u1 st1=>by
    refine el1a2 (boolK_of g) fun b' e1q g=>?_
    subst e1q
    cases (show v=_ from rv)
    refine wpAny_truthy_bool ?_
    cases b' with
    | true=>exact ihe.xe EO (R.mono u1) (g.1 rfl) _ _ _ st1 (Fin.up c u1)
    | false=>exact c _ _ _ _ _ (g.2 rfl) rfl u1 st1),
   fun {_ _ _ _ _ _ k} EO R hv s Q E st c=>isTrue_and ((ih e).xt (k:=fun c l=>ifB c (vcE σ.pw kk (boolC true rec (e2::es)) _ l fun v l=>boolK v fun c=>k c l) (k false l)) EO R hv s _ _ st fun b' led1 hid1 s1 g u1 st1=>by
    cases b' with
    | true=>exact ihe.xt EO (R.mono u1) (g.1 rfl) _ _ _ st1 fun c' led2 hid2 s2 g2 u2 st2=>c _ _ _ _ g2 (fun q hq=>u2 q (u1 q hq)) st2
    | false=>exact c _ _ _ _ (g.2 rfl) u1 st1)⟩
theorem x_or {p:Pos}{es:List Expr}:VcOk σ kk (boolC false rec es) cc (.BoolOp .Or es p):=by
 induction es with
 | nil=>exact .bad
 | cons e es ihe =>
  cases es with
  | nil=>exact ⟨fun EO R hv s Q E st c=>BoolOp_one ((ih e).xe EO R hv s Q E st c),fun EO R hv s Q E st c=>isTrue_or ((ih e).xt EO R hv s _ _ st fun b' led1 hid1 s1 g u1 st1=>by
    cases b' with
    | true=>exact c _ _ _ _ g u1 st1
    | false=>exact isTrue_or_nil (c _ _ _ _ g u1 st1))⟩
  | cons e2 es=>exact ⟨fun EO R hv s Q E st c=>BoolOp_or ((ih e).xe EO R (show vcE σ.pw kk (rec e) _ _ _ from hv) s _ _ st fun r v led1 hid1 s1 g rv u1 st1=>by
    refine el1a2 (boolK_of g) fun b' e1q g=>?_
    subst e1q
    cases (show v=_ from rv)
    refine wpAny_truthy_bool ?_
    cases b' with
    | false=>exact ihe.xe EO (R.mono u1) (g.2 rfl) _ _ _ st1 (Fin.up c u1)
    | true=>exact c _ _ _ _ _ (g.1 rfl) rfl u1 st1),
   fun {_ _ _ _ _ _ k} EO R hv s Q E st c=>isTrue_or ((ih e).xt (k:=fun c l=>ifB c (k true l) (vcE σ.pw kk (boolC false rec (e2::es)) _ l fun v l=>boolK v fun c=>k c l)) EO R hv s _ _ st fun b' led1 hid1 s1 g u1 st1=>by
    cases b' with
    | false=>exact ihe.xt EO (R.mono u1) (g.2 rfl) _ _ _ st1 fun c' led2 hid2 s2 g2 u2 st2=>c _ _ _ _ g2 (fun q hq=>u2 q (u1 q hq)) st2
    | true=>exact c _ _ _ _ (g.1 rfl) u1 st1)⟩
end
end
end
end Mine
end
section
namespace Mine
noncomputable section
section
variable {σ:Cx}{kk:Nat}{env:Env}{m:Mp}{cz hid:Ld}{led:MLd}{s:Shared}{cc:CC}{sl:Sl}{Q E:Value→Shared→Prop}
theorem Sep.drop1 {a b:Ld}{q:Addr × Obj}(sp:Sep a (q::cz) b):Sep a cz b:=⟨sp.nd,fun p hp x hx=>sp.d1 p hp x (.tail _ hx),(List.nodup_cons.mp sp.nc).2,fun p hp x hx=>sp.d2 p (.tail _ hp) x hx⟩
theorem SS.drop1 {q:Addr × Obj}(st:SS σ m (q::cz) hid led s):SS σ m cz hid led s:=by
 refine el1a3 st.ex fun ledc r sp S=>?_
 exact ⟨ledc,r,sp.drop1,S.sub fun p hp=>(mem_app3.mp hp).elim (fun h=>iL h) fun h=>iR (.tail _ (h.elim (fun h=>iL h) fun h=>iR h))⟩
theorem RelE.push {q:Addr × Obj}(R:RelE σ env m cz hid cc sl):RelE σ env m (q::cz) hid cc sl :=
 ⟨R.len,fun i x v a b=>let ⟨u,h1,h2,h3⟩:=R.at_ i x v a b;⟨u,h1,fun s Q E pos hid led st hq=>h2 s Q E pos hid led st.drop1 hq,fun ht hx=>let ⟨c,o,e1,e2,e3⟩:=h3 ht hx;⟨c,o,e1,.tail _ e2,e3⟩⟩⟩
theorem pairs_ok {keys:List (Option Expr)}:∀ {ks:List Str} {vals:List Expr} {pos:Pos} {hid:Ld} {led:MLd} {s:Shared} {k:List SV→MLd→Prop} {Q:List (Value × Value)→Shared→Prop},keysC keys=some ks→ks.length=vals.length→XL σ env m cz vals hid led k→SS σ m cz hid led s →
  (∀ xs vs ps led' hid' s',k xs led'→VRs (Kn σ hid') xs vs→allStrKeys ps=true→strPairs ps=ks.zip vs→vs.length=ks.length→(∀ q∈hid,q∈hid')→SS σ m cz hid' led' s'→Q ps s')→wpAny (model rowP σ.w) σ.A (evalPairs (pairTrees keys vals env pos)) Q E s:=by
 induction keys with
 | nil =>
  intro ks vals pos hid led s k Q hk hl h st c
  cases hk
  cases iN hl.symm
  exact pairTrees_nil_walk (c [] [] [] _ _ _ h rfl rfl rfl rfl (fun _ h=>h) st)
 | cons o keys ih =>
  intro ks vals pos hid led s k Q hk hl h st c
  refine el1a2 (iD hk) fun x h1 h2=>?_
  refine el1a2 (iO h2) fun ks h3 e1q=>?_
  subst e1q
  refine el1a2 (iD h1) fun e e1q h4=>?_
  subst e1q
  cases vals with
  | nil=>cases hl
  | cons v vals =>
   have he:∃ n p,e=.Constant (.str x) n p:=by
    cases e with
    | Constant c n p=>cases c with
     | str s=>cases h4;exact ⟨n,p,rfl⟩
     | _=>exact noSome h4
    | _=>exact noSome h4
   refine el2a1 he fun n p e1q=>?_
   clear he
   subst e1q
   exact pairTrees_cons_walk (Constant_str ((show XE _ _ _ _ _ _ _ _ from h) _ _ _ (st.tok _) fun y vy led1 hid1 s1 g1 ry u1 st1=>ih h3 (Nat.succ.inj hl) (g1 hid1 u1) st1 fun xs vs ps led2 hid2 s2 g2 rs a b hl2 u2 st2 =>
    c (y::xs) (vy::vs) _ _ _ _ g2 ⟨vy,vs,rfl,ry.up u2,rs⟩ a (congrArg ((x,vy)::·) b) (congrArg Nat.succ hl2) (fun q hq=>u2 q (u1 q hq)) st2))
theorem keysC_some {keys:List (Option Expr)}:∀ {ks:List Str},keysC keys=some ks→keys.all (·.isSome)=true∧keys.length=ks.length:=by
 induction keys with
 | nil=>intro ks h;cases h;exact ⟨rfl,rfl⟩
 | cons o keys ih =>
  intro ks h
  refine el1a2 (iD h) fun x h1 h2=>?_
  refine el1a2 (iO h2) fun ks h3 e1q=>?_
  subst e1q
  refine el1a2 (iD h1) fun e e1q h4=>?_
  subst e1q
  exact ⟨(ih h3).1,congrArg Nat.succ (ih h3).2⟩
theorem nodupS_of {l:List Str}(h:nodupS l=true):l.Nodup:=by
 induction l with
 | nil=>exact List.nodup_nil
 | cons x l ih =>
  obtain ⟨h1,h2⟩:=iB (show (l.all (fun y=>!strEq x y)&&nodupS l)=true from h)
  refine List.nodup_cons.mpr ⟨fun hm=>?_,ih h2⟩
  have:=iT h1 x hm
  rw [strEq_refl] at this
  cases this
theorem x_dsp (G:Good σ kk){rec:Expr→IE}(ih:∀ e,VcOk σ kk (rec e) cc e){keys:List (Option Expr)}{vals:List Expr}{p:Pos}:XEok σ kk (optC (keysC keys) fun ks=>ifC (Nat.beq ks.length vals.length&&(nodupS ks&&Nat.ble ks.length 15)) (opC rec (.dsp ks) vals)) cc (.Dict keys vals p):=fun {env m cz hid led sl k} EO R hv s Q E st c=>by
 refine el1a2 (optC_of hv) fun ks h1 hv0=>?_
 obtain ⟨h0,hv1⟩:=ifC_of hv0
 obtain ⟨hl,hz⟩:=iB h0
 obtain ⟨z1,z2⟩:=iB hz
 replace hl:=Nat.eq_of_beq_eq_true hl
 refine el1a3 st.ex fun ledc r sp S=>?_
 obtain ⟨h3,h4⟩:=keysC_some h1
 have big:=Top.nolimit G.T
 have X:∀ {cz:Ld},RelE σ env m cz hid cc sl→XL σ env m cz vals hid led fun vs led1=>k (.dct σ.w ks vs) led1:=fun R=>(opC_of ih EO R hv1).2
 clear hv hv0 hv1 h0 hz
 cases keys with
 | nil =>
  cases h1
  cases iN hl.symm
  have hk:k (.dct σ.w [] []) led:=X R
  refine el1a4 st.new fun n S lt nw _=>?_
  exact Dict_empty_made2 S.F S.N (modules_low big) fun h' o F' N' lo hd _ _ _ ap=>c _ _ _ _ _ hk ⟨_,o,[],rfl,.inr (.head _),⟨lo,hd,rfl⟩,rfl⟩ cons_sub (nw _ _ _ lt ⟨F',N',S.gs,S.dr,S.os⟩)
 | cons o0 keys =>
  refine kdn_eval (knd:=PySem.strKind rowP σ.w) S.F S.N big h3 (h4.trans hl) (fun h=>by cases h) (h4▸iE z2) fun d h' o F' N' lt lo hd=>?_
  have ap:∀ q∈ledc++(cz++hid),d≠q.1:=fun q hq=>Nat.ne_of_gt (lt q hq)
  have st':SS σ m ((d,o)::cz) hid led { s with heap:=h' }:=⟨ledc,r,⟨sp.nd,fun q hq p hp=>(iC hp).elim (fun e=>e▸ap q (iL hq)) (sp.d1 q hq p),List.nodup_cons.mpr ⟨fun hm=>(iM hm).elim fun q hq=>ap q (iR (iL hq.1)) hq.2.symm,sp.nc⟩,
   fun q hq p hp=>(iC hq).elim (fun e=>e▸(ap p (iR (iR hp))).symm) fun hq=>sp.d2 q hq p hp⟩,⟨F',fun q hq=>N' q ((iA hq).elim (fun h=>.tail _ (iL h)) fun h=>(iC h).elim (fun e=>e▸.head _) fun h=>.tail _ (iR h)),S.gs,S.dr,S.os⟩⟩
  refine pairs_ok h1 hl (X R.push) st' fun xs vs ps led' hid' s' g rv a b hl2 u st2=>?_
  refine el1a3 st2.ex fun ledc2 r2 sp2 S2=>?_
  have n1:∀ q∈ledc2,q.1≠d:=fun q hq e=>sp2.d1 q hq (d,o) (.head _) e.symm
  have n2:∀ q∈cz++hid',q.1≠d:=fun q hq=>(iA hq).elim (fun hq e=>(List.nodup_cons.mp sp2.nc).1 (List.mem_map.mpr ⟨q,hq,e⟩)) fun hq=>sp2.d2 (d,o) (.head _) q hq
  refine kdn_made_str S2.F S2.N (updF_mk (o:=o) n1 n2) hd a (by rw [b,List.map_fst_zip (Nat.le_of_eq hl2.symm)];exact nodupS_of z1) fun h2 o2 F2 N2 hd2=>?_
  exact c _ _ _ _ _ g ⟨d,o2,vs,rfl,.inr (.head _),⟨lo,b▸hd2,hl2⟩,rv.up cons_sub⟩ (fun q hq=>.tail _ (u q hq)) (SS.hiddenN (n:=[]) r2 sp2.drop1 (fun q hq=>(iA hq).elim (fun h=>(n1 q h).symm) fun h=>(n2 q h).symm)
   ⟨F2,fun q hq=>N2 q ((iC hq).elim (fun e=>e▸iR (.head _)) fun h=>(iA h).elim (fun h=>iL h) fun h=>iR (.tail _ h)),S2.gs,S2.dr,S2.os⟩)
theorem x_mdc (G:Good σ kk){p:Pos}:XEok σ kk (.op .mdc .nil) cc (.Dict [] [] p):=fun {env m cz hid led sl k} EO R hv s Q E st c=>by
 have hk:∀ a,k (.val (.ref a)) ((a,MO.dct σ.w)::led):=hv
 refine el1a3 st.ex fun ledc r sp S=>?_
 exact Dict_empty_made2 S.F S.N (modules_low (Top.nolimit G.T)) fun h' o F' N' lo hd _ _ _ ap=>c _ _ _ _ _ (hk _) rfl (fun _ h=>h) (SS.made (n:=[]) (x:=[(_,o)]) r sp ⟨o,rfl,lo,hd,rfl⟩ (List.nodup_cons.mpr ⟨List.not_mem_nil,List.nodup_nil⟩) (fun y hy q hq=>iS hy▸Nat.ne_of_lt (Heap.lt_size (S.N q hq).1)) ⟨F',N',S.gs,S.dr,S.os⟩)
end
end
end Mine
end
section
namespace Mine
noncomputable section
theorem nameOf_is {e:Expr}{x:Str}(h:nameOf e=some x):∃ p,e=.Name x p:=by
 cases e with
 | Name y p=>cases h;exact ⟨p,rfl⟩
 | _=>exact noSome h
theorem tupX_is {e:Expr}{x:List Expr}(h:tupX e=some x):∃ k p,e=.Tuple x k p:=by
 cases e with
 | Tuple y k p=>cases h;exact ⟨k,p,rfl⟩
 | _=>exact noSome h
theorem names_cons {e:Expr}{r:List Expr}{xs:List Str}(h:namesOf (e::r)=some xs):∃ x p ys,e=.Name x p∧namesOf r=some ys∧xs=x::ys:=by
 refine el1a2 (iD h) fun x h1 h2=>?_
 refine el1a2 (iO h2) fun ys h3 e1q=>?_
 subst e1q
 obtain ⟨p,rfl⟩:=nameOf_is h1
 exact ⟨x,p,ys,rfl,h3,rfl⟩
theorem namesOf_two {es:List Expr}{x x2:Str}(h:namesOf es=some [x,x2]):∃ p p2,es=[.Name x p,.Name x2 p2]:=by
 cases es with
 | nil=>cases h
 | cons e r =>
  refine el3a3 (names_cons h) fun _ p ys e1q h2 e0=>?_
  subst e1q
  cases e0
  cases r with
  | nil=>cases h2
  | cons e r =>
   refine el3a3 (names_cons h2) fun _ p2 ys e1q h3 e0=>?_
   subst e1q
   cases e0
   cases r with
   | nil=>exact ⟨p,p2,rfl⟩
   | cons e r=>obtain ⟨_,_,_,_,_,e0⟩:=names_cons h3;cases e0
theorem isZ_of {i:Int}(h:isZ i=true):i=0:=by
 cases i with
 | ofNat n=>cases Nat.eq_of_beq_eq_true (show Nat.beq n 0=true from h);rfl
 | negSucc n=>cases h
theorem compL_end {F:SV→MLd→(SV→MLd→Prop)→Prop}{l acc:List SV}{led:MLd}{k:List SV→MLd→Prop}(h:compL0 F (l.drop l.length) acc led k):k acc led:=by rw [List.drop_length] at h;exact h
theorem pairC_of {X:Pw}{kk:Nat}{sl:Sl}{led:MLd}{xs:List Str}{f:Str→Str→IE}{k:SV→MLd→Prop}(h:vcE X kk (pairC xs f) sl led k):∃ x y,xs=[x,y]∧vcE X kk (f x y) sl led k:=by
 cases xs with
 | nil=>exact False.elim h
 | cons x r=>cases r with
  | nil=>exact False.elim h
  | cons y r =>
   obtain ⟨h1,h2⟩:=ifC_of (show vcE X kk (ifC (isNil r) _) sl led k from h)
   cases isNil_of h1
   exact ⟨x,y,rfl,h2⟩
section
variable {σ:Cx}{kk:Nat}{env:Env}{m:Mp}{cz hid:Ld}{led:MLd}{s:Shared}{cc:CC}{sl:Sl}{Q E:Value→Shared→Prop}{X:Pw}
theorem compU_src (G:Good σ kk){iter elt:Expr}{ii ie:IE}{x:Str}{sc:Scope}{cl:List (Str × Addr)}{kf:List SV→MLd→Prop}{FF:Shared→List Value→Ld→Prop}(h1:XEok σ kk ii cc iter)(h2:XEok σ kk ie (inner cc sc [x]) elt)(EO:EnvOk σ σ.env cc)(ht:cc.top=true)(I:InOk σ cc sc [x] cl)(R:RelE σ σ.env m cz hid cc sl)
  (hv:vcE σ.pw kk ii sl led fun iv led1=>iterK iv fun l=>compL (fun x led2 k2=>vcE σ.pw kk ie (sl++[some x]) led2 k2) l [] led1 kf) (st:SS σ m cz hid led s)
  (fin:∀ s2 hid1 n ys nx,s2.gens=σ.gs→s2.drawn=σ.dr→s2.os=σ.os→(∀ q∈hid,q∈hid1)→CompJ σ cz hid1 (fun i acc led=>i=n→kf acc led) n ys nx→FF s2 ys nx) :
  wpAny (model rowP σ.w) σ.A (eval iter σ.env) (fun v s1=>LCg.CompSrc rowP σ.w σ.A σ.g σ.L m σ.env elt x sc cl FF v s1) E s :=
 h1 EO R hv s _ _ st fun iv v led1 hid1 s1 g rv u1 st1=>src_ok G (s0:=s1) st1 g rv fun l S P s2 ledc hK hlen ⟨hh,e⟩ hP hS r sp gg=>by
  subst e
  exact rest_U G EO ht (F:=fun x led2 k2=>vcE σ.pw kk ie (sl++[some x]) led2 k2) I (R.mono u1) (fun cz' hid' C vs led' k2 RI hF=>by
   cases vs with
   | nil=>exact hF.elim
   | cons v vs=>cases vs with
    | nil=>exact h2 (inner_env G I C) RI hF
    | cons _ _=>exact hF.elim) hP hS gg.1 gg.2.1 gg.2.2 hK.ex r sp fun ys nx ⟨acc,led2,ledc2,hid2,a,b⟩=>fin _ hid1 l.length ys nx gg.1 gg.2.1 gg.2.2 u1 ⟨acc,led2,ledc2,hid2,fun _=>compL_end a,b⟩
theorem compP_src (G:Good σ kk){T:Ld}(hT:IsTups σ.g T){iter elt:Expr}{ii ie:IE}{x y:Str}{sc:Scope}{cl:List (Str × Addr)}{kf:List SV→MLd→Prop}{FF:Shared→List Value→Ld→Prop}(h1:XEok σ kk ii cc iter)(h2:XEok σ kk ie (inner cc sc [x,y]) elt)(EO:EnvOk σ σ.env cc)(ht:cc.top=true)(I:InOk σ cc sc [x,y] cl)(R:RelE σ σ.env m cz hid cc sl)
  (hv:vcE σ.pw kk ii sl led fun iv led1=>lstK iv fun l=>compL (fun x led2 k2=>pairK x fun a b=>vcE σ.pw kk ie (sl++[some a,some b]) led2 k2) l [] led1 kf) (st:SS σ m cz hid led s)
  (fin:∀ s2 hid1 n ys nx,s2.gens=σ.gs→s2.drawn=σ.dr→s2.os=σ.os→(∀ q∈hid,q∈hid1)→CompJP σ cz hid1 T (fun i acc led=>i=n→kf acc led) n ys nx→FF s2 ys nx) :
  wpAny (model rowP σ.w) σ.A (eval iter σ.env) (fun v s1=>LCp.SrcLP rowP σ.w σ.A (hidT σ.g T) σ.L m σ.env elt x y sc cl FF v s1) E s :=
 h1 EO R hv s _ _ st fun iv v led1 hid1 s1 g rv u1 st1=>src_okP hT G st1 g rv fun l vs S s2 ledc hK hl ⟨hh,e⟩ hS r sp hn gg=>by
  subst e
  exact rest_P hT G EO ht (F:=fun a b led2 k2=>vcE σ.pw kk ie (sl++[some a,some b]) led2 k2) I (R.mono u1) (fun cz' hid' C a b led' k2 RI hF=>h2 (inner_env G I C) RI hF) hl hS gg.1 gg.2.1 gg.2.2 hK.ex r sp hn
   fun ys nx ⟨n0,e1,e2,acc,led2,ledc2,hid2,a,b⟩=>fin _ hid1 l.length ys nx gg.1 gg.2.1 gg.2.2 u1 ⟨n0,e1,e2,acc,led2,ledc2,hid2,fun _=>compL_end a,b⟩
theorem x_comp (G:Good σ kk){rec:CC→Expr→IE}(ih:∀ cc e,VcOk σ kk (rec cc e) cc e){elt:Expr}{g:Comprehension}{sc:Scope}{p:Pos}:XEok σ kk (compC rec cc elt g sc) cc (.ListComp elt [g] sc p):=fun {env _ _ _ _ _ k} EO R hv s Q E st c=>by
 obtain ⟨h0,hv1⟩:=ifC_of hv
 obtain ⟨ht,h0⟩:=iB h0
 obtain ⟨h1,h0⟩:=iB h0
 obtain ⟨h2,h3⟩:=iB h0
 have ee:=EO.top ht
 subst ee
 obtain ⟨tg,iter,ifs,as⟩:=g
 cases isZ_of h2
 cases isNil_of h3
 have fo:=(form_ok iter h1).fold σ.env
 rcases orC_of hv1 with ⟨x,hx,hv2⟩ | hv2
 ·obtain ⟨px,rfl⟩:=nameOf_is hx
  obtain ⟨h4,hv3⟩:=ifC_of hv2
  obtain ⟨cl,I⟩:=inner_ok EO ht h4
  exact LCg.ListComp_U st.F I.clos I.hcell I.kind I.loc (I.hx x (.head _)) (compU_src G (ih cc iter).xe (ih _ elt).xe EO ht I R hv3 st fun s2 hid1 n ys nx g1 g2 g3 u1 J=>comp_fin (led:=[]) (fun acc led hR=>hR rfl) g1 g2 g3 (Fin.up c u1) J) fo
 ·refine el1a2 (optC_of hv2) fun xs hxs hv3=>?_
  refine el1a2 (iD hxs) fun es h7 h8=>?_
  refine el2a2 (pairC_of hv3) fun x y e1q hv4=>?_
  subst e1q
  refine el2a1 (tupX_is h7) fun n tp e1q=>?_
  subst e1q
  refine el2a1 (namesOf_two h8) fun px py e1q=>?_
  subst e1q
  obtain ⟨h4,hv5⟩:=ifC_of hv4
  obtain ⟨h5,h6⟩:=iB h4
  obtain ⟨cl,I⟩:=inner_ok EO ht h6
  obtain ⟨T,hT⟩:=tups_of σ.g
  exact LCp.ListComp_P (fr_hidT (T:=T) st.F) I.clos I.hcell I.kind I.loc (I.hx x (.head _)) (I.hx y (.tail _ (.head _))) (strEq_ne (Bool.not_eq_true' _▸h5)) (compP_src G hT (ih cc iter).xe (ih _ elt).xe EO ht I R hv5 st fun s2 hid1 n ys nx g1 g2 g3 u1 J=>comp_finP hT (led:=[]) (fun acc led hR=>hR rfl) g1 g2 g3 (Fin.up c u1) J) fo
theorem step_ok (G:Good σ kk){rec:CC→Expr→IE}(ih:∀ cc e,VcOk σ kk (rec cc e) cc e)(cc:CC)(e:Expr):VcOk σ kk (cmpStep rec cc e) cc e:=by
 cases e with
 | Name x p=>exact name_ok G
 | Constant c n p=>exact cst_ok
 | BinOp l op r p=>exact .plain rfl rfl (x_bin G (ih cc))
 | UnaryOp op a p=>cases op with
  | USub=>exact .plain rfl rfl (x_neg G (ih cc))
  | Not=>exact x_not G (ih cc)
  | _=>exact .bad
 | Compare l ops rs p=>cases ops with
  | nil=>exact .bad
  | cons op ops=>cases ops with
   | nil=>cases rs with
    | nil=>exact .bad
    | cons r rs=>cases rs with
     | cons _ _=>exact .bad
     | nil=>exact x_cmp G (ih cc)
   | cons oq ops=>cases ops with
    | cons _ _=>exact .bad
    | nil=>cases rs with
     | nil=>exact .bad
     | cons b rs=>cases rs with
      | nil=>exact .bad
      | cons r rs=>cases rs with
       | nil=>exact x_chn G (ih cc)
       | cons _ _=>exact .bad
 | Dict keys vals p=>exact .plain rfl rfl (x_dsp G (ih cc))
 | Tuple es n p=>exact .plain rfl rfl (x_tup G (ih cc))
 | List es p=>exact .plain rfl rfl (x_lst G (ih cc))
 | Subscript v e p=>cases e with
  | Slice a b st p2=>cases st with
   | none=>exact .plain rfl rfl (x_slc G (ih cc))
   | some _=>exact .bad
  | _=>exact .plain rfl rfl (x_item G (ih cc))
 | Attribute v x p=>exact .plain rfl rfl (x_attr G (ih cc))
 | Call f args kws p=>cases kws with
  | cons _ _=>exact .bad
  | nil=>cases f with
   | Name x p2=>cases args with
    | nil=>exact .plain rfl rfl (x_call G (ih cc))
    | cons _ _=>exact .plain rfl rfl (x_call G (ih cc))
   | Attribute v x ap=>exact .plain rfl rfl (x_meth G (ih cc))
   | _=>exact .bad
 | BoolOp op es p=>cases op with
  | And=>exact x_and G (ih cc)
  | Or=>exact x_or G (ih cc)
 | IfExp t a b p=>exact x_ite G (ih cc)
 | ListComp elt gens sc p=>cases gens with
  | nil=>exact .bad
  | cons g gens=>cases gens with
   | nil=>exact .plain rfl rfl (x_comp G ih)
   | cons _ _=>exact .bad
 | _=>exact .bad
theorem cmp_ok (G:Good σ kk)(n:Nat):∀ (cc:CC) (e:Expr),VcOk σ kk (cmpE n cc e) cc e:=by
 induction n with
 | zero=>exact fun cc e=>.bad
 | succ n ih=>exact step_ok G ih
end
end
end Mine
end
section
namespace Mine
noncomputable section
noncomputable def FlR (K:KA)(fl:SFl)(f:Flow):Prop:=SFl.casesOn (motive:=fun _=>Prop) fl (f=.next) (f=.brk) (f=.cont) fun x=>∃ v,f=.ret v∧VR K x v
structure EOk (σ:Cx)(E:Value→Shared→Prop):Prop where
 po:PassesOwn (model rowP σ.w) σ.A σ.env E
 rz:σ.z→∀ e h' tk fl,RZf fl σ.base (σ.env::σ.outer) σ.g e h'→E (.ref e) ⟨h',σ.gs,σ.dr,tk,σ.os⟩
 rs:σ.z→∀ e t dx vs h' tk m,Fr σ.g σ.L h' m→News σ.g σ.L h' [(e,excO t dx),(t,tupOf vs)]→E (.ref e) ⟨h',σ.gs,σ.dr,tk,σ.os⟩
section
variable {σ:Cx}{kk:Nat}{nm:List Str}{m:Mp}{cz hid fx:Ld}{led led':MLd}{s:Shared}{sl:Sl}
noncomputable def XB (σ:Cx)(nm:List Str)(target:Expr)(body:List Stmt)(x:SV)(sl:Sl)(led:MLd)(K:FK):Prop :=
 ∀ (fx cz hid:Ld) (m:Mp) (s:Shared) (Q:Flow→Shared→Prop) (E:Value→Shared→Prop) (u:Value),EOk σ E→RelS σ nm m cz hid sl→SS σ m (fx++cz) hid led s→VR (Kn σ hid) x u →
  (∀ fl f sl' led' cz' hid' m' s',K fl sl' led'→FlR (Kn σ hid') fl f→RelS σ nm m' cz' hid' sl'→(∀ q∈hid,q∈hid')→SS σ m' (fx++cz') hid' led' s'→Q f s') →
  wpAny (model rowP σ.w) σ.A (assign target σ.env u) (fun _ s3=>wpAny (model rowP σ.w) σ.A (execs body σ.env) Q E s3) E s
noncomputable def ForJ (σ:Cx)(nm:List Str)(fx hid0:Ld)(R:Nat→Sl→MLd→Prop)(i:Nat)(m:Mp)(nx:Ld):Prop :=
 ∃ sl led cz hid ledc,R i sl led∧RelS σ nm m cz hid sl∧(∀ q∈hid0,q∈hid)∧RelL (Kn σ hid) led ledc∧Sep ledc (fx++cz) hid∧nx=ledc++((fx++cz)++hid)
theorem ForJ.i {fx hid0:Ld}{R:Nat→Sl→MLd→Prop}{i:Nat}{ledc:Ld}(h1:R i sl led)(h2:RelS σ nm m cz hid sl)(h3:∀ q∈hid0,q∈hid)(h4:RelL (Kn σ hid) led ledc)(h5:Sep ledc (fx++cz) hid):ForJ σ nm fx hid0 R i m (ledc++((fx++cz)++hid)):=⟨sl,led,cz,hid,ledc,h1,h2,h3,h4,h5,rfl⟩
theorem ForJ.e {C:Ld→Prop}{fx hid0 nx:Ld}{R:Nat→Sl→MLd→Prop}{i:Nat}(h:ForJ σ nm fx hid0 R i m nx)(k:∀ sl led cz hid ledc,R i sl led→RelS σ nm m cz hid sl→(∀ q∈hid0,q∈hid)→RelL (Kn σ hid) led ledc→Sep ledc (fx++cz) hid→C (ledc++((fx++cz)++hid))):C nx :=
 el5a6 h fun _ _ _ _ _ a b c d e f=>f▸k _ _ _ _ _ a b c d e
theorem for_core (G:Good σ kk){target:Expr}{body:List Stmt}{B:SV→Sl→MLd→FK→Prop}{K:FK}{l:List SV}{I:Addr}{fp:List Addr}{P Md:Nat→Value→Heap→Prop}{T:Nat→Heap→Prop}{ledc:Ld}{Q:Flow→Shared→Prop}{E:Value→Shared→Prop}
  (hB:∀ x sl led K,B x sl led K→XB σ nm target body x sl led K) (hE:EOk σ E)
  (W:KTurns rowP σ.w σ.A target I fp [I] l.length P Md T) (hLf:σ.L ∉ fp) (hI:σ.g.get? I=none) (hnw:∀ p∈ledc++((fx++cz)++hid),p.1≠I) (hst:T 0 s.heap) (hIt:∀ i h,T i h→∃ o,h.get? I=some o)
  (hfp:∀ b∈fp,b=I∨(∃ o,σ.g.get? b=some o)∨∃ o,(b,o)∈hid) (hP:∀ i v h,i < l.length→P i v h→∃ sv,l[i]? = some sv∧VR (Kn σ hid) sv v)
  (R:RelS σ nm m cz hid sl) (r:RelL (Kn σ hid) led ledc) (sp:Sep ledc (fx++cz) hid) (S:St σ m (ledc++((fx++cz)++hid)) s) (h0:forL B l sl led K)
  (c:∀ fl f sl' led' cz' hid' m' s',K fl sl' led'→FlR (Kn σ hid') fl f→RelS σ nm m' cz' hid' sl'→(∀ q∈hid,q∈hid')→SS σ m' (fx++cz') hid' led' s'→Q f s') :
  TurnsAt rowP σ.w σ.A σ.g σ.env target body Q E (.ref I) s:=by
 refine ⟨I,fp,[I],l.length,P,Md,T,m,_,ForJ σ nm fx hid (fun i sl led=>forL0 B (l.drop i) sl led K),rfl,W,hLf,?_,?_,hst,S.F,S.N,.i h0.ex R (fun _ h=>h) r sp,?_,?_⟩
 ·intro b hb;rw [iS hb];exact hI
 ·intro q hq hm;exact hnw q hq (iS hm)
 ·intro i v m₁ nx h₁ tk₁ own hin hPv hj
  apply ForJ.e hj
  intro sl1 led1 cz1 hid1 ledc1 hk R1 u1 r1 sp1 hoff hown hget hall hT F1 N1
  clear hj
  refine el1a2 (hP i v _ hin hPv) fun sv hl rv=>?_
  rw [drop_cons hl] at hk
  refine (hIt _ _ hT).elim fun it hit=>?_
  have hmem:(I,it)∈own:=hall I (W.sub I (List.mem_singleton.mpr rfl)) hI it hit
  have off:∀ q∈ledc1++((fx++cz1)++hid1),q.1≠I:=fun q hq e=>hoff q hq (List.mem_singleton.mpr e)
  have st:SS σ m₁ (((I,it)::fx)++cz1) hid1 led1 { s with heap:=h₁,toks:=tk₁ }:=by
   refine ⟨ledc1,r1,⟨sp1.nd,fun q hq p hp=>?_,?_,fun q hq p hp=>?_⟩,⟨F1,fun q hq=>?_,S.gs,S.dr,S.os⟩⟩
   ·rcases iC hp with rfl | hp
    ·exact (off q (iL hq)).symm
    ·exact sp1.d1 q hq p hp
   ·show ((I,it)::(fx++cz1)).map (·.1) |>.Nodup
    rw [List.map_cons,List.nodup_cons]
    refine ⟨fun hm=>?_,sp1.nc⟩
    refine el1a2 (iM hm) fun q hq e=>?_
    exact off q (iR (iL hq)) e
   ·rcases iC hq with rfl | hq
    ·exact off p (iR (iR hp))
    ·exact sp1.d2 q hq p hp
   ·rcases iA hq with hq | hq
    ·exact N1 q (iR (iL hq))
    ·rcases iC hq with rfl | hq
     ·exact N1 _ (iL hmem)
     ·exact N1 q (iR (iR hq))
  refine hB _ _ _ _ hk ((I,it)::fx) cz1 hid1 m₁ _ _ E v hE R1 st (rv.up u1) fun fl f sl2 led2 cz2 hid2 m2 s2 k2 f2 R2 u2 st2=>?_
  refine el1a3 st2.ex fun ledc2 r2 sp2 S2=>?_
  have nc:(∀ q∈fx++cz2,q.1≠I)∧((fx++cz2).map (·.1)).Nodup:=by
   have:=sp2.nc
   change (((I,it)::(fx++cz2)).map (·.1)).Nodup at this
   rw [List.map_cons,List.nodup_cons] at this
   exact ⟨fun q hq e=>by
    have hm:q.1∈(fx++cz2).map (·.1):=List.mem_map_of_mem hq
    rw [show q.1=I from e] at hm
    exact this.1 hm,this.2⟩
  have sp2':Sep ledc2 (fx++cz2) hid2:=⟨sp2.nd,fun q hq p hp=>sp2.d1 q hq p (.tail _ hp),nc.2,fun q hq p hp=>sp2.d2 q (.tail _ hq) p hp⟩
  have sub2:∀ q∈ledc2++((fx++cz2)++hid2),q∈ledc2++((((I,it)::fx)++cz2)++hid2):=fun q hq=>by
   rcases iA hq with hq | hq
   ·exact iL hq
   ·exact iR (.tail _ hq)
  have off2:∀ q∈ledc2++((fx++cz2)++hid2),q.1≠I:=fun q hq=>by
   rcases iA hq with hq | hq
   ·exact (sp2.d1 q hq (I,it) (.head _)).symm
   ·rcases iA hq with hq | hq
    ·exact nc.1 q hq
    ·exact sp2.d2 (I,it) (.head _) q hq
  have stp:forL0 B (l.drop (i+1)) sl2 led2 K→LoopStepU σ.g σ.L [I] own (ForJ σ nm fx hid (fun i sl led=>forL0 B (l.drop i) sl led K) (i+1)) { s with heap:=h₁,toks:=tk₁ } .next s2:=fun k3=>by
   refine ⟨rfl,s2.heap,s2.toks,m2,ledc2++((fx++cz2)++hid2),shared_eta (S2.gs.trans S.gs.symm) (S2.dr.trans S.dr.symm) (S2.os.trans S.os.symm),S2.F,fun q hq=>?_,fun q hq hm=>off2 q hq (iS hm),.i k3 R2 (fun q hq=>u2 q (u1 q hq)) r2 sp2'⟩
   rcases iA hq with hq | hq
   ·have hg:=hget q hq
    rcases hfp _ (hown q hq) with h1 | ⟨o,h1⟩ | ⟨o,h1⟩
    ·rw [h1] at hg
     have:q=(I,it):=Prod.ext h1 (Option.some.inj (hg.symm.trans hit))
     rw [this];exact S2.N _ (iR (.head _))
    ·have:=(N1 q (iL hq)).2.2
     rw [h1] at this;cases this
    ·have h2:=(N1 _ (iR (iR (iR (u1 _ h1))))).1
     have:q=(q.1,o):=Prod.ext rfl (Option.some.inj (hg.symm.trans h2))
     rw [this]
     exact S2.N _ (iR (iR (u2 _ (u1 _ h1))))
   ·exact S2.N q (sub2 q hq)
  have st3:SS σ m2 (fx++cz2) hid2 led2 s2:=⟨ledc2,r2,sp2',S2.sub sub2⟩
  have u3:∀ q∈hid,q∈hid2:=fun q hq=>u2 q (u1 q hq)
  cases fl with
  | next=>cases (show f=.next from f2);exact stp k2
  | cont=>cases (show f=.cont from f2);exact stp k2
  | brk=>cases (show f=.brk from f2);exact c .next .next _ _ _ _ _ _ k2 rfl R2 u3 st3
  | ret x=>obtain ⟨v',rfl,hv'⟩:=f2;exact c (.ret x) _ _ _ _ _ _ _ k2 ⟨v',rfl,hv'⟩ R2 u3 st3
 ·intro h' tk m' nx F' N' hoff hqq
  revert N'
  apply ForJ.e hqq
  intro sl2 led2 cz2 hid2 ledc2 hk R2 u2 r2 sp2 N'
  rw [List.drop_length] at hk
  exact c .next .next _ _ _ _ _ _ hk rfl R2 u2 ⟨ledc2,r2,sp2,⟨F',N',S.gs,S.dr,S.os⟩⟩
theorem letGo_list {target:Expr}{I l:Addr}{i:Nat}{v:Value}{Q:Unit→Shared→Prop}{E:Value→Shared→Prop}(ht:(∃ x p,target=.Name x p)∨∃ es k p,target=.Tuple es k p)(hit:s.heap.IsListIter I l i)(hQ:Q () s) :
  wpAny (model rowP σ.w) σ.A (letOwnedTupleGo target (.ref I) v) Q E s:=by
 rcases ht with ⟨x,p,rfl⟩ | ⟨es,k,p,rfl⟩
 ·exact wpAny_pure hQ
 ·cases v with
  | ref T=>exact wpAny_letOwnedTupleGo_listiter hit hQ
  | _=>exact wpAny_pure hQ
theorem for_sound (G:Good σ kk){target iter:Expr}{body:List Stmt}{pos:Pos}{one:Bool}{B:SV→Sl→MLd→FK→Prop}{K:FK}{Q:Flow→Shared→Prop}{E:Value→Shared→Prop}
  (ht:(∃ x p,target=.Name x p)∨(one=false∧∃ es k p,target=.Tuple es k p)) (hB:∀ x sl led K,B x sl led K→XB σ nm target body x sl led K) (hE:EOk σ E) (hset:∀ x,foldedSetIterable iter σ.env x=pure x)
  (R:RelS σ nm m cz hid sl) (st:SS σ m (fx++cz) hid led s) (hit:XE σ σ.env m (fx++cz) hid led iter fun iv led1=>iterF σ.w one iv fun l=>forL B l sl led1 K)
  (c:∀ fl f sl' led' cz' hid' m' s',K fl sl' led'→FlR (Kn σ hid') fl f→RelS σ nm m' cz' hid' sl'→(∀ q∈hid,q∈hid')→SS σ m' (fx++cz') hid' led' s'→Q f s') :
  wpAny (model rowP σ.w) σ.A (exec (.For target iter body [] pos) σ.env) Q E s:=by
 refine For_turns st.F (hit s _ _ st fun iv v led1 hid1 s1 g rv u1 st1=>?_) hset hE.po
 have ht':(∃ x p,target=.Name x p)∨∃ es k p,target=.Tuple es k p:=ht.imp id fun h=>h.2
 refine el1a3 st1.ex fun ledc r sp S=>?_
 have R1:=R.mono u1
 have c1:∀ fl f sl' led' cz' hid' m' s',K fl sl' led'→FlR (Kn σ hid') fl f→RelS σ nm m' cz' hid' sl'→(∀ q∈hid1,q∈hid')→SS σ m' (fx++cz') hid' led' s'→Q f s':=fun fl f sl' led' cz' hid' m' s' a b d u e=>c fl f sl' led' cz' hid' m' s' a b d (fun q hq=>u q (u1 q hq)) e
 have hI:σ.g.get? s1.heap.objs.size=none:=next_is_new S.F
 have hnw:∀ p∈ledc++((fx++cz)++hid1),p.1≠s1.heap.objs.size:=fun p hp=>Nat.ne_of_lt (Heap.lt_size (S.N p hp).1)
 have push:∀ o,St σ m (ledc++((fx++cz)++hid1)) { s1 with heap:=s1.heap.push o }:=fun o=>⟨S.F.push o,fun q hq=>⟨Heap.get?_push_of_some _ (S.N q hq).1,(S.N q hq).2⟩,S.gs,S.dr,S.os⟩
 have hL:σ.L≠s1.heap.objs.size:=Nat.ne_of_lt S.F.ns.lt
 have seqs:∀ {l:List SV} {vs:List Value},VRs (Kn σ hid1) l vs→∀ i v (h:Heap),i < l.length→vs.toArray[i]? = some v→∃ sv,l[i]? = some sv∧VR (Kn σ hid1) sv v:=fun ra i v h _ hv=>ra.get' (by simpa using hv)
 have src:∀ {a:Addr} {o:Obj},Kn σ hid1 a o→∀ b∈[s1.heap.objs.size,a],b=s1.heap.objs.size∨(∃ o,σ.g.get? b=some o)∨∃ o,(b,o)∈hid1:=fun {a o} ka b hb=>by
  rcases iC hb with e | hb
  ·exact .inl e
  ·rw [iS hb]
   exact .inr (ka.imp (fun k=>⟨_,G.kn _ _ k⟩) fun k=>⟨_,k⟩)
 have notM:∀ {a:Addr} {o:Obj},Kn σ hid1 a o→σ.L ∉ [s1.heap.objs.size,a]:=fun {a o} ka hm=>by
  rcases iC hm with e | hm
  ·exact hL e
  have e:=iS hm
  rcases ka with k | k
  ·have h1:=G.kn _ _ k
   have h2:=Heap.get?_none_of_le S.F.above
   rw [← e,h2] at h1;cases h1
  ·exact (S.N _ (iR (iR k))).2.1 e.symm
 rcases lstE_of g with ⟨l,rfl,hz,g⟩ | g
 ·refine el3a4 rv fun a o vs e1q ka ia ra=>?_
  clear rv
  subst e1q
  have hax:=st1.isL G ka ia
  have hne:a≠s1.heap.objs.size:=Nat.ne_of_lt (Heap.lt_size (st1.kn G ka))
  refine wpAny_pyIter_list hax ?_
  have W:=Walks.list (prog:=rowP) (w:=σ.w) (A:=σ.A) rfl s1.heap.objs.size a hne vs.toArray
  rw [show vs.toArray.size=_ from (List.size_toArray).trans (VRs.length ra)] at W
  exact for_core G hB hE (KTurns.ofWalks (target:=target) W fun i v s Q E hst hQ=>letGo_list ht' hst.1 hQ) (notM ka) hI hnw ⟨⟨_,Heap.get?_push_size _ rfl,rfl,rfl⟩,hax.at fun o e=>Heap.get?_push_of_some _ e⟩ (fun i h hst=>let ⟨o,e,_⟩:=hst.1;⟨o,e⟩) (src ka) (seqs ra) R1 r sp (push _) g c1
 obtain ⟨h1,g⟩:=condK_of g
 obtain ⟨x,p,rfl⟩:∃ x p,target=.Name x p:=ht.elim id fun e=>by rw [h1] at e;cases e.1
 rcases tupE_of g with ⟨l,rfl,hz,g⟩ | g
 ·refine el3a4 rv fun a o vs e1q ka ia ra=>?_
  clear rv
  subst e1q
  have hax:s1.heap.IsTuple a vs.toArray:=st1.isT G ka ia
  have hne:a≠s1.heap.objs.size:=Nat.ne_of_lt (Heap.lt_size (st1.kn G ka))
  refine wpAny_pyIter_tuple hax ?_
  have W:=Walks.tuple (prog:=rowP) (w:=σ.w) (A:=σ.A) rfl s1.heap.objs.size a hne vs.toArray
  rw [show vs.toArray.size=_ from (List.size_toArray).trans (VRs.length ra)] at W
  exact for_core G hB hE (KTurns.ofWalks (target:=.Name x p) W fun i v s Q E hst hQ=>wpAny_pure hQ) (notM ka) hI hnw ⟨⟨_,Heap.get?_push_size _ rfl,rfl,rfl⟩,hax.at fun o e=>Heap.get?_push_of_some _ e⟩ (fun i h hst=>let ⟨o,e,_⟩:=hst.1;⟨o,e⟩) (src ka) (seqs ra) R1 r sp (push _) g c1
 rcases rngE_of g with ⟨n0,rfl,hz,g⟩ | g
 ·skip
  refine el4a2 rv fun a t u q e1q ka=>?_
  clear rv
  subst e1q
  have hlen:(rangeV n0).length=n0:=by rw [rangeV,List.length_map,List.length_range]
  have sm:Builtin.Range.small 0 (n0:Int) 1=true:=by clear hit c1 c hB push hnw S sp r R1 R;exact small_one (by omega) (by omega) (by omega) (by omega)
  have sz:Builtin.Range.rangeSize 0 (n0:Int) 1=((n0:Nat):Int):=by clear hit c1 c hB push hnw S sp r R1 R;rw [rangeSize_one];split <;> omega
  refine wpAny_pyIter_range (st1.kn G ka) sm ?_
  have W:=Walks.range (prog:=rowP) (w:=σ.w) (A:=σ.A) rfl s1.heap.objs.size 0 1 n0
  rw [← hlen] at W
  refine for_core G hB hE (KTurns.ofWalks (target:=.Name x p) W fun i v s Q E hst hQ=>wpAny_pure hQ) (fun hm=>hL (iS hm)) hI hnw ?_ (fun i h hst=>⟨_,hst⟩) (fun b hb=>.inl (iS hb)) (fun i v h hi hv=>?_) R1 r sp (push _) g c1
  ·show IsRangeIter _ _ _ _ _
   rw [sz,hlen]
   simpa using Heap.get?_push_size _ rfl
  ·obtain ⟨t,rfl⟩:=hv
   rw [hlen] at hi
   exact ⟨.int i,by rw [rangeV,List.getElem?_map,List.getElem?_range hi];rfl,t,by rw [Int.zero_add,Int.mul_one]⟩
 rcases strE_of g with ⟨x0,rfl,g⟩ | g
 ·obtain ⟨ha,g1⟩:=condK_of g
  obtain ⟨t0,rfl⟩:=rv
  refine wpAny_pyIter_ascii (Array.all_toList▸ha) ?_
  have W:=Walks.strAscii (prog:=rowP) (w:=σ.w) (A:=σ.A) rfl s1.heap.objs.size x0 t0
  rw [show x0.cps.size=(charsV x0).length from by rw [charsV,List.length_map,Array.length_toList]] at W
  refine for_core G hB hE (KTurns.ofWalks (target:=.Name x p) W fun i v s Q E hst hQ=>wpAny_pure hQ) (fun hm=>hL (iS hm)) hI hnw ⟨_,Heap.get?_push_size _ rfl,rfl,rfl⟩ (fun i h hst=>let ⟨o,e,_⟩:=hst;⟨o,e⟩) (fun b hb=>.inl (iS hb)) (fun i v h hi hv=>?_) R1 r sp (push _) g1 c1
  refine el2a2 hv fun ch u hc e1q=>?_
  clear hv
  subst e1q
  exact ⟨.str ⟨#[ch]⟩,by rw [charsV,List.getElem?_map,Array.getElem?_toList,hc];rfl,u,rfl⟩
 ·refine el3a3 (noE (dctE_of g)) fun w ks l e1q hw g1=>?_
  subst e1q
  subst hw
  refine el3a4 rv fun a o vs e1q ka e2q ra=>?_
  clear rv
  subst e1q
  obtain ⟨lo,hd,hl⟩:=e2q
  refine el2a1 hd fun ep es hx=>?_
  clear hd
  have hk:=st1.kn G ka
  have hax:s1.heap.DictAt (PySem.strKind rowP σ.w) a (ks.zip vs) es:=⟨o,ep,hk,hx⟩
  have hne:a≠s1.heap.objs.size:=Nat.ne_of_lt (Heap.lt_size hk)
  refine wpAny_pyIter_dict lo hax ?_
  have W:=Walks.dictKeys (prog:=rowP) (w:=σ.w) (A:=σ.A) (knd:=PySem.strKind rowP σ.w) rfl s1.heap.objs.size a hne (ks.zip vs) es
  have hz:(ks.zip vs).length=(ks.map SV.str).length:=by rw [List.length_zip,hl,Nat.min_self,List.length_map]
  refine for_core G hB hE (l:=ks.map .str) (KTurns.ofWalks (target:=.Name x p) (hz▸W) fun i v s Q E hst hQ=>wpAny_pure hQ) (notM ka) hI hnw ⟨⟨_,Heap.get?_push_size _ rfl,rfl,by rw [← hz];rfl⟩,hax.at' fun o e=>Heap.get?_push_of_some _ e⟩ (fun i h hst=>let ⟨o,e,_⟩:=hst.1;⟨o,e⟩) (src ka) (fun i v h hi hv=>?_) R1 r sp (push _) g1 c1
  refine el2a2 hv fun k0 y h1 h2=>?_
  clear hv
  obtain ⟨t0,rfl⟩:=Value.isStrOf_shape h2
  obtain ⟨h3,_⟩:=List.getElem?_zip_eq_some.mp h1
  exact ⟨.str k0,by rw [List.getElem?_map,h3];rfl,t0,rfl⟩
end
end
end Mine
end
section
namespace Mine
noncomputable section
noncomputable def pureOf {α:Type}(t:Sem α):Option α:=match t with
 | .pure a=>some a
 | _=>none
theorem pureOf_is {α:Type}{t:Sem α}{a:α}(h:pureOf t=some a):t=pure a:=by
 cases t with
 | pure b=>cases h;rfl
 | _=>exact noSome h
noncomputable abbrev env0 (cs:Scope):Env:=envX "" cs 0 0 .none []
noncomputable def strsEq:List Str→List Str→Bool
 | [],l=>isNil l
 | x::r,l=>List.casesOn (motive:=fun _=>Bool) l false fun y s=>strEq x y&&strsEq r s
theorem strsEq_eq {a:List Str}:∀ {b:List Str},strsEq a b=true→a=b:=by
 induction a with
 | nil=>intro b h;exact (isNil_of h).symm
 | cons x a ih =>
  intro b h
  cases b with
  | nil=>cases h
  | cons y b =>
   obtain ⟨h1,h2⟩:=iB (show (strEq x y&&strsEq a b)=true from h)
   rw [strEq_eq h1,ih h2]
noncomputable def swOk (cs:Scope)(elts:List Expr)(xs:List Str)(v:Expr):Bool:=Option.casesOn (motive:=fun _=>Bool) (tupX v) true fun vs=>optB (pureOf (swappedStores [.Tuple elts 0 default] (.Tuple vs 0 default) (env0 cs))) fun r=>Option.casesOn (motive:=fun _=>Bool) r true fun ys=>strsEq ys xs
theorem swOk_of {σ:Cx}{elts:List Expr}{xs:List Str}{v:Expr}{k:Nat}{p:Pos}(hf:plainArg v=true)(h:swOk σ.cs elts xs v=true):swappedStores [.Tuple elts k p] v σ.env=pure none∨swappedStores [.Tuple elts k p] v σ.env=pure (some xs):=by
 cases ht:tupX v with
 | none=>exact .inl ((form_ok v hf).swS ht _ _ _ _)
 | some vs =>
 refine el2a1 (tupX_is ht) fun k2 p2 e1q=>?_
 subst e1q
 have e:swappedStores [.Tuple elts k p] (.Tuple vs k2 p2) σ.env=swappedStores [.Tuple elts 0 default] (.Tuple vs 0 default) (env0 σ.cs):=rfl
 rw [e]
 refine el1a2 (optB_of (show optB (pureOf (swappedStores [.Tuple elts 0 default] (.Tuple vs 0 default) (env0 σ.cs))) _=true from h)) fun r hr h1=>?_
 rw [pureOf_is hr]
 cases r with
 | none=>exact .inl rfl
 | some ys=>exact .inr (by rw [strsEq_eq (show strsEq ys xs=true from h1)])
noncomputable def cmpX (cc:CC)(e:Expr):IE:=cmpE 30 cc e
structure SP where
 mt:List Str
 cs:Scope
 nm:List Str
noncomputable abbrev SP.cc (P:SP):CC:=fcc P.cs P.nm
noncomputable abbrev SP.ex (P:SP):Expr→IE:=cmpX P.cc
noncomputable def memS (x:Str)(l:List Str):Bool:=l.any (strEq x)
noncomputable def lstX (e:Expr):Option (List Expr):=match e with
 | .List es _=>some es
 | _=>none
theorem lstX_is {e:Expr}{es:List Expr}(h:lstX e=some es):∃ p,e=.List es p:=by
 cases e with
 | List es p=>cases h;exact ⟨p,rfl⟩
 | _=>exact noSome h
noncomputable def dctX (e:Expr):Option Unit:=match e with
 | .Dict ks vs _=>(match ks,vs with
  | [],[]=>some ()
  | _,_=>none)
 | _=>none
noncomputable def valC (b:Bool)(rec:Expr→IE)(e:Expr):IE:=Bool.casesOn (motive:=fun _=>IE) b (rec e) (orC (lstX e) (opC rec .mls) (orC (dctX e) (fun _=>.op .mdc .nil) (rec e)))
structure CmX where
 v:Expr
 x:Str
 ap:Pos
 args:List Expr
 pos:Pos
noncomputable def cmX (e:Expr):Option CmX:=match e with
 | .Call f args kws pos=>(match kws with
  | []=>(match f with
   | .Attribute v x ap=>some ⟨v,x,ap,args,pos⟩
   | _=>none)
  | _=>none)
 | _=>none
structure MR where
 f:Nat
 c:Nat
 o:IE
 as:IE
noncomputable def RM:List Str:=["put_out","group_of"]
noncomputable def rmC (rec:Expr→IE)(e:Expr):Option MR:=(cmX e).bind fun q=>Bool.casesOn (motive:=fun _=>Option MR) (memS q.x RM&&(Nat.beq (knd q.v) 4&&(Nat.beq q.ap.endLine q.pos.line&&(Nat.blt q.args.length 20&&q.args.all plainArg)))) none ((MT.find? fun z=>strEq (mn z.2.2) q.x).map fun z=>⟨z.1,z.2.2,rec q.v,argsC rec q.args⟩)
noncomputable def clX (e:Expr):Option (Str × List Expr):=match e with
 | .Call f args kws _=>(match kws with
  | []=>(nameOf f).map fun x=>(x,args)
  | _=>none)
 | _=>none
noncomputable def limX (cc:CC)(e:Expr):Bool:=optB (clX e) fun q=>strEq q.1 "LimitFault"&&(cc.isG q.1&&List.casesOn (motive:=fun _=>Bool) q.2 false fun a r=>isNil r&&optB (keyC a) fun _=>true)
noncomputable def argsZ (rec:Expr→IE):List Bool→List Expr→IE
 | _,[]=>.nil
 | fs,e::es=>.cons (valC (fs.headD false) rec e) (argsZ rec fs.tail es)
noncomputable def valT (fs:List Bool)(rec:Expr→IE)(e:Expr):IE:=orC (tupX e) (fun es=>ifC (es.all plainArg) (.op .tup (argsZ rec fs es))) (rec e)
noncomputable def ifI (c:Bool)(a:IS):IS:=Bool.casesOn (motive:=fun _=>IS) c .bad a
noncomputable def optI {α:Type}(o:Option α)(f:α→IS):IS:=Option.casesOn (motive:=fun _=>IS) o .bad f
noncomputable def orI {α:Type}(o:Option α)(f:α→IS)(d:IS):IS:=Option.casesOn (motive:=fun _=>IS) o d f
noncomputable def ixN (nm:List Str)(x:Str):Option Nat:=ixOf x (nm.map some)
noncomputable def ixsN (nm:List Str):List Str→Option (List Nat)
 | []=>some []
 | x::xs=>(ixN nm x).bind fun i=>(ixsN nm xs).map (i::·)
noncomputable def distinct:List Nat→Bool
 | []=>true
 | i::is=>is.all (fun j=>!Nat.beq i j)&&distinct is
structure LcX where
 elt:Expr
 gens:List Comprehension
 sc:Scope
 pos:Pos
noncomputable def lcX (e:Expr):Option LcX:=match e with
 | .ListComp elt gens sc pos=>some ⟨elt,gens,sc,pos⟩
 | _=>none
theorem lcX_is {e:Expr}{l:LcX}(h:lcX e=some l):e=.ListComp l.elt l.gens l.sc l.pos:=by
 cases e with
 | ListComp=>cases h;rfl
 | _=>exact noSome h
noncomputable def genOk (g:Comprehension):Bool:=plainArg g.iter&&isZ g.is_async
noncomputable def asgL (P:SP)(i:Nat)(y:Str)(py:Pos)(v:Expr)(l:LcX)(r:IS):IS:=ifI (isLocS P.cs y&&optB (pureOf (swapsWith v (some (.Name y py)) 0 (env0 P.cs))) id) (List.casesOn (motive:=fun _=>IS) l.gens .bad fun g gs=>ifI (genOk g) (List.casesOn (motive:=fun _=>IS) gs
 (orI (nameOf g.target) (fun x=>ifI (compScopeOk P.cc l.sc [x]) (List.casesOn (motive:=fun _=>IS) g.ifs (orI (rmC (cmpX (inner P.cc l.sc [x])) l.elt) (fun q=>.asgR i (P.ex g.iter) q.f q.c q.o q.as r) (.asgU i (P.ex g.iter) (cmpX (inner P.cc l.sc [x]) l.elt) r)) fun t ts=>ifI (isNil ts) (.asgT i (P.ex g.iter) (cmpX (inner P.cc l.sc [x]) t) (cmpX (inner P.cc l.sc [x]) l.elt) r)))
  (ifI (isNil g.ifs) (optI ((tupX g.target).bind namesOf) fun xs=>List.casesOn (motive:=fun _=>IS) xs .bad fun x xs=>List.casesOn (motive:=fun _=>IS) xs .bad fun y xs=>ifI (isNil xs&&(!strEq x y&&compScopeOk P.cc l.sc [x,y])) (.asgP i (P.ex g.iter) (cmpX (inner P.cc l.sc [x,y]) l.elt) r))))
 fun g2 gs=>ifI (isNil gs&&(isNil g.ifs&&(isNil g2.ifs&&genOk g2))) (optI (nameOf g.target) fun x=>optI (nameOf g2.target) fun y=>optI (nameOf l.elt) fun y1=>ifI (strEq y1 y&&compScopeOk P.cc l.sc [x,y]) (.asgW i (P.ex g.iter) (cmpX (inner P.cc l.sc [x]) g2.iter) r))))
noncomputable def attX (e:Expr):Option (Expr × Str):=match e with
 | .Attribute v x _=>some (v,x)
 | _=>none
theorem attX_is {e:Expr}{q:Expr × Str}(h:attX e=some q):∃ p,e=.Attribute q.1 q.2 p:=by
 cases e with
 | Attribute v x p=>cases h;exact ⟨p,rfl⟩
 | _=>exact noSome h
noncomputable def subX (e:Expr):Option (Expr × Expr):=match e with
 | .Subscript v x _=>some (v,x)
 | _=>none
theorem subX_is {e:Expr}{q:Expr × Expr}(h:subX e=some q):∃ p,e=.Subscript q.1 q.2 p:=by
 cases e with
 | Subscript v x p=>cases h;exact ⟨p,rfl⟩
 | _=>exact noSome h
noncomputable def namX (e:Expr):Option (Str × Pos):=match e with
 | .Name x p=>some (x,p)
 | _=>none
theorem namX_is {e:Expr}{q:Str × Pos}(h:namX e=some q):e=.Name q.1 q.2:=by
 cases e with
 | Name x p=>cases h;rfl
 | _=>exact noSome h
noncomputable def asgC (P:SP)(t v:Expr)(r:IS):IS:=ifI (plainArg v) (orI (namX t) (fun q=>optI (ixN P.nm q.1) fun i=>orI (lcX v) (fun l=>asgL P i q.1 q.2 v l r) (ifI (!Nat.beq (knd v) 1) (orI (rmC P.ex v) (fun q=>.mtR (some i) q.f q.c q.o q.as r) (.asg i (valC (memS q.1 P.mt) P.ex v) r))))
 (orI (tupX t) (fun es=>optI (namesOf es) fun xs=>optI (ixsN P.nm xs) fun is=>ifI (distinct is&&swOk P.cs es xs v) (.unp is (valT (xs.map (memS · P.mt)) P.ex v) r))
  (orI (attX t) (fun q=>optI (ATN.findIdx? (strEq q.2)) fun c=>.sAttr c (P.ex q.1) (valC true P.ex v) r)
   (optI (subX t) fun q=>ifI (plainArg q.2) (.sItem (P.ex q.1) (P.ex q.2) (P.ex v) r)))))
noncomputable def asgX (s:Stmt):Option (Str × Expr):=match s with
 | .Assign ts v _=>(match ts with
  | [t]=>(nameOf t).map fun x=>(x,v)
  | _=>none)
 | _=>none
noncomputable def stmC (P:SP)(blk:List Stmt→IS)(s:Stmt)(r:IS):IS:=match s with
 | .Assign ts v _=>List.casesOn (motive:=fun _=>IS) ts .bad fun t ts=>ifI (isNil ts) (asgC P t v r)
 | .AugAssign t op v _=>(match op with
  | .Add=>optI (attX t) fun q=>optI (ATN.findIdx? (strEq q.2)) fun c=>.aAttr c (P.ex q.1) (P.ex v) r
  | _=>.bad)
 | .Return v _=>Option.casesOn (motive:=fun _=>IS) v .retN fun v=>orI (rmC P.ex v) (fun q=>.mtR none q.f q.c q.o q.as .nil) (.ret (valC (memS "return" P.mt) P.ex v))
 | .Raise e c _=>Option.casesOn (motive:=fun _=>IS) c (optI e fun e=>ifI (limX P.cc e) .rse) fun _=>.bad
 | .Try b hs oe fb _=>ifI (isNil oe&&(isNil fb&&!isNil hs)) (List.casesOn (motive:=fun _=>IS) b .bad fun s b=>ifI (isNil b) (optI (asgX s) fun q=>ifI (plainArg q.2&&!Nat.beq (knd q.2) 1) (optI (ixN P.nm q.1) fun i=>.asg i (P.ex q.2) r)))
 | .Expr v _=>ifI (plainArg v&&!Nat.beq (knd v) 1) (.exp (P.ex v) r)
 | .If t a b _=>.ifS (P.ex t) (blk a) (blk b) r
 | .While t a b _=>ifI (isNil b) (.whl (P.ex t) (blk a) r)
 | .For tg it a b _=>ifI (isNil b&&plainArg it) (orI (nameOf tg) (fun x=>optI (ixN P.nm x) fun i=>.forS [i] true (P.ex it) (blk a) r)
  (optI ((tupX tg).bind namesOf) fun xs=>optI (ixsN P.nm xs) fun is=>.forS is false (P.ex it) (blk a) r))
 | _=>.bad
noncomputable def cmpS (P:SP):Nat→List Stmt→IS
 | 0=>fun _=>.bad
 | n+1=>fun b=>List.casesOn (motive:=fun _=>IS) b .nil fun s b=>stmC P (cmpS P n) s (cmpS P n b)
end
end Mine
end
section
namespace Mine
noncomputable section
section
variable {σ:Cx}{kk:Nat}{nm:List Str}{m:Mp}{cz hid fx:Ld}{led led':MLd}{s:Shared}{sl:Sl}
theorem ixN_get {x:Str}{i:Nat}(h:ixN nm x=some i):nm[i]? = some x:=by
 have h1:=ixOf_get h
 rw [List.getElem?_map] at h1
 refine el1a2 (iO h1) fun y h2 h3=>?_
 cases h3;exact h2
theorem ixsN_cons {x:Str}{xs:List Str}{is:List Nat}(h:ixsN nm (x::xs)=some is):∃ i js,is=i::js∧nm[i]? = some x∧ixsN nm xs=some js:=by
 refine el1a2 (iD h) fun i h1 h2=>?_
 refine el1a2 (iO h2) fun js h3 h4=>?_
 exact ⟨i,js,h4.symm,ixN_get h1,h3⟩
theorem ixsN_len {xs:List Str}:∀ {is:List Nat},ixsN nm xs=some is→is.length=xs.length:=by
 induction xs with
 | nil=>intro is h;cases h;rfl
 | cons x xs ih =>
  intro is h
  refine el2a3 (ixsN_cons h) fun i js e1q _ h3=>?_
  subst e1q
  exact congrArg Nat.succ (ih h3)
theorem elts_len {env:Env}{elts:List Expr}:∀ {xs:List Str},namesOf elts=some xs→(assignEach elts env).length=xs.length∧(assignEach elts env).findIdx? (·.1)=none:=by
 induction elts with
 | nil=>intro xs h;cases h;exact ⟨rfl,rfl⟩
 | cons e r ih =>
  intro xs h
  refine el3a3 (names_cons h) fun x p ys e1q h2 e2q=>?_
  subst e1q
  subst e2q
  have:=ih h2
  refine ⟨congrArg (·+1) this.1,?_⟩
  show List.findIdx? (·.1) ((false,_)::assignEach r env)=none
  rw [List.findIdx?_cons,this.2]
  rfl
theorem stores_sound (G:Good σ kk)(O:NmOk σ nm){Q:Unit→Shared→Prop}{E:Value→Shared→Prop}{elts:List Expr}:∀ {xs:List Str} {is:List Nat} {l:List SV} {vs:List Value} {m:Mp} {cz:Ld} {sl:Sl} {s:Shared},namesOf elts=some xs→ixsN nm xs=some is→VRs (Kn σ hid) l vs→l.length=is.length →
  RelS σ nm m cz hid sl→SS σ m (fx++cz) hid led s→(∀ m' cz' s',RelS σ nm m' cz' hid (setsS sl is l)→SS σ m' (fx++cz') hid led s'→Q () s')→wpAny (model rowP σ.w) σ.A (assignInOrder ((assignEach elts σ.env).map (·.2)) vs) Q E s:=by
 induction elts with
 | nil =>
  intro xs is l vs m cz sl s hn ha hv hl R st c
  cases hn
  cases ha
  cases iN hl
  cases (show vs=[] from hv)
  exact assignInOrder_nil (c _ _ _ R st)
 | cons e r ih =>
  intro xs is l vs m cz sl s hn ha hv hl R st c
  refine el3a3 (names_cons hn) fun x p ys e1q h2 e2q=>?_
  subst e1q
  subst e2q
  refine el2a3 (ixsN_cons ha) fun i js e1q h3 h4=>?_
  subst e1q
  cases l with
  | nil=>cases hl
  | cons y l =>
   refine el2a3 hv fun v w e1q rv rw'=>?_
   clear hv
   subst e1q
   exact assignInOrder_cons (assign_Name (store_sound G O h3 R st rv fun m1 cz1 s1 R1 st1=>ih h2 h4 rw' (Nat.succ.inj hl) R1 st1 c))
theorem setS_comm {a b:SV}{sl:Sl}:∀ {i j:Nat},i≠j→setS (setS sl i a) j b=setS (setS sl j b) i a:=by
 induction sl with
 | nil=>exact fun _=>rfl
 | cons x l ih =>
  intro i j h
  cases i with
  | zero=>cases j with
   | zero=>exact absurd rfl h
   | succ j=>rfl
  | succ i=>cases j with
   | zero=>rfl
   | succ j=>exact congrArg (x::·) (ih fun e=>h (congrArg Nat.succ e))
theorem setS_sets {i:Nat}{v:SV}{is:List Nat}:∀ {sl:Sl} {l:List SV},(∀ j∈is,i≠j)→setS (setsS sl is l) i v=setsS (setS sl i v) is l:=by
 induction is with
 | nil=>exact fun _=>rfl
 | cons j is ih =>
  intro sl l h
  cases l with
  | nil=>rfl
  | cons w l =>
   show setS (setsS (setS sl j w) is l) i v=setsS (setS (setS sl i v) j w) is l
   rw [ih fun k hk=>h k (.tail _ hk),setS_comm (h j (.head _)).symm]
theorem setsS_snoc {i:Nat}{v:SV}{is:List Nat}:∀ {sl:Sl} {l:List SV},l.length=is.length→setsS sl (is++[i]) (l++[v])=setS (setsS sl is l) i v:=by
 induction is with
 | nil=>intro sl l h;cases iN h;rfl
 | cons j is ih =>
  intro sl l h
  cases l with
  | nil=>cases h
  | cons w l=>exact ih (Nat.succ.inj h)
theorem setsS_rev {is:List Nat}:∀ {sl:Sl} {l:List SV},distinct is=true→l.length=is.length→setsS sl is.reverse l.reverse=setsS sl is l:=by
 induction is with
 | nil=>intro sl l _ h;cases iN h;rfl
 | cons j is ih =>
  intro sl l hd h
  cases l with
  | nil=>cases h
  | cons w l =>
   obtain ⟨h1,h2⟩:=iB (show (is.all (fun k=>!Nat.beq j k)&&distinct is)=true from hd)
   rw [List.reverse_cons,List.reverse_cons,setsS_snoc (by rw [List.length_reverse,List.length_reverse];exact Nat.succ.inj h),ih h2 (Nat.succ.inj h)]
   exact setS_sets fun k hk e=>by
    have:=iT h1 k hk
    rw [e,Nat.beq_refl] at this
    cases this
theorem ixsN_app {xs ys:List Str}:∀ {is js:List Nat},ixsN nm xs=some is→ixsN nm ys=some js→ixsN nm (xs++ys)=some (is++js):=by
 induction xs with
 | nil=>intro is js h h2;cases h;exact h2
 | cons x xs ih =>
  intro is js h h2
  refine el1a2 (iD h) fun i h3 h4=>?_
  refine el1a2 (iO h4) fun k h5 e1q=>?_
  subst e1q
  show (ixN nm x).bind _=_
  rw [h3]
  show (ixsN nm (xs++ys)).map (i::·)=_
  rw [ih h5 h2]
  rfl
theorem ixsN_rev {xs:List Str}:∀ {is:List Nat},ixsN nm xs=some is→ixsN nm xs.reverse=some is.reverse:=by
 induction xs with
 | nil=>intro is h;cases h;rfl
 | cons x xs ih =>
  intro is h
  refine el1a2 (iD h) fun i h3 h4=>?_
  refine el1a2 (iO h4) fun k h5 e1q=>?_
  subst e1q
  rw [List.reverse_cons,List.reverse_cons]
  exact ixsN_app (ih h5) (by show (ixN nm x).bind _=_;rw [h3];rfl)
theorem VRs.rev {K:KA}{l:List SV}:∀ {vs:List Value},VRs K l vs→VRs K l.reverse vs.reverse:=by
 induction l with
 | nil=>intro vs h;rw [show vs=[] from h];rfl
 | cons x l ih =>
  intro _ hqq
  refine el2a3 hqq fun v r e1q a b=>?_
  clear hqq
  subst e1q
  rw [List.reverse_cons,List.reverse_cons]
  exact (ih b).snoc a
theorem binds_sound (G:Good σ kk)(O:NmOk σ nm){Q:Unit→Shared→Prop}{E:Value→Shared→Prop}{xs:List Str}:∀ {is:List Nat} {l:List SV} {vs:List Value} {m:Mp} {cz:Ld} {sl:Sl} {s:Shared},ixsN nm xs=some is→VRs (Kn σ hid) l vs→l.length=is.length →
  RelS σ nm m cz hid sl→SS σ m (fx++cz) hid led s→(∀ m' cz' s',RelS σ nm m' cz' hid (setsS sl is l)→SS σ m' (fx++cz') hid led s'→Q () s')→wpAny (model rowP σ.w) σ.A (assignInOrder (xs.map fun n=>bindName σ.env n) vs) Q E s:=by
 induction xs with
 | nil =>
  intro is l vs m cz sl s ha hv hl R st c
  cases ha
  cases iN hl
  cases (show vs=[] from hv)
  exact assignInOrder_nil (c _ _ _ R st)
 | cons x xs ih =>
  intro is l vs m cz sl s ha hv hl R st c
  refine el2a3 (ixsN_cons ha) fun i js e1q h3 h4=>?_
  subst e1q
  cases l with
  | nil=>cases hl
  | cons y l =>
   refine el2a3 hv fun v w e1q rv rw'=>?_
   clear hv
   subst e1q
   exact assignInOrder_cons (bindName_ (store_sound G O h3 R st rv fun m1 cz1 s1 R1 st1=>ih h4 rw' (Nat.succ.inj hl) R1 st1 c))
noncomputable abbrev Fin1 (σ:Cx)(nm:List Str)(fx hid:Ld)(K:Sl→MLd→Prop)(Q:Flow→Shared→Prop):Prop:=∀ sl' led' cz' hid' m' s',K sl' led'→RelS σ nm m' cz' hid' sl'→(∀ q∈hid,q∈hid')→SS σ m' (fx++cz') hid' led' s'→Q .next s'
theorem unpack_sound (G:Good σ kk)(O:NmOk σ nm){elts:List Expr}{k:Nat}{p pos:Pos}{v:Expr}{xs:List Str}{is:List Nat}{K:Sl→MLd→Prop}{Q:Flow→Shared→Prop}{E:Value→Shared→Prop}
  (hn:namesOf elts=some xs) (ha:ixsN nm xs=some is) (hd:distinct is=true) (hf:plainArg v=true) (hw:swOk σ.cs elts xs v=true) (hv:XE σ σ.env m (fx++cz) hid led v fun r led1=>seqK led1 r fun l=>condK (Nat.beq l.length is.length) ((setsK sl is l fun sl=>K sl led1)))
  (R:RelS σ nm m cz hid sl) (st:SS σ m (fx++cz) hid led s) (c:Fin1 σ nm fx hid K Q) :
  wpAny (model rowP σ.w) σ.A (exec (.Assign [.Tuple elts k p] v pos) σ.env) Q E s:=by
 have hlen:=ixsN_len ha
 obtain ⟨g1,g2⟩:=elts_len (env:=σ.env) hn
 have sw:swapsWithSole [.Tuple elts k p] v pos.line σ.env=pure false:=(form_ok v hf).swT (.Tuple elts k p) pos.line σ.env fun _ _ e=>Expr.noConfusion e
 rcases swOk_of (σ:=σ) (k:=k) (p:=p) hf hw with e | e
 ·refine Assign_Tuple (hv s _ _ st fun r u led1 hid1 s1 g rv u1 st1=>?_) sw e
  have R1:=R.mono u1
  refine el1a2 st1.same fun n S nx=>?_
  have fin:∀ {l:List SV} {vs:List Value},VRs (Kn σ hid1) l vs→Nat.beq l.length is.length=true→(setsK sl is l fun sl=>K sl led1)→∀ h',Fr σ.g σ.L h' m→News σ.g σ.L h' n→wpAny (model rowP σ.w) σ.A (assignInOrder ((assignEach elts σ.env).map (·.2)) vs) (fun _=>Q .next) E { s1 with heap:=h' } :=
   fun ra hb hk h' F' N'=>stores_sound G O hn ha ra (Nat.eq_of_beq_eq_true hb) R1 (nx h' _ F' N') fun m' cz' s' R' st'=>c _ _ _ _ _ _ (setsK_of hk) R' u1 st'
  have sz:∀ {l:List SV} {vs:List Value},VRs (Kn σ hid1) l vs→Nat.beq l.length is.length=true→(assignEach elts σ.env).length=vs.toArray.size:=fun ra hb=>by
   rw [g1,← hlen,List.size_toArray,VRs.length ra,Nat.eq_of_beq_eq_true hb]
  rcases seqK_of g with ⟨l,rfl,g⟩ | ⟨l,hl,g⟩
  ·refine el3a4 rv fun a o vs e1q ka ia ra=>?_
   clear rv
   subst e1q
   exact unpackN_ S.F S.N (st1.isT G ka ia) rfl (sz ra (condK_of g).1) g2 (fin ra (condK_of g).1 (condK_of g).2)
  ·refine el2a3 (seqOf G st1 hl rv) fun a vs e1q ra L=>?_
   subst e1q
   exact kun_list S.F S.N L rfl (sz ra (condK_of g).1) g2 (fin ra (condK_of g).1 (condK_of g).2)
 ·refine Assign_Tuple_swapped (hv s _ _ st fun r u led1 hid1 s1 g rv u1 st1=>?_) sw e
  have R1:=R.mono u1
  refine el1a2 st1.same fun n S nx=>?_
  have fin:∀ {l:List SV} {vs:List Value},VRs (Kn σ hid1) l vs→Nat.beq l.length is.length=true→(setsK sl is l fun sl=>K sl led1)→∀ h',Fr σ.g σ.L h' m→News σ.g σ.L h' n→wpAny (model rowP σ.w) σ.A (assignInOrder (xs.reverse.map fun n=>bindName σ.env n) vs.reverse) (fun _=>Q .next) E { s1 with heap:=h' }:=fun ra hb hk h' F' N'=>by
   have hb':=Nat.eq_of_beq_eq_true hb
   exact binds_sound G O (ixsN_rev ha) ra.rev (by rw [List.length_reverse,List.length_reverse];exact hb') R1 (nx h' _ F' N') fun m' cz' s' R' st'=>c _ _ _ _ _ _ (setsK_of hk) (setsS_rev hd hb'▸R') u1 st'
  have sz:∀ {l:List SV} {vs:List Value},VRs (Kn σ hid1) l vs→Nat.beq l.length is.length=true→xs.length=vs.toArray.size:=fun ra hb=>by
   rw [← hlen,List.size_toArray,VRs.length ra,Nat.eq_of_beq_eq_true hb]
  rcases seqK_of g with ⟨l,rfl,g⟩ | ⟨l,hl,g⟩
  ·refine el3a4 rv fun a o vs e1q ka ia ra=>?_
   clear rv
   subst e1q
   exact unpackItemsN_ S.F S.N (st1.isT G ka ia) rfl (sz ra (condK_of g).1) (fin ra (condK_of g).1 (condK_of g).2)
  ·refine el2a3 (seqOf G st1 hl rv) fun a vs e1q ra L=>?_
   subst e1q
   exact kun_items S.F S.N L rfl (sz ra (condK_of g).1) (fin ra (condK_of g).1 (condK_of g).2)
end
end
end Mine
end
section
namespace Mine
section
variable {M:Model}{A:Around}{E:Value→Shared→Prop}{s:Shared}{base H H₂ g:Heap}{env:Env}{outer:List Env}{L e:Addr}{fl:Value}{Q:Unit→Shared→Prop}
theorem mem_frames {b:Addr}(hf:env.frame=some L)(hm:b∈(env::outer).filterMap (·.frame)):b=L∨b∈outer.filterMap (·.frame):=by
 refine el1a2 (List.mem_filterMap.mp hm) fun env' he hf'=>?_
 rcases iC he with rfl | he
 ·rw [hf] at hf';exact .inl (Option.some.inj hf').symm
 ·exact .inr (List.mem_filterMap.mpr ⟨env',he,hf'⟩)
theorem RZf.less {h':Heap}(R:RZf fl base outer H₂ e h')(hH:∀ b o,H.get? b=some o→H₂.get? b=some o):RZf fl base outer H e h':=by
 refine el3a6 R fun B t vs hB hBG hfl hnew ht hsm=>?_
 clear R
 exact ⟨B,t,vs,hB,fun b o q nm=>hBG b o (hH b o q) nm,hfl,hnew,ht,fun b o q hd=>hsm b o (hH b o q) hd⟩
theorem setFlight_any {B:Heap}{l:List Env}{cls a0:Value}(f1:B.StaysIn s.heap)(f2:B.get? e=none)(f3:s.heap.FunFrames B l)(f4:s.heap.TracedAtW B e cls a0 fl)
  (hQ:∀ h',Heap.FlyingW B l e cls a0 h'→s.heap.UpToSlots h'→Q () { s with heap:=h' }):wpAny M A (setFlight (.ref e) none) Q E s :=
 wpAny_setFlight_noneW f1 f3 f4 fun h' k1 k2 k3 k4=>hQ h' ⟨k1,f2,k2,k3⟩ fun b o hb hn=>⟨o.slots,k4 b o hb hn⟩
theorem leaving_any {B:Heap}{cls a0:Value}(hfr:A.frames=some (env::outer))(hf:env.frame=some L)(f1:B.StaysIn s.heap)(f2:B.get? e=none)(f3:s.heap.FunFrames B (env::outer))(f4:s.heap.TracedAtW B e cls a0 fl)
  (hQ:∀ h',Heap.FlyingW B outer e cls a0 h'→s.heap.UpToSlots h'→Q () { s with heap:=h' }):wpAny M A (leaving env (.ref e)) Q E s:=by
 refine el5a9 (id f4) fun oe vs T oT ts he e1q hd h1 hnT hTe hT hdT h3=>?_
 obtain ⟨hcls,h0⟩:=e1q
 by_cases hfl:(fl==rawInt L)=true
 ·have hfl':fl=rawInt L:=by simpa using hfl
  subst hfl'
  unfold leaving
  refine wpAny_bind (wpAny_noteFrame_againW hf f4 ?_)
  refine setFlight_any f1 f2 f3 f4 fun h' k u=>?_
  refine el0a4 k fun k1 k2 e1q k4=>?_
  clear k
  refine el0a3 e1q fun _ _ k3=>?_
  clear e1q
  exact hQ h' ⟨k1,k2,k3,k4⟩ u
 ·subst hcls
  unfold leaving noteFrame
  simp only [hf]
  refine wpAny_bind (wpAny_bind (wpAny_field he hd h1 ?_))
  rw [if_pos (show (Value.ref T != Value.none)=true from by simp)]
  refine wpAny_bind (wpAny_field hT hdT h3 ?_)
  rw [if_neg hfl]
  refine wpAny_bind (wpAny_setField hT hdT (Array.getElem?_eq_some_iff.mp h3).1 ?_)
  have other:∀ b,b≠T→(s.heap.update T (Obj.mapFields (·.setIfInBounds 3 Value.none))).get? b=s.heap.get? b:=fun b hb=>Heap.get?_update_other _ _ (Ne.symm hb)
  have noRecord:∀ b o,s.heap.get? b=some o→(∀ vs,o.data≠.fields vs)→b≠T:=fun b o hb hnf q=>by
   rw [q,hT] at hb;injection hb with hb;subst hb;exact hnf ts hdT
  refine wpAny_newEntryW hfr (f3.of_keeps fun b o hb hnf=>⟨o,(other b (noRecord b o hb hnf)).trans hb,rfl⟩) hf ((other e (Ne.symm hTe)).trans he)
   (fun b o hbo=>(other b fun q=>by rw [q,hnT] at hbo;cases hbo).trans (f1 b o hbo)) f2 hd (Array.getElem?_eq_some_iff.mp h1).1 h0 fun h' ⟨x1,⟨_,_,x2⟩,x3,x4⟩=>?_
  exact hQ h' ⟨x1,f2,x2,x3⟩ fun b o hb hnf=>x4 b o ((other b (noRecord b o hb hnf)).trans hb) hnf
theorem leaveZ (hfr:A.frames=some (env::outer))(hf:env.frame=some L)(R:RZf fl base (env::outer) H e s.heap)(hL:H.get? L=none)
  (hQ:∀ h',RZ base outer H e h'→Q () { s with heap:=h' }):wpAny M A (leaving env (.ref e)) Q E s:=by
 refine el3a6 R fun B t vs hB hBG e1q hnew ht hsm=>?_
 clear R
 refine el0a4 e1q fun f1 f2 f3 f4=>?_
 clear e1q
 refine leaving_any hfr hf f1 f2 f3 f4 fun h' k u=>?_
 refine hQ h' ⟨B,t,vs,hB,fun b o q nm=>hBG b o q fun hm=>?_,k,hnew,ht.of_slots u,hsm.trans u⟩
 rcases mem_frames hf hm with rfl | hm
 ·rw [hL] at q;cases q
 ·exact nm hm
theorem ff_push {h:Heap}{m:Str→Option Value}(K:Below A base outer g)(F:Fr g L h m)(hf:env.frame=some L)(hk:env.scope.kind=.function):h.FunFrames base (env::outer):=by
 refine el3a3 F.ns fun oL es ep hL hd _=>?_
 refine ⟨by rw [hk];decide,⟨L,oL,hf,?_,hL,fun vs q=>by rw [hd] at q;cases q⟩,K.frames.of_keeps fun b o e _=>⟨o,F.keep _ _ e,rfl⟩⟩
 cases q:base.get? L with
 | none=>rfl
 | some o=>have:=K.stays _ _ q;rw [kts_self F] at this;cases this
theorem raiseZ {m:Str→Option Value}{news:List (Addr × Obj)}{eo:Obj}{t:Addr}{vs:List Value}(K:Below A₀ base outer g)(hfr:A.frames=some (env::outer))(hf:env.frame=some L)(hk:env.scope.kind=.function)(F:Fr g L s.heap m)(N:News g L s.heap news)
  (he:(e,eo)∈news) (hec:eo.cls=.ref 94) (hed:eo.data=.fields #[.ref t,.none,.none,.none,.bool false,.none]) (ht:(t,tupOf vs)∈news)
  (hQ:∀ h',RZ base outer g e h'→Q () { s with heap:=h' }):wpAny M A (leaving env (.ref e)) Q E s:=by
 have ff:=ff_push (env:=env) K F hf hk
 have hin:∀ env'∈(env::outer),∀ b,env'.frame=some b→b∈(env::outer).filterMap (·.frame)++[e,t]:=fun env' he' b hb=>iL (List.mem_filterMap.mpr ⟨env',he',hb⟩)
 have Ne:=N _ he
 have Nt:=N _ ht
 have fr:∀ b,g.get? b=none→base.get? b=none:=fun b q=>by
  cases q':base.get? b with
  | none=>rfl
  | some o=>have:=K.stays _ _ q';rw [q] at this;cases this
 have bf:∀ b o,base.get? b=some o→b ∉ (env::outer).filterMap (·.frame)++[e,t]:=fun b o q hm=>by
  rcases iA hm with hm | hm
  ·rw [(ff.mem hm).1] at q;cases q
  ·simp only [List.mem_cons,List.not_mem_nil,or_false] at hm
   rcases hm with rfl | rfl
   ·rw [fr _ Ne.2.2] at q;cases q
   ·rw [fr _ Nt.2.2] at q;cases q
 refine wpAny_leaving_firstW (base:=hideAll s.heap ((env::outer).filterMap (·.frame)++[e,t])) (a0:=.ref t) hfr (funFrames_hide ff hin) hf Ne.1 (fun b o q=>of_hideAll _ q)
  (hideAll_none _ (iR (.head _))) hed rfl rfl fun h' ⟨x1,⟨_,_,x2⟩,x3,x4⟩=>?_
 rw [hec] at x3
 refine hQ h' ⟨_,t,vs,fun b o q=>hideAll_get _ (F.keep _ _ (K.stays _ _ q)) (bf b o q),fun b o q nm=>hideAll_get _ (F.keep _ _ q) fun hm=>?_,⟨x1,hideAll_none _ (iR (.head _)),x2,x3⟩,hideAll_none _ (iR (.tail _ (.head _))),Heap.TupAt.of_slots ⟨_,_,Nt.1,rfl,rfl⟩ x4,fun b o q hd=>x4 b o (F.keep _ _ q) hd⟩
 rcases iA hm with hm | hm
 ·rcases mem_frames hf hm with rfl | hm
  ·rw [kts_self F] at q;cases q
  ·exact nm hm
 ·simp only [List.mem_cons,List.not_mem_nil,or_false] at hm
  rcases hm with rfl | rfl
  ·rw [Ne.2.2] at q;cases q
  ·rw [Nt.2.2] at q;cases q
end
theorem hide_sub {h g:Heap}{l:List Addr}(GS:GSub h g l):∀ b o,(hideAll h l).get? b=some o→g.get? b=some o:=fun b o q=>GS b o (of_hideAll _ q) fun hm=>by rw [hideAll_none _ hm] at q;cases q
theorem SS.split {σ:Cx}{m:Mp}{cz hid:Ld}{led:MLd}{s:Shared}{C:Shared→Prop}(h:SS σ m cz hid led s)(k:∀ h' tk ledc,RelL (Kn σ hid) led ledc→Sep ledc cz hid→Fr σ.g σ.L h' m→News σ.g σ.L h' (ledc++(cz++hid))→C ⟨h',σ.gs,σ.dr,tk,σ.os⟩):C s:=by
 obtain ⟨ledc,r,x,F,N,e1,e2,e3⟩:=h.ex
 cases s
 cases e1;cases e2;cases e3
 exact k _ _ ledc r x F N
end Mine
end
section
namespace Mine
section
variable {M:Model}{A:Around}{E E₂:Value→Shared→Prop}{s:Shared}{base H H₂ g:Heap}{env cenv:Env}{outer:List Env}{L e C:Addr}{fl:Value}
theorem setFlight_to {B:Heap}{l:List Env}{cls a0:Value}{fr:Option Addr}{Q:Unit→Shared→Prop}(hkb:B.StaysIn s.heap)(hl:s.heap.FunFrames B l)(ht:s.heap.TracedAtW B e cls a0 fl)
  (h:∀ h' fl',B.StaysIn h'→h'.FunFrames B l→h'.TracedAtW B e cls a0 fl'→(∀ b o,s.heap.get? b=some o→(∀ vs,o.data≠.fields vs)→h'.get? b=some o)→Q () { s with heap:=h' }) :
  wpAny M A (setFlight (.ref e) fr) Q E s:=by
 refine el5a9 ht fun oe vs T oT ts he hcls hd h1 hnT hTe hT hdT h3=>?_
 clear ht
 have hsz3:3 < ts.size:=(Array.getElem?_eq_some_iff.mp h3).1
 unfold setFlight
 refine wpAny_bind (wpAny_field he hd h1 ?_)
 rw [if_pos (show (Value.ref T != Value.none)=true from by simp)]
 have other:∀ b,b≠T→(s.heap.update T (Obj.mapFields (·.setIfInBounds 3 (fr.elim Value.none fun f=>rawInt f)))).get? b=s.heap.get? b:=fun b hb=>Heap.get?_update_other _ _ (Ne.symm hb)
 have noRecord:∀ b o,s.heap.get? b=some o→(∀ vs,o.data≠.fields vs)→b≠T:=fun b o hb hnf q=>by
  rw [q,hT] at hb;injection hb with hb;subst hb;exact hnf ts hdT
 refine wpAny_setField hT hdT hsz3 (h _ (fr.elim Value.none fun f=>rawInt f) (fun b o hbo=>(other b fun q=>by rw [q,hnT] at hbo;cases hbo).trans (hkb b o hbo))
  (hl.of_keeps fun b o hb hnf=>⟨o,(other b (noRecord b o hb hnf)).trans hb,rfl⟩) ?_ fun b o hb hnf=>(other b (noRecord b o hb hnf)).trans hb)
 exact ⟨oe,vs,T,_,_,(other e (Ne.symm hTe)).trans he,hcls,hd,h1,hnT,hTe,Heap.get?_update_self _ hT (Obj.isFreed_of_fields (Obj.data_mapFields hdT _)),Obj.data_mapFields hdT _,by simp [hsz3]⟩
theorem ff_but {h h':Heap}{B:Heap}:∀ {l:List Env},h.FunFrames B l→C ∉ l.filterMap (·.frame)→(∀ b,b≠C→h'.get? b=h.get? b)→h'.FunFrames (hideAll B [C]) l
 | [],_,_,_=>trivial
 | env::r,⟨hk,⟨L,o,hf,hn,ho,hd⟩,hr⟩,hC,k=>by
  have hne:L≠C:=by rintro rfl;exact hC (List.mem_filterMap.mpr ⟨env,.head _,hf⟩)
  refine ⟨hk,⟨L,o,hf,?_,(k L hne).trans ho,hd⟩,ff_but hr (fun hm=>hC ?_) k⟩
  ·cases q:(hideAll B [C]).get? L with
   | none=>rfl
   | some o'=>have:=of_hideAll _ q;rw [hn] at this;cases this
  ·refine el1a2 (List.mem_filterMap.mp hm) fun env' he hf'=>?_
   exact List.mem_filterMap.mpr ⟨env',.tail _ he,hf'⟩
theorem compZ {acc:Value}{use:Option (Value→Sem Unit)}{Q:Value→Shared→Prop}{oC:Obj}{mC:Str→Option Value}(hfr:A.frames=some (env::outer))(hf:env.frame=some L)(hcf:cenv.frame=some L)(R:RZ base (env::outer) g e s.heap)
  (hC:s.heap.get? C=some oC) (hn:LCg.NsObj oC mC) (hCl:C ∉ (env::outer).filterMap (·.frame)) (hCg:g.get? C=none) (hCb:base.get? C=none)
  (hE:∀ h' fl,RZf fl base (env::outer) g e h'→E (.ref e) { s with heap:=h' }) :
  notedBy M A cenv (fun e s'=>compPost M A E use Q acc C (.error e) s') (.ref e) s:=by
 refine el3a6 R fun B t vs hB hBG hfl hnew ht hsm=>?_
 clear R
 show wpAny M A (noteFrame (.ref e) cenv) _ _ s
 have ec:noteFrame (.ref e) cenv=noteFrame (.ref e) env:=by
  unfold noteFrame PySem.frameOf
  rw [hf,hcf]
 rw [ec]
 refine wpAny_looks_onW hfr hf hfl fun h₁ hh u₁=>?_
 refine el2a3 hn fun es ep hd hk hnf=>?_
 clear hn
 obtain ⟨sl,hC₁⟩:=u₁ C oC hC fun vs q=>by rw [hd] at q;cases q
 refine ⟨mC,⟨_,es,ep,hC₁,hd,hk,hnf⟩,fun h' hs cenv' _=>?_⟩
 refine el0a4 hh fun f1 f2 f3 eRq=>?_
 clear hh
 refine el5a9 eRq fun oe vs' T oT ts he hcls hde h1 hnT hTe hT hdT h3=>?_
 clear eRq
 have oth:∀ b,b≠C→h'.get? b=h₁.get? b:=fun b hb=>hs.2 b hb
 have eC:e≠C:=by rintro rfl;rw [hC₁] at he;cases he;rw [hd] at hde;cases hde
 have TC:T≠C:=by rintro rfl;rw [hC₁] at hT;cases hT;rw [hd] at hdT;cases hdT
 have tC:t≠C:=by
  rintro rfl
  refine el2a3 ht fun o n ho hc hdt=>?_
  clear ht
  rw [hC] at ho;cases ho;rw [hd] at hdt;cases hdt
 have hidn:∀ b,B.get? b=none→(hideAll B [C]).get? b=none:=fun b q=>by
  cases q':(hideAll B [C]).get? b with
  | none=>rfl
  | some o'=>have:=of_hideAll _ q';rw [q] at this;cases this
 have k1:(hideAll B [C]).StaysIn h':=fun b o q=>by
  have hb:b≠C:=by rintro rfl;rw [hideAll_none _ (.head _)] at q;cases q
  exact (oth b hb).trans (f1 b o (of_hideAll _ q))
 have tr:h'.TracedAtW (hideAll B [C]) e (.ref 94) (.ref t) (rawInt L):=⟨oe,vs',T,oT,ts,(oth e eC).trans he,hcls,hde,h1,hidn T hnT,hTe,(oth T TC).trans hT,hdT,h3⟩
 unfold PySem.passOn
 refine wpAny_bind (wpAny_field ((oth e eC).trans he) hde h1 ?_)
 rw [if_neg (show ¬ (Value.ref T==Value.none)=true from by simp)]
 refine wpAny_bind (setFlight_to k1 (ff_but f3 hCl oth) tr fun h'' fl' k2 k3 k4 k5=>?_)
 refine wpAny_throw (hE h'' fl' ⟨hideAll B [C],t,vs,fun b o q=>hideAll_get _ (hB b o q) (fun hm=>?_),fun b o q nm=>hideAll_get _ (hBG b o q nm) (fun hm=>?_),⟨k2,hidn _ f2,k3,k4⟩,hidn _ hnew,?_,fun b o q hdn=>?_⟩)
 ·rw [iS hm,hCb] at q;cases q
 ·rw [iS hm,hCg] at q;cases q
 ·refine el2a3 (ht.of_slots u₁) fun o n ho hc hdt=>?_
  exact ⟨o,n,k5 t o ((oth t tC).trans ho) (fun vs q=>by rw [hdt] at q;cases q),hc,hdt⟩
 ·obtain ⟨sl,q1⟩:=(hsm.trans u₁) b o q hdn
  have hb:b≠C:=by rintro rfl;rw [hCg] at q;cases q
  exact ⟨sl,k5 b _ ((oth b hb).trans q1) hdn⟩
end
end Mine
end
section
namespace Mine
noncomputable def Comp1 (xc:Prop)(prog:Program)(w:World)(A:Around)(base h₀:Heap)(L:Addr)(m:Str→Option Value)(env:Env)(outer:List Env)(elt:Expr)(x y:Str)(scope:Scope)(cl:List (Str × Addr))(Q:Flow→Shared→Prop)(xv:Value)(s₁:Shared):Prop :=
 ∃ ax v news,xv=.ref ax∧A.handled=none∧Fr h₀ L s₁.heap m∧News h₀ L s₁.heap news∧LCg.SrcAt h₀ ax #[v] news ∧
  ∀ I oI C oC D m₂ h tk (E':Value→Shared→Prop),LCg.NsObj oC m₂→m₂ x=some v→Fr h₀ L h m→News h₀ L h ((I,oI)::(C,oC)::(D,LCg.lst [])::news)→LCg.Off3 I C D news→((@Ne Nat I C)∧(@Ne Nat I D)∧(@Ne Nat C D)) →
   (xc→∀ e h' tk',RZ base (env::outer) h₀ e h'→(∃ sl,h'.get? C=some { oC with slots:=sl })→E' (.ref e) { s₁ with heap:=h',toks:=tk' }) →
   wpAny (model prog w) A (eval elt (compEnvC scope cl C env)) (LCg.CompEnd h₀ L m { s₁ with heap:=h,toks:=tk } I oI C oC D (LCg.lst []) (LCg.SrcAt h₀ ax #[v]) (fun yv news'=>LCg.FinA h₀ L m s₁ y Q [yv] news')) E' { s₁ with heap:=h,toks:=tk }
section
variable {prog:Program}{w:World}{A A₀:Around}{E:Value→Shared→Prop}{s:Shared}{base h₀:Heap}{L:Addr}{m:Str→Option Value}{env:Env}{outer:List Env}
theorem Assign_comp1 {elt iter:Expr}{x y:Str}{px py:Pos}{scope:Scope}{cl:List (Str × Addr)}{pos spos:Pos}{Q:Flow→Shared→Prop}(xc:Prop)(F₀:Fr h₀ L s.heap m)(K:Below A₀ base outer h₀)(hfr:A.frames=some (env::outer))(hf:env.frame=some L)(hLe:env.locals=L)
  (hsw:swapsWith (.ListComp elt [⟨.Name x px,iter,[],0⟩] scope pos) (some (.Name y py)) spos.line env=pure true)
  (hclos:closureFor scope env=pure cl) (hcell:∀ z∈scope.names,z.2≠.cell) (hkind:scope.kind=.function)
  (hnames:∀ z∈scope.names,z.2=.local→scope.names.lookup z.1=some .local) (hx:scope.names.lookup x=some .local)
  (hy:env.kindOf y=some .local) (hp:(env.scope.kind==.class || (env.scope.kind==.module&&env.locals != env.globals))=false)
  (hE:xc→∀ e h' tk' fl,RZf fl base (env::outer) h₀ e h'→E (.ref e) { s with heap:=h',toks:=tk' })
  (h:wpAny (model prog w) A (eval iter env) (fun xv s₁=>Comp1 xc prog w A base h₀ L m env outer elt x y scope cl Q xv s₁∧∃ h t,s₁={ s with heap:=h,toks:=t }) E s)
  (hs:∀ x,foldedSetIterable iter env x=pure x:=by intro _;rfl) :
  wpAny (model prog w) A (exec (.Assign [.Name y py] (.ListComp elt [⟨.Name x px,iter,[],0⟩] scope pos) spos) env) Q E s:=by
 subst hLe
 refine comp_start (h₀:=h₀) (m:=m) hsw hclos hcell hkind hnames hs (wpAny_mono h (fun xv s₁ h₁=>?_) fun _ _ e=>e)
 clear h hsw hclos hcell hnames hs
 refine el2a1 h₁.2 fun hS tS e0=>?_
 replace h₁:=h₁.1
 subst e0
 refine el3a6 h₁ fun ax v news e hh F N hl₀ turn=>?_
 clear h₁
 subst e
 refine ⟨ax,#[v],news,rfl,hh,F,N,hl₀,fun I C D h₁ tk m₂ hIa hCa hDa f3 F₁ N₁ off₀ hns₁ hIt hLs=>?_⟩
 clear F N
 have W:=Walks.list (prog:=prog) (w:=w) hh I ax hIa #[v]
 obtain ⟨hCI,hDI,hDC,hDL,hCL,hIL,hI₀,hC₀,hD₀⟩:=f3
 have hCl:C ∉ (env::outer).filterMap (·.frame):=fun hm=>by
  rcases mem_frames hf hm with q | hm
  ·exact hCL q
  ·obtain ⟨_,o,ho,_⟩:=K.frames.mem hm
   rw [hC₀] at ho;cases ho
 have hCb:base.get? C=none:=fresh_of_stays K.stays hC₀
 refine codeAny_compLoop_tests
  (fun k s'=>(k=2∧s'={ s with heap:=h₁,toks:=tk }) ∨
   (k=1∧∃ h' tk yv m' news',s'={ s with heap:=h',toks:=tk }∧(h'.IsListIter I ax 1∧h'.IsList ax #[v])∧Fr h₀ env.locals h' m∧h'.Ns C m'∧News h₀ env.locals h' ((D,LCg.lst [yv])::news') ∧
    LCg.Off3 I C D news'∧LCg.FinA h₀ env.locals m { s with heap:=hS,toks:=tS } y Q [yv] news')) ?_ 2 (.inl ⟨rfl,rfl⟩)
 intro k s' hh
 rcases hh with hq | hq
 ·obtain ⟨rfl,rfl⟩:=hq
  refine W.item 0 _ _ _ (Nat.lt_succ_self 0) ⟨hIt,hLs⟩ fun v' h₂ tk₂ hPv hst₂ hk₂=>?_
  obtain rfl:v=v':=Option.some.inj hPv
  have hk₂':∀ b o,b≠I→h₁.get? b=some o→h₂.get? b=some o:=fun b o hb=>hk₂ b o (by simpa using hb)
  refine wpAny_assign_Name (wpAny_storeName_local (lookup_relabel_local hx) (hns₁.at' fun o e=>hk₂' _ o (Ne.symm hCI) e) (fun h₃ hn₃ hs₃=>?_) (by simp [compEnvC,relabel,hkind]))
  refine wpAny_tests_nil ?_
  simp only [if_true]
  have hst₃:h₃.IsListIter I ax 1∧h₃.IsList ax #[v]:=⟨hst₂.1.at fun o e=>hs₃.extBut _ o hCI e,hst₂.2.at fun o e=>hs₃.extBut _ o hCa e⟩
  refine el1a2 (LCg.ns_obj hn₃) fun oC heC hoC=>?_
  refine el1a2 (id hst₃.1) fun oI heI rI=>?_
  have k13:∀ b o,b≠I→b≠C→h₁.get? b=some o→h₃.get? b=some o:=fun b o hb hc e=>hs₃.extBut b o hc (hk₂' b o hb e)
  have F₃:Fr h₀ env.locals h₃ m:=⟨F₁.ns.at' fun o e=>k13 _ o hIL (Ne.symm hCL) e,fun b o e=>k13 b o (fun q=>by rw [q,hI₀] at e;cases e) (fun q=>by rw [q,hC₀] at e;cases e) (F₁.keep b o e),F₁.above⟩
  have off3:=off₀.mem
  have N₃:News h₀ env.locals h₃ ((I,oI)::(C,oC)::(D,LCg.lst [])::news):=fun p hp=>by
   rcases iC hp with rfl | hp
   ·exact ⟨heI,Ne.symm hIL,hI₀⟩
   ·rcases iC hp with rfl | hp
    ·exact ⟨heC,hCL,hC₀⟩
    ·rcases iC hp with rfl | hp
     ·exact ⟨k13 _ _ (Ne.symm hDI) hDC (N₁ _ (.head _)).1,hDL,hD₀⟩
     ·exact ⟨k13 _ _ (off3 p hp).1 (off3 p hp).2.1 (N₁ p (.tail _ hp)).1,(N₁ p (.tail _ hp)).2⟩
  refine wpAny_mono (turn I oI C oC D _ h₃ _ _ hoC (by simp) F₃ N₃ off₀ ⟨hCI,hDI,Ne.symm hDC⟩ ?_) (fun yv s₄ hx4=>?_) fun _ _ e=>e
  ·intro hxc e h' tk' R ⟨sl,hC'⟩
   refine el2a3 hoC fun es ep hd hk hnf=>?_
   clear hoC
   exact compZ (L:=env.locals) hfr hf hf R hC' ⟨es,ep,hd,hk,hnf⟩ hCl hC₀ hCb fun h'' fl R'=>hE hxc e h'' tk' fl R'
  ·refine el3a6 hx4 fun h₄ tk₄ news₄ e F₄ N₄ off₄ S₄ R₄=>?_
   clear hx4
   subst e
   have zI:=(N₄ (I,oI) List.mem_cons_self).1
   have zC:=(N₄ (C,oC) (List.mem_cons_of_mem _ List.mem_cons_self)).1
   have zD:=(N₄ (D,LCg.lst []) (List.mem_cons_of_mem _ (List.mem_cons_of_mem _ List.mem_cons_self))).1
   have off4:=off₄.mem
   refine append_at (hsz:=Nat.zero_le _) zD fun h₅ hs₅ hD₅=>?_
   refine ⟨1,Nat.lt_succ_self 1,.inr ⟨rfl,h₅,tk₄,yv,_,news₄,rfl,⟨⟨oI,hs₅.extBut _ _ hDI zI,rI⟩,(S₄.list F₄.keep fun q hq=>N₄ q (List.mem_cons_of_mem _ (List.mem_cons_of_mem _ (List.mem_cons_of_mem _ hq)))).at fun o e=>hs₅.extBut _ o hDa e⟩,F₄.change hs₅ hDL hD₀,(hoC.ns zC).sameBut hs₅ (Ne.symm hDC),fun p hp=>?_,off₄,R₄⟩⟩
   rcases iC hp with rfl | hp
   ·exact ⟨hD₅,hDL,hD₀⟩
   ·have z:=N₄ p (List.mem_cons_of_mem _ (List.mem_cons_of_mem _ (List.mem_cons_of_mem _ hp)))
    exact ⟨hs₅.extBut _ _ (off4 p hp).2.2 z.1,z.2⟩
 ·obtain ⟨rfl,hq⟩:=hq
  refine el5a7 hq fun h' tk yv m' news' e hst' F' hn' N' off' fin=>?_
  clear hq
  subst e
  refine W.done _ _ _ hst' fun h₂ tk₂ hk₂=>?_
  have hk₂':∀ b o,b≠I→h'.get? b=some o→h₂.get? b=some o:=fun b o hb=>hk₂ b o (by simpa using hb)
  have off3:=off'.mem
  have F₂:Fr h₀ env.locals h₂ m:=⟨F'.ns.at' fun o e=>hk₂' _ o hIL e,fun b o e=>hk₂' b o (fun q=>by rw [q,hI₀] at e;cases e) (F'.keep b o e),F'.above⟩
  show wpAny _ A (assign (.Name y py) env (.ref D)) _ _ _
  refine wpAny_assign_Name (wpAny_storeName_local hy F₂.ns (fun h₅ hn₅ hs₅=>?_) hp)
  have hL₀:h₀.get? env.locals=none:=Heap.get?_none_of_le F'.above
  have F₅:Fr h₀ env.locals h₅ (fun z=>if z=y then some (.ref D) else m z):=⟨hn₅,fun b o e=>hs₅.extBut b o (fun q=>by rw [q,hL₀] at e;cases e) (F₂.keep b o e),F'.above⟩
  refine ⟨m',(hn'.at' fun o e=>hk₂' _ o (Ne.symm hCI) e).sameBut hs₅ hCL,fun h'' hs''=>fin D h'' _ (F₅.change hs'' hCL hC₀) (fun p hp=>?_) off'.one⟩
  have hpI:p.1≠I∧p.1≠C:=by
   rcases iC hp with rfl | hp
   ·exact ⟨Ne.symm hDI,hDC⟩
   ·exact ⟨(off3 p hp).1,(off3 p hp).2.1⟩
  exact ⟨hs''.extBut _ _ hpI.2 (hs₅.extBut _ _ (N' p hp).2.1 (hk₂' _ _ hpI.1 (N' p hp).1)),(N' p hp).2⟩
end
end Mine
end
section
namespace Mine
theorem ns_some_of {K:Frag}{h:Heap}{N:Addr}{mg:Str→Option Value}{n:Str}{v:Value}(X:K.In h)(G:h.Ns N mg)(e:nsIn K N n=some (some v)):mg n=some v:=by
 refine el3a4 G fun o es ep ho hd _ hf=>?_
 clear G
 unfold nsIn at e
 split at e
 ·rename_i c d es' n' sl q
  have:=X _ _ q
  rw [ho] at this
  cases this
  cases hd
  split at e
  ·rename_i en he
   rw [← hf]
   unfold nsFind findBy
   rw [← Array.find?_toList,he]
   exact congrArg some (Option.some.inj (Option.some.inj e))
  ·split at e <;> cases e
 ·cases e
theorem limit_two {P:Params}{h:Heap}(X:(H.K P).In h):∃ c,Two h 94 excMro c (h.nsMap 93) (h.nsMap 37) :=
 ⟨⟨_,_,_,_,_,_,_,_,_,_,_,_,_,_,_,_,_,_,_⟩,X 94 _ rfl,.of_isNs (isNs_of_in X (by kernel_rfl)),X 38 _ rfl,.of_isNs (isNs_of_in X (by kernel_rfl))⟩
theorem limit_none {P:Params}{h:Heap}(X:(H.K P).In h){n:Str}(hn:n="__init__"∨n="__setattr__"∨n="message"):h.nsMap 93 n=none:=by
 rcases hn with rfl | rfl | rfl <;> exact nsMap_none_of_in X (by kernel_rfl) (by kernel_rfl)
theorem mill_none {P:Params}{h:Heap}(X:(H.K P).In h){n:Str}(hn:n="__setattr__"∨n="message"):h.nsMap 37 n=none:=by
 rcases hn with rfl | rfl <;> exact nsMap_none_of_in X (by kernel_rfl) (by kernel_rfl)
theorem mill_init {P:Params}{h:Heap}(X:(H.K P).In h):h.nsMap 37 "__init__"=some (.ref 35):=ns_some_of X (.of_isNs (isNs_of_in X (by kernel_rfl))) (by kernel_rfl)
theorem mill_init_fn {P:Params}{h:Heap}(X:(H.K P).In h):∃ o,h.get? 35=some o∧o.cls=.type "function":=⟨_,X 35 _ rfl,rfl⟩
theorem no_message:typeLookup (.type "Exception") "message"=pure none:=by rw [typeLookup_type,builtinLookup_eq_fast];kernel_rfl
end Mine
end
section
namespace Mine
section
variable {prog:Program}{w:World}{A₀ A:Around}{s:Shared}{base h₀:Heap}{L:Addr}{m:Str→Option Value}{env:Env}{news:List (Addr × Obj)}{K:Frag}{p:Program}{loose:List Str}{mean:ExcName→Option Value}{mg mb:Str→Option Value}
  {R:Result→Shared→Prop} {name qual:Str} {params:Arguments} {body:List Stmt} {scope:Scope} {dV kV doc pm cdv ct oc:Value} {an od:Option Addr} {osl:Array (Option Value)} {f:Addr} {args:Args} {binds:List (Str × Value)}
theorem code_defZ (B:Below A₀ base [] h₀)(F:Fr h₀ L s.heap m)(X₀:K.In h₀)(N:News h₀ L s.heap news)(T:Top p loose mean mg mb h₀)(hA:A.frames=some [env])(hf:env.frame=some L)(hke:env.scope.kind=.function)
  (ho:K.lookup f=some ⟨oc,od,.func (fnOf name qual params body scope dV kV doc pm an cdv ct),osl⟩) (hcd:codeIn K cdv qual=true) (hroom:A.depth < recursionLimit)
  (hbind:BindsTo s (fnOf name qual params body scope dV kV doc pm an cdv ct) args binds) (hloc:∀ y∈binds,scope.names.lookup y.1=some .local)
  (h:∀ g L' h₁,Fr g L' h₁ (fun y=>binds.reverse.lookup y)→News g L' h₁ news→Below A base [env] g→K.In g→Top p loose mean mg mb g→KtsDicts [L] g→GSub s.heap g (news.map (·.1)) →
   wpAny (model prog w) (A.deeper (envOf qual scope L' f cdv)) (execs body (envOf qual scope L' f cdv))
    (fun fl s'=>LeaveS0 [L] h₀ L m g R (match fl with | .ret v=>v | _=>.none) s')
    (fun e s'=>wpAny (model prog w) (A.deeper (envOf qual scope L' f cdv)) (leaving (envOf qual scope L' f cdv) e) (fun _ s''=>R (.error e) s'') (fun e' s''=>R (.error e') s'') s')
    { s with heap:=h₁,toks:=s.toks+binds.length })
  (hco:scope.isCoroutine=false) (hgen:scope.isGenerator=false) (hk:scope.kind=.function)
  (hcell:∀ x∈scope.names,x.2≠.cell):codeAny (model prog w) A (.call (.ref f) args) R s:=by
 have X:=X₀.keeps F.keep
 refine codeAny_call_def (fd:=fnOf name qual params body scope dV kV doc pm an cdv ct) (body:=body) (binds:=binds) hroom (X _ _ ho) rfl (T.nolimit.keeps F.keep) (codeRec_of X hcd) rfl hbind hcell hloc (fun h₁ hns hk₁=>?_) hco hgen hk
 have nm:∀ b o,h₀.get? b=some o→b ∉ news.map (·.1):=fun b o e q=>by
  refine el1a2 (iM q) fun p hp e1q=>?_
  subst e1q
  rw [(N p hp).2.2] at e;cases e
 have st:h₀.StaysIn (hideAll s.heap (news.map (·.1))):=fun b o e=>hideAll_get _ (F.keep b o e) (nm b o e)
 refine el3a4 F.ns fun oL es ep hL hLd hLk hLf=>?_
 have nL:L ∉ news.map (·.1):=fun q=>by
  refine el1a2 (iM q) fun p hp e=>?_
  exact (N p hp).2.1 e
 have hLg:=hideAll_get (news.map (·.1)) hL nL
 have nL₀:h₀.get? L=none:=kts_self F
 have B₂:Below A base [env] (hideAll s.heap (news.map (·.1))):=by
  refine ⟨hA,fun b o e=>st b o (B.stays b o e),⟨by rw [hke];decide,⟨L,oL,hf,?_,hLg,fun vs q=>by rw [hLd] at q;cases q⟩,trivial⟩⟩
  cases q:base.get? L with
  | none=>rfl
  | some o=>have:=B.stays _ _ q;rw [nL₀] at this;cases this
 refine wpAny_mono (h _ s.heap.objs.size h₁ ⟨hns,fun b o e=>hk₁ b o (of_hideAll _ e),Nat.le_of_eq (hideAll_size _ _)⟩
  (fun p hp=>⟨hk₁ _ _ (N p hp).1,Nat.ne_of_lt (Heap.lt_size (N p hp).1),hideAll_none _ (List.mem_map_of_mem hp)⟩) B₂ (X₀.keeps st) (T.keeps st) (fun b hb=>by
   obtain rfl:=iS hb
   exact ⟨oL,es,ep,hLg,hLd⟩) (fun b o e n=>hideAll_get _ e n)) (fun fl s' hl=>?_) fun _ _ y=>y
 refine el4a4 hl fun g' L' m' news' T' F' N' k=>?_
 clear hl
 obtain ⟨sl,hs⟩:=T'.up hLg
 refine k ⟨⟨_,es,ep,F'.keep _ _ hs,hLd,hLk,hLf⟩,fun b o e=>F'.keep b o (T'.other b o (st b o e) (fun q=>by
  rw [iS q,nL₀] at e;cases e)),F.above⟩ fun p hp=>⟨(N' p hp).1,fun q=>?_,?_⟩
 ·have:=(N' p hp).2.2;rw [q,hs] at this;cases this
 ·cases q:h₀.get? p.1 with
  | none=>rfl
  | some o =>
   obtain ⟨sl',hs'⟩:=T'.up (st _ _ q)
   have:=(N' p hp).2.2
   rw [hs'] at this
   cases this
theorem RZf.toS {G:Heap}{l:List Env}{e:Addr}{h':Heap}{H:Heap}(R:RZ base l H e h')(hG:∀ b o,G.get? b=some o→H.get? b=some o)(hn:∀ q∈news,H.get? q.1=some q.2∧G.get? q.1=none∧base.get? q.1=none∧q.1 ∉ l.filterMap (·.frame)) :
  ∃ t vs,RaisedS base G l e (.ref 94) t vs news h'∧G.UpToSlots h':=by
 refine el3a6 R fun B t vs hB hBG hfl hnew ht hsm=>?_
 clear R
 exact ⟨t,vs,⟨⟨B,hB,fun b o q nm=>hBG b o (hG b o q) nm,fun q hq=>⟨hBG _ _ (hn q hq).1 (hn q hq).2.2.2,(hn q hq).2.1,(hn q hq).2.2.1⟩,hfl,hnew⟩,ht⟩,fun b o q hd=>hsm b o (hG b o q) hd⟩
end
end Mine
end
section
namespace Mine
noncomputable section
section
variable {σ:Cx}{kk:Nat}{env:Env}{nm:List Str}{m:Mp}{cz hid fx:Ld}{led led':MLd}{s:Shared}{cc:CC}{sl:Sl}
theorem comp_endV0 {hid1 hid2:Ld}{I C D:Addr}{oI oC:Obj}{ys:List Value}{S:Ld→Prop}{R:Nat→List SV→MLd→Prop}{i:Nat}{acc:List SV}{s1 s2:Shared}{v:Value}
  (hS:∀ l h,(∀ q∈hid1,q∈h)→S (l++(cz++h))) (g1:s1.gens=σ.gs) (g2:s1.drawn=σ.dr) (g3:s1.os=σ.os) (hR:R (i+1) acc led) (ha:VRs (Kn σ hid2) acc ys) (u:∀ q∈hid1,q∈hid2)
  (st:SS σ m ((I,oI)::(C,oC)::(D,LCg.lst ys)::cz) hid2 led s2) :
  LCg.CompEnd σ.g σ.L m s1 I oI C oC D (LCg.lst ys) S (fun _ nx'=>CompJ σ cz hid1 R (i+1) ys nx') v s2:=by
 refine el1a8 st.without fun ledc r sp F N off e1 e2 e3=>?_
 exact ⟨s2.heap,s2.toks,ledc++(cz++hid2),shared_eta (e1.trans g1.symm) (e2.trans g2.symm) (e3.trans g3.symm),F,N,off,hS _ _ u,
  acc,led,ledc,hid2,hR,ha,u,r,sp,rfl⟩
theorem rest_T (G:Good σ kk)(EO:EnvOk σ σ.env cc)(ht:cc.top=true){sc:Scope}{x:Str}{cl:List (Str × Addr)}{ct elt:Expr}{FT:SV→MLd→(Bool→MLd→Prop)→Prop}{F:SV→MLd→(SV→MLd→Prop)→Prop}{l:List SV}{hid1 ledc:Ld}{S:Ld→Prop}{P:Nat→Value→Prop}{FinX:List Value→Ld→Prop}{kf:List SV→MLd→Prop}
  (I:InOk σ cc sc [x] cl) (R:RelE σ σ.env m cz hid1 cc sl)
  (htst:∀ cz' hid' C v led' k2,RelE σ (compEnvC sc cl C σ.env) m cz' hid' (inner cc sc [x]) (sl++[some v])→FT v led' k2→XT σ (compEnvC sc cl C σ.env) m cz' hid' led' ct k2)
  (helt:∀ cz' hid' C v led' k2,RelE σ (compEnvC sc cl C σ.env) m cz' hid' (inner cc sc [x]) (sl++[some v])→F v led' k2→XE σ (compEnvC sc cl C σ.env) m cz' hid' led' elt k2)
  (hP:∀ i v,i < l.length→P i v→∃ sv,l[i]? = some sv∧VR (Kn σ hid1) sv v) (hS:∀ l h,(∀ q∈hid1,q∈h)→S (l++(cz++h))) (g1:s.gens=σ.gs) (g2:s.drawn=σ.dr) (g3:s.os=σ.os)
  (h0:compT0 FT F l [] led kf) (r:RelL (Kn σ hid1) led ledc) (sp:Sep ledc cz hid1)
  (fin:∀ ys nx,CompJ σ cz hid1 (fun i acc led=>compT0 FT F (l.drop i) acc led kf) l.length ys nx→FinX ys nx) :
  LCt.CompRestT rowP σ.w σ.A σ.g σ.L m σ.env ct elt x sc cl s S P FinX l.length 0 [] (ledc++(cz++hid1)):=by
 refine comp_test (CompJ σ cz hid1 fun i acc led=>compT0 FT F (l.drop i) acc led kf) ⟨[],led,ledc,hid1,h0,rfl,fun _ h=>h,r,sp,rfl⟩ ?_ fin
 rintro i v ys nx A oA C oC D m₂ h tk E' hi hv ⟨acc,led2,ledc2,hid2,h1,h2,h3,h4,h5,rfl⟩ hC hx FF N off ne
 refine el1a2 (hP i v hi hv) fun sv hl rv=>?_
 rw [drop_cons hl] at h1
 have st:=SS.within (s':={ s with heap:=h,toks:=tk }) h4 h5 FF N off ne g1 g2 g3
 have RI:=inner_rel G EO ht (cz':=(A,oA)::(C,oC)::(D,LCg.lst ys)::cz) (vs:=[sv]) (C:=C) (oC:=oC) I (R.mono h3) (fun q hq=>.tail _ (.tail _ (.tail _ hq))) (.tail _ (.head _)) hC rfl fun j x' v' e1 e2=>by
  cases j with
  | zero=>cases e1;cases e2;exact ⟨v,hx,rv.up h3⟩
  | succ j=>cases e1
 refine htst _ _ C sv led2 _ RI h1 _ _ _ st fun c led3 hid3 s3 gc u3 st3=>?_
 cases c with
 | true =>
  rw [if_pos rfl]
  refine helt _ _ C sv led3 _ (RI.mono u3) (gc.1 rfl) _ _ _ st3 fun y w led4 hid4 s4 gy ry u4 st4=>?_
  exact comp_endV hS (s1:={ s with heap:=h,toks:=tk }) g1 g2 g3 (R:=fun i acc led=>compT0 FT F (l.drop i) acc led kf) (snocK_of gy) h2 h3 (fun q hq=>u4 q (u3 q hq)) ry st4
 | false =>
  rw [if_neg (by decide)]
  exact comp_endV0 hS (s1:={ s with heap:=h,toks:=tk }) g1 g2 g3 (R:=fun i acc led=>compT0 FT F (l.drop i) acc led kf) (gc.2 rfl) (h2.up u3) (fun q hq=>u3 q (h3 q hq)) st3
theorem src_okT (G:Good σ kk){iv:SV}{v:Value}{K:List SV→Prop}(st:SS σ m cz hid led s)(h:lstK iv K)(hv:VR (Kn σ hid) iv v){ct elt:Expr}{x:Str}{sc:Scope}{cl:List (Str × Addr)}{FF:Shared→List Value→Ld→Prop}{s0:Shared}
  (rest:∀ l S P s2 ledc,K l→(∃ h,s2={ s with heap:=h })→(∀ i v,i < l.length→P i v→∃ sv,l[i]? = some sv∧VR (Kn σ hid) sv v)→(∀ l h,(∀ q∈hid,q∈h)→S (l++(cz++h)))→RelL (Kn σ hid) led ledc→Sep ledc cz hid→s.gens=σ.gs∧s.drawn=σ.dr∧s.os=σ.os →
   LCt.CompRestT rowP σ.w σ.A σ.g σ.L m σ.env ct elt x sc cl s2 S P (FF s2) l.length 0 [] (ledc++(cz++hid))):LCt.CompSrcT rowP σ.w σ.A σ.g σ.L m σ.env ct elt x sc cl FF v s:=by
 refine el1a3 st.ex fun ledc r sp T=>?_
 refine el1a3 (lstK_of h) fun l e1q hz h1=>?_
 subst e1q
 refine el3a4 hv fun a o vs e1q ka e2q ra=>?_
 clear hv
 subst e1q
 obtain ⟨nn,rfl⟩:=e2q
 refine .inl ⟨a,vs.toArray,_,rfl,rfl,T.F,T.N,src_lst G ka ledc hid (fun _ h=>h),lst_small ra hz,fun s2 hs2=>?_⟩
 have R:=rest _ (LCg.SrcAt σ.g a vs.toArray) (fun i v=>vs.toArray[i]? = some v) s2 ledc h1 hs2 (fun i v _ hv=>ra.get' (List.getElem?_toArray▸hv)) (src_lst G ka) r sp ⟨T.gs,T.dr,T.os⟩
 rw [← ra.length] at R
 exact R
theorem InOk.first {sc:Scope}{x y:Str}{cl:List (Str × Addr)}(I:InOk σ cc sc [x,y] cl):InOk σ cc sc [x] cl :=
 ⟨I.clos,I.cells,I.hcell,I.kind,I.loc,fun z hz=>I.hx z (by rw [iS hz];exact .head _),fun z hz=>I.dbg z (by rw [iS hz];exact .head _),I.free⟩
theorem src_W (G:Good σ kk)(EO:EnvOk σ σ.env cc)(ht:cc.top=true){sc:Scope}{x:Str}{cl:List (Str × Addr)}{i2:Expr}{F:SV→MLd→(SV→MLd→Prop)→Prop}{hid1:Ld}{kf:List SV→MLd→Prop}{z:Str}{Q:Flow→Shared→Prop}{iv:SV}{v:Value}
  (I:InOk σ cc sc [x] cl) (R:RelE σ σ.env m cz hid1 cc sl) (st:SS σ m cz hid1 led s) (h:lstK iv fun l=>compW F l [] led kf) (hv:VR (Kn σ hid1) iv v)
  (helt:∀ cz' hid' C v led' k2,RelE σ (compEnvC sc cl C σ.env) m cz' hid' (inner cc sc [x]) (sl++[some v])→F v led' k2→XE σ (compEnvC sc cl C σ.env) m cz' hid' led' i2 k2)
  (fin:∀ n ys nx,CompJ σ cz hid1 (fun i acc led=>i=n→kf acc led) n ys nx→LCg.FinA σ.g σ.L m s z Q ys nx) :
  TwoSrc rowP σ.w σ.A σ.g σ.L m σ.env i2 x sc cl z Q v s:=by
 refine el1a3 st.ex fun ledc r sp S=>?_
 refine el1a3 (lstK_of h) fun l e1q hz hk=>?_
 subst e1q
 refine el3a4 hv fun a o vs e1q ka e2q ra=>?_
 clear hv
 subst e1q
 obtain ⟨nn,rfl⟩:=e2q
 have e:=VRs.length ra
 have src:∀ l h,(∀ q∈hid1,q∈h)→LCg.SrcAt σ.g a vs.toArray (l++(cz++h)):=fun l h u=>by
  rcases ka with k | k
  ·exact .inl ⟨_,G.kn _ _ k,rfl,_,rfl⟩
  ·exact .inr ⟨_,iR (iR (u _ k)),rfl,_,rfl⟩
 refine ⟨a,vs,_,CompJ σ cz hid1 fun i acc led=>compW0 F (l.drop i) acc led kf,rfl,S.F,S.N,src ledc hid1 (fun _ h=>h),by rw [e];exact small_of (by omega),⟨[],led,ledc,hid1,hk.ex,rfl,fun _ h=>h,r,sp,rfl⟩,?_,?_,fun ys nx J=>fin l.length ys nx ?_⟩
 ·intro i ys nx hqq
  refine el4a6 hqq fun acc led2 ledc2 hid2 h1 h2 h3 h4 h5 e1q=>?_
  clear hqq
  subst e1q
  exact src _ _ h3
 ·rintro i v ys nx A oA C oC D m₂ h tk E' hv ⟨acc,led2,ledc2,hid2,h1,h2,h3,h4,h5,rfl⟩ hC hx FF N off ne
  refine el1a2 (ra.get' hv) fun sv hl rv=>?_
  rw [drop_cons hl] at h1
  have st1:=SS.within (s':={ s with heap:=h,toks:=tk }) h4 h5 FF N off ne S.gs S.dr S.os
  have RI:=inner_rel G EO ht (cz':=(A,oA)::(C,oC)::(D,LCg.lst ys)::cz) (vs:=[sv]) (C:=C) (oC:=oC) I (R.mono h3) (fun q hq=>.tail _ (.tail _ (.tail _ hq))) (.tail _ (.head _)) hC rfl fun j x' v' e1 e2=>by
   cases j with
   | zero=>cases e1;cases e2;exact ⟨v,hx,rv.up h3⟩
   | succ j=>cases e1
  refine helt _ _ C sv led2 _ RI h1 _ _ _ st1 fun y w led3 hid3 s3 gy ry u3 st3=>?_
  refine el1a3 (tupK_of gy) fun l3 e1q hz3 gy2=>?_
  subst e1q
  refine el3a4 ry fun t ot ws e1q kt it rw_=>?_
  clear ry
  subst e1q
  have hT:=st3.isT G kt it
  refine el1a8 st3.without fun ledc3 r3 sp3 F3 N3 off3 e1 e2 e3=>?_
  have el:(ys++ws).length=(acc++l3).length:=by rw [List.length_append,List.length_append,VRs.length h2,VRs.length rw_]
  exact ⟨t,ws,s3.heap,s3.toks,ledc3++(cz++hid3),rfl,shared_eta (e1.trans S.gs.symm) (e2.trans S.dr.symm) (e3.trans S.os.symm),F3,N3,off3,hT,by rw [el];exact small_of (by omega),
   acc++l3,led3,ledc3,hid3,gy2,rw_.append (h2.up u3),fun q hq=>u3 q (h3 q hq),r3,sp3,rfl⟩
 ·rw [e] at J
  refine el4a2 J fun acc led2 ledc2 hid2 h1 h2=>?_
  clear J
  dsimp only at h1
  rw [List.drop_length] at h1
  exact ⟨acc,led2,ledc2,hid2,fun _=>h1,h2⟩
theorem RelS.store (O:NmOk σ nm){i:Nat}{x:Str}{v:SV}{u:Value}(hx:nm[i]? = some x)(hl:isLocS σ.cs x=true)(R:RelS σ nm m cz hid sl)(hv:VR (Kn σ hid) v u):RelS σ nm (fun y=>if y=x then some u else m y) cz hid (setS sl i v):=by
 refine ⟨by rw [setS_len];exact R.len,fun j y w hy hw=>?_,R.cells⟩
 rcases setS_get hw with ⟨rfl,rfl⟩ | ⟨hne,hw⟩
 ·rw [hx] at hy
  cases hy
  exact ⟨u,hv,.inl ⟨hl,by simp⟩⟩
 ·refine el1a2 (R.at_ j y w hy hw) fun z rz h=>?_
  refine ⟨z,rz,h.imp (fun ⟨a,b⟩=>⟨a,?_⟩) id⟩
  have:y≠x:=fun e=>hne (nodup_idx O.nd (e▸hy) hx)
  rw [if_neg this];exact b
theorem finA_sound (O:NmOk σ nm){i:Nat}{y:Str}{hid1:Ld}{Rr:Nat→List SV→MLd→Prop}{n:Nat}{ys:List Value}{nx:Ld}{K:Sl→MLd→Prop}{Q:Flow→Shared→Prop}(hy:nm[i]? = some y)(hl:isLocS σ.cs y=true)(R:RelS σ nm m cz hid1 sl)
  (g1:s.gens=σ.gs) (g2:s.drawn=σ.dr) (g3:s.os=σ.os) (hR:∀ acc led,Rr n acc led→setK sl i (.lst acc) fun sl=>K sl led) (c:∀ sl' led' hid' m' s',K sl' led'→RelS σ nm m' cz hid' sl'→(∀ q∈hid1,q∈hid')→SS σ m' (fx++cz) hid' led' s'→Q .next s')
  (J:CompJ σ (fx++cz) hid1 Rr n ys nx):LCg.FinA σ.g σ.L m s y Q ys nx:=by
 intro D h tk F N o
 refine el3a4 (comp_state (s':={ s with heap:=h,toks:=tk }) J F N o g1 g2 g3) fun acc led2 hid2 h1 h2 h3 h4=>?_
 exact c _ _ _ _ _ (setK_of (hR _ _ h1)) ((R.mono h3).store O hy hl h2) h3 h4
theorem swL_of {y:Str}{py pos:Pos}{sc:Scope}{elt:Expr}{gens:List Comprehension}{line:Nat}(h:optB (pureOf (swapsWith (.ListComp elt gens sc pos) (some (.Name y py)) 0 (env0 σ.cs))) id=true):swapsWith (.ListComp elt gens sc pos) (some (.Name y py)) line σ.env=pure true:=by
 have e:swapsWith (.ListComp elt gens sc pos) (some (.Name y py)) line σ.env=swapsWith (.ListComp elt gens sc pos) (some (.Name y py)) 0 (env0 σ.cs):=rfl
 rw [e]
 cases hp:pureOf (swapsWith (.ListComp elt gens sc pos) (some (.Name y py)) 0 (env0 σ.cs)) with
 | none=>rw [hp] at h;cases h
 | some r=>rw [hp] at h;cases (show r=true from h);exact pureOf_is hp
theorem notCls (G:Good σ kk){P:Bool}:(σ.cs.kind==.class || (σ.cs.kind==.module&&P))=false:=by rw [G.k];rfl
noncomputable abbrev Fin0 (σ:Cx)(nm:List Str)(fx cz hid:Ld)(K:Sl→MLd→Prop)(Q:Flow→Shared→Prop):Prop:=∀ sl' led' hid' m' s',K sl' led'→RelS σ nm m' cz hid' sl'→(∀ q∈hid,q∈hid')→SS σ m' (fx++cz) hid' led' s'→Q .next s'
theorem Fin0.up {hid1:Ld}{K:Sl→MLd→Prop}{Q:Flow→Shared→Prop}(c:Fin0 σ nm fx cz hid K Q)(u:∀ q∈hid,q∈hid1):Fin0 σ nm fx cz hid1 K Q:=fun sl' led' hid' m' s' a b u' st'=>c sl' led' hid' m' s' a b (fun q hq=>u' q (u q hq)) st'
theorem loc_k {cs:Scope}{x:Str}(h:isLocS cs x=true):isKind .local cs.names x=true:=(iB h).1
section
variable {i:Nat}{y x x2:Str}{py px px2 tp pos spos:Pos}{tk as:Nat}{sc:Scope}{elt iter ct i2:Expr}{it t e:IE}{K:Sl→MLd→Prop}{Q:Flow→Shared→Prop}{E:Value→Shared→Prop}
 (G:Good σ kk) (O:NmOk σ nm) (hy:nm[i]? = some y) (hl:isLocS σ.cs y=true) (hf:plainArg iter=true) (R:RelS σ nm m cz hid sl) (st:SS σ m (fx++cz) hid led s) (c:Fin0 σ nm fx cz hid K Q)
include G O hy hl hf R st c
theorem asgU_sound (hsw:swapsWith (.ListComp elt [⟨.Name x px,iter,[],0⟩] sc pos) (some (.Name y py)) spos.line σ.env=pure true)(h3:compScopeOk (fcc σ.cs nm) sc [x]=true)(h1:XEok σ kk it (fcc σ.cs nm) iter)(h4:XEok σ kk e (inner (fcc σ.cs nm) sc [x]) elt)
  (hv:vcE σ.pw kk it sl led fun iv led1=>iterK iv fun l=>compL (fun x led2 k2=>vcE σ.pw kk e (sl++[some x]) led2 k2) l [] led1 fun acc led'=>setK sl i (.lst acc) fun sl=>K sl led') :
  wpAny (model rowP σ.w) σ.A (exec (.Assign [.Name y py] (.ListComp elt [⟨.Name x px,iter,[],0⟩] sc pos) spos) σ.env) Q E s:=by
 obtain ⟨cl,I⟩:=inner_ok (envOk G O) rfl h3
 exact LCg.Assign_ListComp_U st.F rfl hsw I.clos I.hcell I.kind I.loc (I.hx x (.head _)) (kind_lookup (loc_k hl)) (notCls G)
  (compU_src G h1 h4 (envOk G O) rfl I (R.toE G) hv st fun s2 hid1 n ys nx g1 g2 g3 u1 J=>finA_sound (K:=K) O hy hl (R.mono u1) g1 g2 g3 (fun acc led hR=>hR rfl) (c.up u1) J) ((form_ok iter hf).fold _)
theorem asgP_sound (hsw:swapsWith (.ListComp elt [⟨.Tuple [.Name x px,.Name x2 px2] tk tp,iter,[],0⟩] sc pos) (some (.Name y py)) spos.line σ.env=pure true)(hne:strEq x x2=false)(h3:compScopeOk (fcc σ.cs nm) sc [x,x2]=true)(h1:XEok σ kk it (fcc σ.cs nm) iter)(h4:XEok σ kk e (inner (fcc σ.cs nm) sc [x,x2]) elt)
  (hv:vcE σ.pw kk it sl led fun iv led1=>lstK iv fun l=>compL (fun x led2 k2=>pairK x fun a b=>vcE σ.pw kk e (sl++[some a,some b]) led2 k2) l [] led1 fun acc led'=>setK sl i (.lst acc) fun sl=>K sl led') :
  wpAny (model rowP σ.w) σ.A (exec (.Assign [.Name y py] (.ListComp elt [⟨.Tuple [.Name x px,.Name x2 px2] tk tp,iter,[],0⟩] sc pos) spos) σ.env) Q E s:=by
 obtain ⟨cl,I⟩:=inner_ok (envOk G O) rfl h3
 obtain ⟨T,hT⟩:=tups_of σ.g
 refine LCp.Assign_ListComp_P (fr_hidT (T:=T) st.F) rfl hsw I.clos I.hcell I.kind I.loc (I.hx x (.head _)) (I.hx x2 (.tail _ (.head _))) (strEq_ne hne) (kind_lookup (loc_k hl)) (notCls G)
  (compP_src G hT h1 h4 (envOk G O) rfl I (R.toE G) hv st fun s2 hid1 n ys nx g1 g2 g3 u1 J=>?_) ((form_ok iter hf).fold _)
 intro D h tk F N o
 refine el1a3 J fun n0 e1q hn0 _=>?_
 clear J
 rename_i J
 subst e1q
 have oo:=off1_mem o
 have F1:=fr_unhid hT F N fun q hq=>.tail _ (iR hq)
 have N1:News σ.g σ.L h ((D,LCg.lst ys)::n0):=by
  intro q hq
  rcases iC hq with rfl | hq
  ·exact ⟨(N _ (.head _)).1,(N _ (.head _)).2.1,none_unhid (N _ (.head _)).2.2 fun q h=>oo q (iR h)⟩
  ·have:=N q (.tail _ (iL hq))
   exact ⟨this.1,this.2.1,hn0 q hq⟩
 exact finA_sound (K:=K) O hy hl (R.mono u1) g1 g2 g3 (fun acc led hR=>hR rfl) (c.up u1) J D h tk F1 N1 (off1_of fun q hq=>oo q (iL hq))
theorem asgT_sound (hsw:swapsWith (.ListComp elt [⟨.Name x px,iter,[ct],0⟩] sc pos) (some (.Name y py)) spos.line σ.env=pure true)(h3:compScopeOk (fcc σ.cs nm) sc [x]=true)(h1:XEok σ kk it (fcc σ.cs nm) iter)(h5:XTok σ kk t (inner (fcc σ.cs nm) sc [x]) ct)(h4:XEok σ kk e (inner (fcc σ.cs nm) sc [x]) elt)
  (hv:vcE σ.pw kk it sl led fun iv led1=>lstK iv fun l=>compT (fun x led2 k2=>vcE σ.pw kk t (sl++[some x]) led2 fun v led3=>boolK v fun c=>k2 c led3) (fun x led2 k2=>vcE σ.pw kk e (sl++[some x]) led2 k2) l [] led1 fun acc led'=>setK sl i (.lst acc) fun sl=>K sl led') :
  wpAny (model rowP σ.w) σ.A (exec (.Assign [.Name y py] (.ListComp elt [⟨.Name x px,iter,[ct],0⟩] sc pos) spos) σ.env) Q E s:=by
 obtain ⟨cl,I⟩:=inner_ok (envOk G O) rfl h3
 exact LCt.Assign_ListComp_T st.F rfl hsw I.clos I.hcell I.kind I.loc (I.hx x (.head _)) (kind_lookup (loc_k hl)) (notCls G)
  (h1 (envOk G O) (R.toE G) hv s _ _ st fun iv v led1 hid1 s1 g rv u1 st1=>src_okT G (s0:=s1) st1 g rv fun l S P s2 ledc hK ⟨hh,e⟩ hP hS r sp gg=>by
   subst e
   exact rest_T G (envOk G O) rfl (FT:=fun x led2 k2=>vcE σ.pw kk t (sl++[some x]) led2 fun v led3=>boolK v fun c=>k2 c led3) (F:=fun x led2 k2=>vcE σ.pw kk e (sl++[some x]) led2 k2) I ((R.mono u1).toE G)
    (fun cz' hid' C v led' k2 RI hF=>h5 (inner_env G I C) RI hF) (fun cz' hid' C v led' k2 RI hF=>h4 (inner_env G I C) RI hF) hP hS gg.1 gg.2.1 gg.2.2 hK.ex r sp fun ys nx J =>
     finA_sound (K:=K) O hy hl (R.mono u1) gg.1 gg.2.1 gg.2.2 (fun acc led hR=>by rw [List.drop_length] at hR;exact hR) (c.up u1) J) ((form_ok iter hf).fold _)
theorem asgW_sound {pe:Pos}(hsw:swapsWith (.ListComp (.Name x2 pe) [⟨.Name x px,iter,[],0⟩,⟨.Name x2 px2,i2,[],0⟩] sc pos) (some (.Name y py)) spos.line σ.env=pure true)(hf2:plainArg i2=true)(h3:compScopeOk (fcc σ.cs nm) sc [x,x2]=true)(h1:XEok σ kk it (fcc σ.cs nm) iter)(h4:XEok σ kk e (inner (fcc σ.cs nm) sc [x]) i2)
  (hv:vcE σ.pw kk it sl led fun iv led1=>lstK iv fun l=>compW (fun x led2 k2=>vcE σ.pw kk e (sl++[some x]) led2 k2) l [] led1 fun acc led'=>setK sl i (.lst acc) fun sl=>K sl led') :
  wpAny (model rowP σ.w) σ.A (exec (.Assign [.Name y py] (.ListComp (.Name x2 pe) [⟨.Name x px,iter,[],0⟩,⟨.Name x2 px2,i2,[],0⟩] sc pos) spos) σ.env) Q E s:=by
 obtain ⟨cl,I⟩:=inner_ok (envOk G O) rfl h3
 exact Assign_two st.F rfl rfl hsw I.clos I.hcell I.kind I.loc (I.hx x (.head _)) (I.hx x2 (.tail _ (.head _))) (I.dbg x2 (.tail _ (.head _))) (kind_lookup (loc_k hl)) (notCls G)
  (h1 (envOk G O) (R.toE G) hv s _ _ st fun iv v led1 hid1 s1 g rv u1 st1=>by
   refine el1a3 st1.ex fun _ _ _ S1=>?_
   exact src_W G (envOk G O) rfl (F:=fun x led2 k2=>vcE σ.pw kk e (sl++[some x]) led2 k2) I.first ((R.mono u1).toE G) st1 g rv (fun cz' hid' C v led' k2 RI hF=>h4 (inner_env G I.first C) RI hF) fun n ys nx J =>
    finA_sound (K:=K) O hy hl (R.mono u1) S1.gs S1.dr S1.os (fun acc led hR=>hR rfl) (c.up u1) J) ((form_ok iter hf).fold _) (fun C=>(form_ok i2 hf2).fold _)
end
end
end
end Mine
end
section
namespace Mine
noncomputable section
theorem dctX_is {e:Expr}{u:Unit}(h:dctX e=some u):∃ p,e=.Dict [] [] p:=by
 cases e with
 | Dict ks vs p=>cases ks <;> cases vs <;> first | exact ⟨p,rfl⟩ | exact noSome h
 | _=>exact noSome h
theorem cmX_is {e:Expr}{q:CmX}(h:cmX e=some q):e=.Call (.Attribute q.v q.x q.ap) q.args [] q.pos:=by
 cases e with
 | Call f args kws pos=>cases kws with
  | nil=>cases f with
   | Attribute v x ap=>cases h;rfl
   | _=>exact noSome h
  | cons _ _=>exact noSome h
 | _=>exact noSome h
theorem clX_is {e:Expr}{q:Str × List Expr}(h:clX e=some q):∃ p pos,e=.Call (.Name q.1 p) q.2 [] pos:=by
 cases e with
 | Call f args kws pos=>cases kws with
  | nil =>
   refine el1a2 (iO (show (nameOf f).map (fun x=>(x,args))=some q from h)) fun x h1 e1q=>?_
   subst e1q
   obtain ⟨p,rfl⟩:=nameOf_is h1
   exact ⟨p,pos,rfl⟩
  | cons _ _=>exact noSome h
 | _=>exact noSome h
theorem asgX_is {s:Stmt}{q:Str × Expr}(h:asgX s=some q):∃ p pos,s=.Assign [.Name q.1 p] q.2 pos:=by
 cases s with
 | Assign ts v pos=>cases ts with
  | nil=>exact noSome h
  | cons t ts=>cases ts with
   | nil =>
    refine el1a2 (iO (show (nameOf t).map (fun x=>(x,v))=some q from h)) fun x h1 e1q=>?_
    subst e1q
    obtain ⟨p,rfl⟩:=nameOf_is h1
    exact ⟨p,pos,rfl⟩
   | cons _ _=>exact noSome h
 | _=>exact noSome h
section
variable {σ:Cx}{kk:Nat}{env:Env}{m:Mp}{cz hid fx:Ld}{led:MLd}{s:Shared}{cc:CC}{sl:Sl}{Q E:Value→Shared→Prop}
theorem EOk.er (hE:EOk σ E):ErC σ m cz hid σ.z E:=fun hz e h' tk' x s2 hid2 led2 _ st2 hx _ Z=>by
 refine el1a3 st2.ex fun _ _ _ S=>?_
 have z:=hE.rz hz e h' tk' .none (Z.less fun b o q=>hideAll_get _ (S.F.keep _ _ q) fun hm=>by rw [(hx b hm).1] at q;cases q)
 obtain ⟨h2,g2,d2,t2,o2⟩:=s2
 cases (show g2=_ from S.gs)
 cases (show d2=_ from S.dr)
 cases (show o2=_ from S.os)
 exact z
theorem methR_ok (G:Good σ kk){rec:Expr→IE}(ih:∀ e,VcOk σ kk (rec e) cc e){e:Expr}{q:MR}{may:Prop}{k:SV→MLd→Prop}(h:rmC rec e=some q)(EO:EnvOk σ env cc)(R:RelE σ env m cz hid cc sl)(hv:methR σ.pw may kk q.f q.c q.o q.as sl led k)(st:SS σ m cz hid led s)
  (c:Fin σ m cz hid led k Q) (er:ErC σ m cz hid may E):wpAny (model rowP σ.w) σ.A (eval e env) Q E s:=by
 refine el1a2 (iD h) fun p h1 h2=>?_
 rw [cmX_is h1]
 obtain ⟨v,x,ap,args,pos⟩:=p
 replace h2:Bool.casesOn (motive:=fun _=>Option MR) (memS x RM&&(Nat.beq (knd v) 4&&(Nat.beq ap.endLine pos.line&&(Nat.blt args.length 20&&args.all plainArg)))) none ((MT.find? fun z=>strEq (mn z.2.2) x).map fun z=>⟨z.1,z.2.2,rec v,argsC rec args⟩)=some q:=h2
 cases hb:memS x RM&&(Nat.beq (knd v) 4&&(Nat.beq ap.endLine pos.line&&(Nat.blt args.length 20&&args.all plainArg))) with
 | false=>rw [hb] at h2;exact noSome h2
 | true =>
  rw [hb] at h2
  refine el1a2 (iO h2) fun z h3 e1q=>?_
  subst e1q
  obtain ⟨a1,a⟩:=iB (iB hb).2
  obtain ⟨a2,a⟩:=iB a
  obtain ⟨a3,a4⟩:=iB a
  exact methG G ih EO a1 a2 a3 a4 h3 R hv st c er
end
theorem asgR_sound {σ:Cx}{kk i:Nat}{nm:List Str}{m:Mp}{cz hid fx:Ld}{led:MLd}{s:Shared}{sl:Sl}{x y:Str}{px py pos spos:Pos}{sc:Scope}{elt iter:Expr}{it:IE}{K:Sl→MLd→Prop}{Q:Flow→Shared→Prop}{E:Value→Shared→Prop}{rec:Expr→IE}{q:MR}
  (G:Good σ kk) (O:NmOk σ nm) (hy:nm[i]? = some y) (hl:isLocS σ.cs y=true) (hf:plainArg iter=true) (R:RelS σ nm m cz hid sl) (st:SS σ m (fx++cz) hid led s) (c:Fin0 σ nm fx cz hid K Q)
  (hsw:swapsWith (.ListComp elt [⟨.Name x px,iter,[],0⟩] sc pos) (some (.Name y py)) spos.line σ.env=pure true) (h3:compScopeOk (fcc σ.cs nm) sc [x]=true) (h1:XEok σ kk it (fcc σ.cs nm) iter) (ih:∀ e,VcOk σ kk (rec e) (inner (fcc σ.cs nm) sc [x]) e) (hrm:rmC rec elt=some q) (hE:EOk σ E)
  (hv:vcE σ.pw kk it sl led fun iv led1=>lstK iv fun l=>arg1 l fun x=>methR σ.pw σ.z kk q.f q.c q.o q.as (sl++[some x]) led1 fun v led'=>setK sl i (.lst [v]) fun sl=>K sl led') :
  wpAny (model rowP σ.w) σ.A (exec (.Assign [.Name y py] (.ListComp elt [⟨.Name x px,iter,[],0⟩] sc pos) spos) σ.env) Q E s:=by
 obtain ⟨cl,I⟩:=inner_ok (envOk G O) rfl h3
 refine el1a3 st.ex fun _ _ _ S0=>?_
 refine Assign_comp1 σ.z st.F G.B rfl rfl rfl hsw I.clos I.hcell I.kind I.loc (I.hx x (.head _)) (kind_lookup (loc_k hl)) (notCls G)
  (fun hz e h' tk' fl Z=>?_) (h1 (envOk G O) (R.toE G) hv s _ _ st fun iv v led1 hid1 s1 g rv u1 st1=>?_) ((form_ok iter hf).fold _)
 ·have z:=hE.rz hz e h' tk' fl Z
  obtain ⟨h2,g2,d2,t2,o2⟩:=s
  cases (show g2=_ from S0.gs)
  cases (show d2=_ from S0.dr)
  cases (show o2=_ from S0.os)
  exact z
 refine el1a3 st1.ex fun ledc r sp S=>?_
 refine el1a3 (lstK_of g) fun l e1q hz hk=>?_
 subst e1q
 refine el1a2 (arg1_of hk) fun xv e1q hm=>?_
 subst e1q
 refine el3a4 rv fun a o _ e1q ka e2q eRq=>?_
 clear rv
 subst e1q
 obtain ⟨nn,rfl⟩:=e2q
 refine el2a3 eRq fun w _ e1q rw1 e=>?_
 clear eRq
 subst e1q
 cases (show _=[] from e)
 refine ⟨⟨a,w,ledc++((fx++cz)++hid1),rfl,rfl,S.F,S.N,src_lst G ka ledc hid1 fun _ h=>h,?_⟩,s1.heap,s1.toks,shared_eta (S.gs.trans S0.gs.symm) (S.dr.trans S0.dr.symm) (S.os.trans S0.os.symm)⟩
 intro A oA C oC D m₂ h tk E' hC hx FF N off ne er
 have st2:=SS.within (s':={ s1 with heap:=h,toks:=tk }) r sp FF N off ne S.gs S.dr S.os
 have RI:=inner_rel G (envOk G O) rfl (cz':=(A,oA)::(C,oC)::(D,LCg.lst [])::(fx++cz)) (vs:=[xv]) (C:=C) (oC:=oC) I ((R.mono u1).toE G) (fun q hq=>.tail _ (.tail _ (.tail _ hq))) (.tail _ (.head _)) hC rfl fun j x' v' e1 e2=>by
  cases j with
  | zero=>cases e1;cases e2;exact ⟨w,hx,rw1⟩
  | succ j=>cases e1
 refine methR_ok G ih hrm (inner_env G I C) RI hm st2 (fun y v led3 hid3 s3 gy ry u3 st3=>?_) fun hz e h' tk' x s2 hid2 led2 u2 st4 hx2 hcz Z=>?_
 ·refine el1a8 st3.without fun ledc3 r3 sp3 F3 N3 off3 e1 e2 e3=>?_
  refine ⟨s3.heap,s3.toks,ledc3++((fx++cz)++hid3),shared_eta (e1.trans S.gs.symm) (e2.trans S.dr.symm) (e3.trans S.os.symm),F3,N3,off3,src_lst G ka _ _ u3,?_⟩
  exact finA_sound (K:=K) (Rr:=fun _ acc led=>setK sl i (.lst acc) fun sl=>K sl led) (n:=0) O hy hl ((R.mono u1).mono u3) S.gs S.dr S.os (fun acc led hR=>hR) ((c.up u1).up u3) ⟨[y],led3,ledc3,hid3,gy,⟨v,[],rfl,ry,rfl⟩,fun _ h=>h,r3,sp3,rfl⟩
 ·refine el1a3 st4.ex fun ledc4 r4 sp4 S4=>?_
  have zz:=er hz e h' tk' (Z.less fun b o q=>hideAll_get _ (S4.F.keep _ _ q) fun hm=>by rw [(hx2 b hm).1] at q;cases q) ?_
  ·obtain ⟨h2,g2,d2,t2,o2⟩:=s2
   have q1:g2=s1.gens:=S4.gs.trans S.gs.symm
   have q2:d2=s1.drawn:=S4.dr.trans S.dr.symm
   have q3:o2=s1.os:=S4.os.trans S.os.symm
   cases q1;cases q2;cases q3
   exact zz
  ·refine el3a6 Z fun _ _ _ _ _ _ _ _ u=>?_
   clear Z
   refine el2a2 hC fun es ep hd _=>?_
   clear hC
   exact u C oC (hideAll_get _ (S4.N _ (iR (.tail _ (.head _)))).1 (hcz _ (.tail _ (.head _)))) fun vs q=>by rw [hd] at q;cases q
end
end Mine
end
section
namespace Mine
noncomputable section
section
variable {σ:Cx}{kk:Nat}{nm mt:List Str}{m:Mp}{cz hid fx:Ld}{led led':MLd}{s:Shared}{sl:Sl}{X:Pw}{K:FK}
noncomputable abbrev FinS (σ:Cx)(nm:List Str)(fx hid:Ld)(K:FK)(Q:Flow→Shared→Prop):Prop:=∀ fl f sl' led' cz' hid' m' s',K fl sl' led'→FlR (Kn σ hid') fl f→RelS σ nm m' cz' hid' sl'→(∀ q∈hid,q∈hid')→SS σ m' (fx++cz') hid' led' s'→Q f s'
theorem FinS.up {hid1:Ld}{Q:Flow→Shared→Prop}(c:FinS σ nm fx hid K Q)(u:∀ q∈hid,q∈hid1):FinS σ nm fx hid1 K Q:=fun fl f sl' led' cz' hid' m' s' a b d u' e=>c fl f sl' led' cz' hid' m' s' a b d (fun q hq=>u' q (u q hq)) e
noncomputable def XS (σ:Cx)(nm:List Str)(b:List Stmt)(sl:Sl)(led:MLd)(K:FK):Prop :=
 ∀ (fx cz hid:Ld) (m:Mp) (s:Shared) (Q:Flow→Shared→Prop) (E:Value→Shared→Prop),EOk σ E→RelS σ nm m cz hid sl→SS σ m (fx++cz) hid led s→FinS σ nm fx hid K Q→wpAny (model rowP σ.w) σ.A (execs b σ.env) Q E s
noncomputable def XF (σ:Cx)(nm:List Str)(b:Stmt)(sl:Sl)(led:MLd)(K:FK):Prop :=
 ∀ (fx cz hid:Ld) (m:Mp) (s:Shared) (Q:Flow→Shared→Prop) (E:Value→Shared→Prop),EOk σ E→RelS σ nm m cz hid sl→SS σ m (fx++cz) hid led s→FinS σ nm fx hid K Q→wpAny (model rowP σ.w) σ.A (exec b σ.env) Q E s
theorem flR_ret {K:KA}{x:SV}{v:Value}(h:VR K x v):FlR K (.ret x) (.ret v):=⟨v,rfl,h⟩
theorem XF.seq {a:Stmt}{b:List Stmt}{r:Sl→MLd→Prop}(h:XF σ nm a sl led (thenK r K))(hr:∀ sl' led',r sl' led'→XS σ nm b sl' led' K):XS σ nm (a::b) sl led K:=fun fx cz hid m s Q E hE R st c =>
 wpAny_execs_cons (h fx cz hid m s _ E hE R st fun fl f sl' led' cz' hid' m' s' hk hf R' u st'=>by
  cases fl with
  | next=>cases (show f=.next from hf);exact hr sl' led' hk fx cz' hid' m' s' Q E hE R' st' (c.up u)
  | brk=>cases (show f=.brk from hf);exact c .brk _ _ _ _ _ _ _ hk rfl R' u st'
  | cont=>cases (show f=.cont from hf);exact c .cont _ _ _ _ _ _ _ hk rfl R' u st'
  | ret x=>obtain ⟨v,rfl,hv⟩:=hf;exact c (.ret x) _ _ _ _ _ _ _ hk ⟨v,rfl,hv⟩ R' u st')
theorem ifI_of {c:Bool}{a:IS}(h:vcS X kk (ifI c a) sl led K):c=true∧vcS X kk a sl led K:=by
 cases c
 ·exact h.elim
 ·exact ⟨rfl,h⟩
theorem optI_of {α:Type}{o:Option α}{f:α→IS}(h:vcS X kk (optI o f) sl led K):∃ a,o=some a∧vcS X kk (f a) sl led K:=by
 cases o
 ·exact h.elim
 ·exact ⟨_,rfl,h⟩
theorem orI_of {α:Type}{o:Option α}{f:α→IS}{d:IS}(h:vcS X kk (orI o f d) sl led K):(∃ a,o=some a∧vcS X kk (f a) sl led K)∨vcS X kk d sl led K:=by
 cases o
 ·exact .inr h
 ·exact .inl ⟨_,rfl,h⟩
theorem one_of {α:Type}{l:List α}{f:α→List α→IS}(h:vcS X kk (List.casesOn (motive:=fun _=>IS) l .bad f) sl led K):∃ a r,l=a::r∧vcS X kk (f a r) sl led K:=by
 cases l
 ·exact h.elim
 ·exact ⟨_,_,rfl,h⟩
noncomputable abbrev SPx (σ:Cx)(nm mt:List Str):SP:=⟨mt,σ.cs,nm⟩
section
variable (G:Good σ kk)(O:NmOk σ nm)
include G
theorem cx_ok (cc:CC)(e:Expr):VcOk σ kk (cmpX cc e) cc e:=by rw [cmpX];exact cmp_ok G 30 cc e
theorem ex_xe {cc:CC}(e:Expr):XEok σ kk (cmpX cc e) cc e:=(cx_ok G cc e).xe
theorem val_xe {cc:CC}{b:Bool}(e:Expr):XEok σ kk (valC b (cmpX cc) e) cc e:=by
 cases b with
 | false=>exact ex_xe G e
 | true =>
  intro env m cz hid led sl k EO R hv
  rcases orC_of (show vcE σ.pw kk (orC (lstX e) _ _) sl led k from hv) with ⟨es,h,hv⟩ | hv
  ·obtain ⟨p,rfl⟩:=lstX_is h
   exact x_mls G (cx_ok G cc) EO R hv
  rcases orC_of (show vcE σ.pw kk (orC (dctX e) _ _) sl led k from hv) with ⟨u,h,hv⟩ | hv
  ·obtain ⟨p,rfl⟩:=dctX_is h
   exact x_mdc G EO R hv
  ·exact ex_xe G e EO R hv
theorem argsZ_XL {cc:CC}{env:Env}(EO:EnvOk σ env cc){es:List Expr}:∀ {fs:List Bool} {hid:Ld} {led:MLd} {K:List SV→MLd→Prop},RelE σ env m cz hid cc sl→vcE σ.pw kk (argsZ (cmpX cc) fs es) sl led (fun r l=>tupK r fun vs=>K vs l)→XL σ env m cz es hid led K:=by
 induction es with
 | nil=>exact fun R hv=>hv
 | cons e es ihe=>exact fun R hv=>show XE _ _ _ _ _ _ _ _ from fun s Q E st c=>val_xe G e EO R hv s Q E st fun r v led' hid' s' g=>c r v led' hid' s' fun hid1 u=>ihe (R.mono (hid':=hid1) u) g
theorem valT_xe {cc:CC}{fs:List Bool}(e:Expr):XEok σ kk (valT fs (cmpX cc) e) cc e:=fun EO R hv=>by
 rcases orC_of hv with ⟨es,h,hv⟩ | hv
 ·refine el2a1 (tupX_is h) fun k p e1q=>?_
  subst e1q
  obtain ⟨h1,hv⟩:=ifC_of hv
  exact fun s Q E st c=>Tuple_ ((argsZ_XL G EO R hv).spl h1 st fun xs vs led1 hid1 s1 g r1 u1 st1=>tupMade st1 r1 (condK_of g).1 (condK_of g).2 (Fin.up c u1))
 ·exact ex_xe G e EO R hv
include O
theorem asgL_ok {i:Nat}{y:Str}{py pos:Pos}{v:Expr}{l:LcX}{r:IS}(hl:lcX v=some l)(hi:ixN nm y=some i)(hv:vcS σ.pw kk (asgL (SPx σ nm mt) i y py v l r) sl led K):XF σ nm (.Assign [.Name y py] v pos) sl led (thenK (fun sl' l'=>vcS σ.pw kk r sl' l' K) K):=by
 replace hl:=lcX_is hl
 subst hl
 obtain ⟨a1,hv1⟩:=ifI_of hv
 clear hv
 obtain ⟨h1,h2⟩:=iB a1
 clear a1
 replace h2:=swL_of (line:=pos.line) h2
 obtain ⟨elt,gens,sc,pos2⟩:=l
 replace h2:swapsWith (.ListComp elt gens sc pos2) (some (.Name y py)) pos.line σ.env=pure true:=h2
 replace h1:isLocS σ.cs y=true:=h1
 show XF σ nm (.Assign [.Name y py] (.ListComp elt gens sc pos2) pos) sl led _
 dsimp only at hv1
 cases gens with
 | nil=>exact hv1.elim
 | cons g gs =>
 obtain ⟨a2,hv3⟩:=ifI_of (show vcS _ _ (ifI _ _) _ _ _ from hv1)
 clear hv1
 obtain ⟨tg,iter,ifs,as⟩:=g
 obtain ⟨h3,h4⟩:=iB a2
 clear a2
 replace h3:plainArg iter=true:=h3
 replace h4:=isZ_of h4
 replace h4:as=0:=h4
 subst h4
 have c0:∀ {fx cz hid Q},FinS σ nm fx hid (thenK (fun sl' l'=>vcS σ.pw kk r sl' l' K) K) Q→Fin0 σ nm fx cz hid (fun sl' l'=>vcS σ.pw kk r sl' l' K) Q:=fun c sl' led' hid' m' s' a b u st'=>c .next .next _ _ _ _ _ _ a rfl b u st'
 replace hi:=ixN_get hi
 cases gs with
 | nil =>
  rcases orI_of (show vcS _ _ (orI _ _ _) _ _ _ from hv3) with ⟨x,hx,hv4⟩ | hv4
  ·clear hv3
   obtain ⟨px,e⟩:=nameOf_is hx
   clear hx
   replace e:tg=.Name x px:=e
   subst e
   obtain ⟨h5,hv5⟩:=ifI_of hv4
   clear hv4
   cases ifs with
   | nil =>
    rcases orI_of (show vcS _ _ (orI _ _ _) _ _ _ from hv5) with ⟨q,hq,hv6⟩ | hv6
    ·clear hv5
     rcases (show _∨_ from hv6) with hv7 | hv7
     ·exact fun fx cz hid m s Q E hE R st c=>asgU_sound G O hi h1 h3 R st (c0 c) h2 h5 (ex_xe G _) (VcOk.bad (e:=elt)).xe hv7
     ·exact fun fx cz hid m s Q E hE R st c=>asgR_sound G O hi h1 h3 R st (c0 c) h2 h5 (ex_xe G _) (cx_ok G _) hq hE hv7
    ·exact fun fx cz hid m s Q E hE R st c=>asgU_sound G O hi h1 h3 R st (c0 c) h2 h5 (ex_xe G _) (ex_xe G _) hv6
   | cons t ts =>
    obtain ⟨h6,hv6⟩:=ifI_of (show vcS _ _ (ifI _ _) _ _ _ from hv5)
    clear hv5
    replace h6:=isNil_of h6
    subst h6
    exact fun fx cz hid m s Q E hE R st c=>asgT_sound G O hi h1 h3 R st (c0 c) h2 h5 (ex_xe G _) (cx_ok G _ t).xt (ex_xe G _) hv6
  ·clear hv3
   obtain ⟨h5,hv5⟩:=ifI_of hv4
   clear hv4
   replace h5:ifs=[]:=isNil_of h5
   subst h5
   refine el1a2 (optI_of hv5) fun xs hxs hv6=>?_
   clear hv5
   refine el1a2 (iD hxs) fun es h7 h8=>?_
   clear hxs
   refine el2a1 (tupX_is h7) fun n tp e=>?_
   clear h7
   replace e:tg=.Tuple es n tp:=e
   subst e
   cases xs with
   | nil=>exact hv6.elim
   | cons x xs=>cases xs with
    | nil=>exact hv6.elim
    | cons x2 xs =>
     obtain ⟨h9,hv9⟩:=ifI_of (show vcS _ _ (ifI _ _) _ _ _ from hv6)
     clear hv6
     obtain ⟨k9,a10⟩:=iB h9
     clear h9
     obtain ⟨h10,h11⟩:=iB a10
     clear a10
     replace k9:=isNil_of k9
     subst k9
     refine el2a1 (namesOf_two h8) fun px px2 e1q=>?_
     subst e1q
     exact fun fx cz hid m s Q E hE R st c=>asgP_sound G O hi h1 h3 R st (c0 c) h2 (Bool.not_eq_true' _▸h10) h11 (ex_xe G _) (ex_xe G _) hv9
 | cons g2 gs =>
  obtain ⟨a3,hv4⟩:=ifI_of (show vcS _ _ (ifI _ _) _ _ _ from hv3)
  clear hv3
  obtain ⟨h5,a4⟩:=iB a3
  clear a3
  obtain ⟨h6,a5⟩:=iB a4
  clear a4
  obtain ⟨h7,a6⟩:=iB a5
  clear a5
  obtain ⟨h8,h9⟩:=iB a6
  clear a6
  obtain ⟨tg2,i2,ifs2,as2⟩:=g2
  replace h5:=isNil_of h5
  replace h6:ifs=[]:=isNil_of h6
  replace h7:ifs2=[]:=isNil_of h7
  replace h9:as2=0:=isZ_of h9
  subst h5 h6 h7 h9
  refine el1a2 (optI_of hv4) fun x hx hv5=>?_
  clear hv4
  refine el1a2 (optI_of hv5) fun y2 hy2 hv6=>?_
  clear hv5
  refine el1a2 (optI_of hv6) fun y1 hy1 hv7=>?_
  clear hv6
  obtain ⟨a7,hv8⟩:=ifI_of hv7
  clear hv7
  obtain ⟨h10,h11⟩:=iB a7
  clear a7
  obtain ⟨px,e1⟩:=nameOf_is hx
  obtain ⟨px2,e2⟩:=nameOf_is hy2
  obtain ⟨pe,e3⟩:=nameOf_is hy1
  clear hx hy2 hy1
  replace h10:=strEq_eq h10
  subst h10
  replace e1:tg=.Name x px:=e1
  replace e2:tg2=.Name y1 px2:=e2
  replace e3:elt=.Name y1 pe:=e3
  subst e1 e2 e3
  exact fun fx cz hid m s Q E hE R st c=>asgW_sound G O hi h1 h3 R st (c0 c) h2 h8 h11 (ex_xe G _) (ex_xe G _) hv8
end
end
end
end Mine
end
section
namespace Mine
noncomputable section
theorem exc_init {w:World}{A:Around}{E:Value→Shared→Prop}{p:Program}{loose:List Str}{mean:ExcName→Option Value}{mg mb:Str→Option Value}{h:Heap}{gs:Array GenState}{dr:Drawn}{t:Nat}{os:OsState}{e t0:Addr}{sv:Str}{tk:Tok}{Q:Value→Shared→Prop}
  (X:(H.K w.params).In h) (T:Top p loose mean mg mb h) (hr:A.depth < recursionLimit) (he:h.get? e=some (excO t0 none)) (hne:e≠h.objs.size)
  (hq:∀ h' tk' dd,(∀ b o,b≠e→h.get? b=some o→h'.get? b=some o)→h'.get? e=some (excO t0 (some dd))→Q .none ⟨h',gs,dr,tk',os⟩):wpAny (model rowP w) A (call (.ref 35) [.ref e,.str sv tk]) Q E ⟨h,gs,dr,t,os⟩:=by
 refine wpAny_call (codeAny_call_def (binds:=[("self",.ref e),("message",.str sv tk)]) hr (X 35 _ rfl) rfl (Top.nolimit T) (codeRec_of X (by kernel_rfl)) rfl (BindsTo.of_eq rfl) (by decide) (fun x hx=>(iC hx).elim (fun e=>e▸rfl) fun hx=>iS hx▸rfl) (fun h₁ hns hk₁=>?_) rfl rfl rfl)
 have X1:=X.keeps hk₁
 obtain ⟨c,T1⟩:=limit_two X1
 refine wpAny_execs_cons (plainObj_wpAny_Assign_Attribute (wpAny_Name (wpAny_loadName_local rfl rfl hns rfl (wpAny_Name (wpAny_loadName_local rfl rfl hns rfl ?_) (by decide))) (by decide)))
 refine two_store T1 (hk₁ _ _ he) (by intro c q;cases q) (limit_none X1 (.inr (.inl rfl))) (mill_none X1 (.inl rfl)) (limit_none X1 (.inr (.inr rfl))) (mill_none X1 (.inr rfl)) no_message ?_
 rintro h₂ tk₂ ⟨od,hod⟩ hk hx
 exact wpAny_execs_nil (hq h₂ tk₂ _ (fun b o hb q=>hk b o hb (hk₁ _ _ q)) hx)
section
variable {σ:Cx}{kk:Nat}{nm:List Str}{m:Mp}{cz hid:Ld}{led:MLd}{s:Shared}
theorem limit_call (G:Good σ kk)(hk:Nat.ble 9 kk=true){Q E:Value→Shared→Prop}{sv:Str}{tk:Tok}(st:SS σ m cz hid led s)
  (c:∀ e t dd vs h' tk',Fr σ.g σ.L h' m→News σ.g σ.L h' [(e,excO t (some dd)),(t,tupOf vs)]→Q (.ref e) ⟨h',σ.gs,σ.dr,tk',σ.os⟩):wpAny (model rowP σ.w) σ.A (call (.ref 94) [.str sv tk]) Q E s:=by
 apply st.split
 intro h t _ _ _ F _
 have XX:=G.X.keeps F.keep
 refine el1a2 (mill_init_fn XX) fun oI hI hIc=>?_
 obtain ⟨cT,TT⟩:=limit_two XX
 refine two_call TT (limit_none XX (.inl rfl)) (mill_init XX) hI hIc ?_ (iE rfl)
 have F2:=(F.push { cls:=.type "tuple",data:=.seq [Value.str sv tk].toArray }).push (excO h.objs.size none)
 have N1:=News.push F News.nil { cls:=.type "tuple",data:=.seq [Value.str sv tk].toArray }
 have N2:=News.push (F.push { cls:=.type "tuple",data:=.seq [Value.str sv tk].toArray }) N1 (excO h.objs.size none)
 rw [Heap.size_push] at N2
 have z1:=N2 _ (.head _)
 have z2:=N2 _ (.tail _ (.head _))
 have hd:=G.d 2 (Nat.ble_eq.mpr (Nat.le_trans (by decide) (iE hk)))
 refine exc_init (G.X.keeps F2.keep) (G.T.keeps F2.keep) (show σ.dp+1 < recursionLimit by omega) z1.1 (Nat.ne_of_lt (Heap.lt_size z1.1)) fun h' tk' dd ke hx=>⟨rfl,c _ h.objs.size dd [.str sv tk] h' tk' ⟨F2.ns.at' fun o q=>ke _ o (Ne.symm z1.2.1) q,fun b o q=>ke b o (by rintro rfl;rw [z1.2.2] at q;cases q) (F2.keep b o q),F2.above⟩ fun q hq=>?_⟩
 rcases iC hq with rfl | hq
 ·exact ⟨hx,z1.2⟩
 ·rw [iS hq]
  exact ⟨ke _ _ (Nat.ne_of_lt (Nat.lt_succ_self _)) z2.1,z2.2⟩
theorem lim_name (w:World):(nsIn (H.K w.params) mainGlobals "LimitFault"==some (some (.ref 94))&&keepIn (H.K w.params) (.ref 94))=true:=by kernel_rfl
theorem lim_form {cc:CC}{e:Expr}{C:Expr→Prop}(hx:limX cc e=true)(k:∀ sv n p p1 ps,cc.isG "LimitFault"=true→C (.Call (.Name "LimitFault" p1) [.Constant (.str sv) n p] [] ps)):C e:=by
 refine el1a2 (optB_of hx) fun q h1 h2=>?_
 refine el2a1 (clX_is h1) fun p ps e1q=>?_
 subst e1q
 clear h1 hx
 obtain ⟨x,args⟩:=q
 obtain ⟨h3,h4⟩:=iB h2
 obtain ⟨h5,h6⟩:=iB h4
 clear h2 h4
 cases (show x="LimitFault" from strEq_eq h3)
 cases args with
 | nil=>cases h6
 | cons a r =>
 obtain ⟨h7,h8⟩:=iB (show (isNil r&&optB (keyC a) fun _=>true)=true from h6)
 clear h6
 cases isNil_of h7
 refine el1a2 (optB_of h8) fun sv h9 _=>?_
 cases a with
 | Constant c n p=>cases c with
  | str s=>cases h9;exact k _ _ _ _ _ h5
  | _=>exact noSome h9
 | _=>exact noSome h9
theorem VRs.str1 {C:List Value→Prop}{K:KA}{xs:List SV}{vs:List Value}(hx:∃ sv,xs=[.str sv])(h:VRs K xs vs)(k:∀ s t,C [.str s t]):C vs:=by
 obtain ⟨sv,rfl⟩:=hx
 obtain ⟨_,_,rfl,⟨to,rfl⟩,e⟩:=h
 cases e
 exact k _ to
theorem rse_ok (G:Good σ kk)(O:NmOk σ nm){e:Expr}{pos:Pos}{Q:Flow→Shared→Prop}{E:Value→Shared→Prop}(hx:limX (fcc σ.cs nm) e=true)(hk:Nat.ble 9 kk=true)
  (hE:∀ e t dx vs h' tk m,Fr σ.g σ.L h' m→News σ.g σ.L h' [(e,excO t dx),(t,tupOf vs)]→E (.ref e) ⟨h',σ.gs,σ.dr,tk,σ.os⟩) (st:SS σ m cz hid led s):wpAny (model rowP σ.w) σ.A (exec (.Raise (some e) none pos) σ.env) Q E s:=by
 apply lim_form hx
 intro sv n p2 p ps h5
 clear hx
 have g:=iB (lim_name σ.w)
 refine exec_raise (C:=94) rfl (Call_ ((envOk G O).glob _ _ h5 (eq_of_beq g.1) _ _ _ _ _ st.F ?_))
 refine args_then (us:=[]) (k:=fun xs l=>∃ sv,xs=[.str sv]) (P:=(H.K σ.w.params).In) rfl (fun h X=>keeps_K g.2 h X) (show XE _ _ _ _ _ _ _ _ from fun s1 Q1 E1 st1 c1=>Constant_str (c1 (.str sv) _ _ _ _ (fun hid1 u=>⟨sv,rfl⟩) ⟨_,rfl⟩ (fun _ h=>h) (st1.tok _))) st fun xs vs led' hid' s' hx hv u st'=>⟨G.X.keeps st'.F.keep,?_⟩
 apply hv.str1 hx
 intro s tk
 exact limit_call G hk st' fun e t dd vs h' tk' F' N'=>(limit_two (G.X.keeps F'.keep)).elim fun c T=>⟨e,some dd,t,_,_,_,c,rfl,T,(N' _ (.head _)).1,hE e t _ vs h' tk' m F' N'⟩
end
end
end Mine
end
section
namespace Mine
noncomputable section
section
variable {σ:Cx}{kk:Nat}{nm mt:List Str}{m:Mp}{cz hid fx:Ld}{led led':MLd}{s:Shared}{sl:Sl}{X:Pw}{K:FK}
variable (G:Good σ kk)(O:NmOk σ nm)
include G O
theorem sAttr_ok {v o:Expr}{x:Str}{c:Nat}{p pos:Pos}{r:IS}(hf:plainArg v=true)(hc:ATN.findIdx? (strEq x)=some c)(hv:vcS σ.pw kk (.sAttr c (cmpX (fcc σ.cs nm) o) (valC true (cmpX (fcc σ.cs nm)) v) r) sl led K):XF σ nm (.Assign [.Attribute o x p] v pos) sl led (thenK (fun sl' l'=>vcS σ.pw kk r sl' l' K) K):=fun fx cz hid m s Q E hE R st k=>by
 refine el1a2 (List.findIdx?_eq_some_iff_getElem.mp hc) fun h2 e1 _=>?_
 have e:x=an c:=by rw [strEq_eq e1,an_eq,List.getElem?_eq_getElem h2];rfl
 rw [e]
 exact plainObj_wpAny_Assign_Attribute (val_xe G v (envOk G O) (R.toE G) hv s _ _ st fun x1 v1 led1 hid1 s1 g rv u1 st1 =>
  ex_xe G o (envOk G O) ((R.mono u1).toE G) g s1 _ _ st1 fun x2 v2 led2 hid2 s2 g2 rv2 u2 st2=>attrS_sound G g2 st2 rv2 (rv.up u2) fun led' s' g5 st'=>k .next .next _ _ _ _ _ _ g5 rfl ((R.mono u1).mono u2) (fun q hq=>u2 q (u1 q hq)) st')
  ((form_ok v hf).swT (.Attribute o (an c) p) pos.line σ.env fun _ _ e=>Expr.noConfusion e)
theorem aAttr_ok {v o:Expr}{x:Str}{c:Nat}{p pos:Pos}{r:IS}(hc:ATN.findIdx? (strEq x)=some c)(hv:vcS σ.pw kk (.aAttr c (cmpX (fcc σ.cs nm) o) (cmpX (fcc σ.cs nm) v) r) sl led K):XF σ nm (.AugAssign (.Attribute o x p) .Add v pos) sl led (thenK (fun sl' l'=>vcS σ.pw kk r sl' l' K) K):=fun fx cz hid m s Q E hE R st k=>by
 refine el1a2 (List.findIdx?_eq_some_iff_getElem.mp hc) fun h2 e1 _=>?_
 have e:x=an c:=by rw [strEq_eq e1,an_eq,List.getElem?_eq_getElem h2];rfl
 rw [e]
 clear hc e1 e
 exact wpAny_AugAssign_AttributeAny (ex_xe G o (envOk G O) (R.toE G) hv s _ _ st fun ov u led1 hid1 s1 g ru u1 st1 =>
  attr_sound G (k:=fun old l=>intE old (fun x=>vcE σ.pw kk (cmpX (fcc σ.cs nm) v) sl l fun v led2=>intE v (fun y=>attrS ov c (.int (x+y)) led2 fun led'=>vcS σ.pw kk r sl led' K) False) False) g st1 ru fun old w led2 hid2 s2 g2 rw2 u2 st2=>by
   refine el1a2 (noE (intE_of g2)) fun x0 e1q g3=>?_
   subst e1q
   obtain ⟨t0,rfl⟩:=rw2
   exact ex_xe G v (envOk G O) (((R.mono u1).mono u2).toE G) g3 s2 _ _ st2 fun y vy led3 hid3 s3 g4 ry u3 st3=>by
    refine el1a2 (noE (intE_of g4)) fun y0 e1q g5=>?_
    subst e1q
    obtain ⟨t1,rfl⟩:=ry
    exact PySem.P.iadd_int (attrS_sound G g5 (st3.tok _) ((ru.up u2).up u3) ⟨_,rfl⟩ fun led' s' g8 st'=>k .next .next _ _ _ _ _ _ g8 rfl (((R.mono u1).mono u2).mono u3) (fun q hq=>u3 q (u2 q (u1 q hq))) st'))
theorem sItem_ok {v o i:Expr}{p pos:Pos}{r:IS}(hf:plainArg v=true)(hv:vcS σ.pw kk (.sItem (cmpX (fcc σ.cs nm) o) (cmpX (fcc σ.cs nm) i) (cmpX (fcc σ.cs nm) v) r) sl led K):XF σ nm (.Assign [.Subscript o i p] v pos) sl led (thenK (fun sl' l'=>vcS σ.pw kk r sl' l' K) K):=fun fx cz hid m s Q E hE R st k =>
 wpAny_Assign_Subscript (ex_xe G v (envOk G O) (R.toE G) hv s _ _ st fun x1 v1 led1 hid1 s1 g rv u1 st1 =>
  ex_xe G o (envOk G O) ((R.mono u1).toE G) g s1 _ _ st1 fun x2 v2 led2 hid2 s2 g2 rv2 u2 st2=>ex_xe G i (envOk G O) (((R.mono u1).mono u2).toE G) g2 s2 _ _ st2 fun x3 v3 led3 hid3 s3 g3 rv3 u3 st3=>by
   refine el1a2 (noE (refE_of g3)) fun a e1q g4=>?_
   subst e1q
   cases rv2
   rcases intE_of g4 with ⟨j,rfl,g5⟩ | g5
   rotate_left
   ·refine el1a2 (noE (strE_of g5)) fun x e1q eRq=>?_
    subst e1q
    obtain ⟨led4,hU,g6⟩:=eRq
    obtain ⟨t,rfl⟩:=rv3
    exact dict_store st3 hU fun s' st'=>k .next .next _ _ _ _ _ _ g6 rfl (((R.mono u1).mono u2).mono u3) (fun q hq=>u3 q (u2 q (u1 q hq))) st'
   cases j with
   | negSucc n=>exact g5.elim
   | ofNat j =>
    obtain ⟨l,led4,hU,hj,g6⟩:=g5
    obtain ⟨t,rfl⟩:=rv3
    exact item_store G st3 hj.1 hj.2 hU ((rv.up u2).up u3) fun s' st'=>k .next .next _ _ _ _ _ _ g6 rfl (((R.mono u1).mono u2).mono u3) (fun q hq=>u3 q (u2 q (u1 q hq))) st')
  ((form_ok v hf).swT (.Subscript o i p) pos.line σ.env fun _ _ e=>Expr.noConfusion e)
theorem asgC_ok {t v:Expr}{pos:Pos}{r:IS}(hv:vcS σ.pw kk (asgC (SPx σ nm mt) t v r) sl led K):XF σ nm (.Assign [t] v pos) sl led (thenK (fun sl' l'=>vcS σ.pw kk r sl' l' K) K):=by
 obtain ⟨hf,hv1⟩:=ifI_of hv
 rcases orI_of hv1 with ⟨q,h1,hv2⟩ | hv2
 ·refine el1a2 (optI_of hv2) fun i hi hv3=>?_
  rw [namX_is h1]
  rcases orI_of hv3 with ⟨l,h2,hv4⟩ | hv4
  ·exact asgL_ok G O h2 hi hv4
  ·obtain ⟨h3,hv6⟩:=ifI_of hv4
   rcases orI_of hv6 with ⟨z,hz,hv5⟩ | hv5
   ·exact fun fx cz hid m s Q E hE R st k=>wpAny_Assign_Name (methR_ok G (cx_ok G _) hz (envOk G O) (R.toE G) hv5 st (fun x u led1 hid1 s1 g rv u1 st1 =>
     store_sound G O (ixN_get hi) (R.mono u1) st1 rv fun m' cz' s' R' st'=>k .next .next _ _ _ _ _ _ (setK_of g) rfl R' u1 st') hE.er) ((form_ok v hf).swN (Bool.not_eq_true' _▸h3) _ _ _)
   exact fun fx cz hid m s Q E hE R st k=>wpAny_Assign_Name (val_xe G v (envOk G O) (R.toE G) hv5 s _ _ st fun x u led1 hid1 s1 g rv u1 st1 =>
    store_sound G O (ixN_get hi) (R.mono u1) st1 rv fun m' cz' s' R' st'=>k .next .next _ _ _ _ _ _ (setK_of g) rfl R' u1 st') ((form_ok v hf).swN (Bool.not_eq_true' _▸h3) _ _ _)
 rcases orI_of hv2 with ⟨es,h1,hv3⟩ | hv3
 ·refine el2a1 (tupX_is h1) fun k0 p0 e1q=>?_
  subst e1q
  refine el1a2 (optI_of hv3) fun xs h2 hv4=>?_
  refine el1a2 (optI_of hv4) fun is h3 hv5=>?_
  obtain ⟨h4,hv6⟩:=ifI_of hv5
  obtain ⟨h5,h6⟩:=iB h4
  exact fun fx cz hid m s Q E hE R st k=>unpack_sound G O (K:=fun sl' l'=>vcS σ.pw kk r sl' l' K) h2 h3 h5 hf h6 (valT_xe G v (envOk G O) (R.toE G) hv6) R st fun sl' led' cz' hid' m' s' a b u st'=>k .next .next _ _ _ _ _ _ a rfl b u st'
 rcases orI_of hv3 with ⟨q,h1,hv4⟩ | hv4
 ·obtain ⟨p,rfl⟩:=attX_is h1
  refine el1a2 (optI_of hv4) fun c h2 hv5=>?_
  exact sAttr_ok G O hf h2 hv5
 ·refine el1a2 (optI_of hv4) fun q h1 hv5=>?_
  obtain ⟨p,rfl⟩:=subX_is h1
  obtain ⟨h2,hv6⟩:=ifI_of hv5
  exact sItem_ok G O hf hv6
noncomputable abbrev BlkOk (σ:Cx)(kk:Nat)(nm:List Str)(ir:IS)(b:List Stmt):Prop:=∀ {sl:Sl} {led:MLd} {K:FK},vcS σ.pw kk ir sl led K→XS σ nm b sl led K
theorem if_ok {t:Expr}{a d:List Stmt}{pos:Pos}{ia id r:IS}(ha:BlkOk σ kk nm ia a)(hd:BlkOk σ kk nm id d)(hv:vcS σ.pw kk (.ifS (cmpX (fcc σ.cs nm) t) ia id r) sl led K):XF σ nm (.If t a d pos) sl led (thenK (fun sl' l'=>vcS σ.pw kk r sl' l' K) K):=fun fx cz hid m s Q E hE R st k =>
 wpAny_If ((cx_ok G _ t).xt (k:=fun c l=>ifB c _ _) (envOk G O) (R.toE G) hv s _ _ st fun b' led1 hid1 s1 g u1 st1=>by
  cases b' with
  | true=>exact ha (g.1 rfl) fx cz hid1 m s1 Q E hE (R.mono u1) st1 (k.up u1)
  | false=>exact hd (g.2 rfl) fx cz hid1 m s1 Q E hE (R.mono u1) st1 (k.up u1))
theorem whl_ok {t:Expr}{a:List Stmt}{pos:Pos}{ia r:IS}(ha:BlkOk σ kk nm ia a)(hv:vcS σ.pw kk (.whl (cmpX (fcc σ.cs nm) t) ia r) sl led K):XF σ nm (.While t a [] pos) sl led (thenK (fun sl' l'=>vcS σ.pw kk r sl' l' K) K):=fun fx cz hid m s Q E hE R st k=>by
 refine el2a2 hv fun N I hI turn=>?_
 clear hv
 refine whl_start 0 ?_
 have key:∀ (N:Nat) (sl:Sl) (led:MLd) (cz hid1:Ld) (m:Mp) (s:Shared),I N sl led→RelS σ nm m cz hid1 sl→(∀ q∈hid,q∈hid1)→SS σ m (fx++cz) hid1 led s→WhlRest rowP σ.w σ.A E σ.env t a [] Q 0 s:=by
  intro N
  induction N using Nat.strongRecOn with
  | _ N ih =>
   intro sl led cz hid1 m s hI R u0 st
   refine whl_turn (k:=0) hE.po ((cx_ok G _ t).xt (k:=fun c l=>ifB c _ _) (envOk G O) (R.toE G) (turn N sl led hI) s _ _ st fun b' led1 hid2 s1 g u1 st1=>?_)
   have u3:∀ q∈hid,q∈hid2:=fun q hq=>u1 q (u0 q hq)
   cases b' with
   | true =>
    refine WhlIf.yes rfl (ha (g.1 rfl) fx cz hid2 m s1 _ E hE (R.mono u1) st1 fun fl f sl' led' cz' hid' m' s' hk hf R' u2 st'=>?_)
    cases fl with
    | next=>cases (show f=.next from hf);obtain ⟨j,hj,hI'⟩:=hk;exact ih j hj sl' led' cz' hid' m' s' hI' R' (fun q hq=>u2 q (u3 q hq)) st'
    | cont=>cases (show f=.cont from hf);obtain ⟨j,hj,hI'⟩:=hk;exact ih j hj sl' led' cz' hid' m' s' hI' R' (fun q hq=>u2 q (u3 q hq)) st'
    | brk=>cases (show f=.brk from hf);exact k .next .next _ _ _ _ _ _ hk rfl R' (fun q hq=>u2 q (u3 q hq)) st'
    | ret x=>obtain ⟨v',rfl,hv'⟩:=hf;exact k (.ret x) _ _ _ _ _ _ _ hk ⟨v',rfl,hv'⟩ R' (fun q hq=>u2 q (u3 q hq)) st'
   | false=>exact WhlIf.no rfl (wpAny_execs_nil (k .next .next _ _ _ _ _ _ (g.2 rfl) rfl (R.mono u1) u3 st1))
 exact key N sl led cz hid m s hI R (fun _ h=>h) st
theorem for_ok {tg it:Expr}{a:List Stmt}{pos:Pos}{ia r:IS}(ha:BlkOk σ kk nm ia a)(hf:plainArg it=true)(hv:vcS σ.pw kk (orI (nameOf tg) (fun x=>optI (ixN nm x) fun i=>.forS [i] true (cmpX (fcc σ.cs nm) it) ia r) (optI ((tupX tg).bind namesOf) fun xs=>optI (ixsN nm xs) fun is=>.forS is false (cmpX (fcc σ.cs nm) it) ia r)) sl led K) :
  XF σ nm (.For tg it a [] pos) sl led (thenK (fun sl' l'=>vcS σ.pw kk r sl' l' K) K):=fun fx cz hid m s Q E hE R st k=>by
 rcases orI_of hv with ⟨x,h1,hv1⟩ | hv1
 ·obtain ⟨p,rfl⟩:=nameOf_is h1
  refine el1a2 (optI_of hv1) fun i hi hv2=>?_
  exact for_sound G (one:=true) (.inl ⟨x,p,rfl⟩) (B:=fun x sl led K=>bindF [i] true sl x fun sl'=>vcS σ.pw kk ia sl' led K) (fun x sl led K hB fx cz hid m s Q E u hE R st ru c =>
   assign_Name (store_sound G O (ixN_get hi) R st ru fun m' cz' s' R' st'=>ha (setK_of (show setK sl i x fun sl=>vcS σ.pw kk ia sl led K from hB)) fx cz' hid m' s' Q E hE R' st' c)) hE (fun x=>(form_ok it hf).fold _ _) R st (ex_xe G it (envOk G O) (R.toE G) hv2) k
 ·refine el1a2 (optI_of hv1) fun xs h1 hv2=>?_
  refine el1a2 (optI_of hv2) fun is hi hv3=>?_
  refine el1a2 (iD h1) fun es h2 h3=>?_
  refine el2a1 (tupX_is h2) fun k0 p e1q=>?_
  subst e1q
  refine for_sound G (one:=false) (.inr ⟨rfl,es,k0,p,rfl⟩) (B:=fun x sl led K=>bindF is false sl x fun sl'=>vcS σ.pw kk ia sl' led K) (fun x sl led K hB fx cz hid m s Q E u hE R st ru c=>?_) hE (fun x=>(form_ok it hf).fold _ _) R st (ex_xe G it (envOk G O) (R.toE G) hv3) k
  refine el1a2 (tupK_of (show tupK x (fun l=>condK (Nat.beq l.length is.length) (setsK sl is l fun sl=>vcS σ.pw kk ia sl led K)) from hB)) fun l e1q hB1=>?_
  subst e1q
  obtain ⟨hz,hB2⟩:=condK_of hB1
  refine el3a4 ru fun a0 o vs e1q ka ia' ra=>?_
  clear ru
  subst e1q
  refine el1a2 st.same fun n S nx=>?_
  obtain ⟨e1,e2⟩:=elts_len (env:=σ.env) h3
  exact unpackN_ S.F S.N (st.isT G ka ia') rfl (by rw [e1,← ixsN_len hi,List.size_toArray,VRs.length ra,Nat.eq_of_beq_eq_true hz]) e2 fun h' F' N' =>
   stores_sound G O h3 hi ra (Nat.eq_of_beq_eq_true hz) R (nx h' _ F' N') fun m' cz' s' R' st'=>ha (setsK_of hB2) fx cz' hid m' s' Q E hE R' st' c
theorem stm_ok {blk:List Stmt→IS}(hb:∀ b,BlkOk σ kk nm (blk b) b)(s0:Stmt){r:IS}{sl:Sl}{led:MLd}{K:FK}(hv:vcS σ.pw kk (stmC (SPx σ nm mt) blk s0 r) sl led K):XF σ nm s0 sl led (thenK (fun sl' l'=>vcS σ.pw kk r sl' l' K) K):=by
 cases s0 with
 | Assign ts v pos =>
  refine el2a2 (one_of hv) fun t ts e1q hv1=>?_
  subst e1q
  obtain ⟨h1,hv2⟩:=ifI_of hv1
  cases isNil_of h1
  exact asgC_ok G O hv2
 | Return v pos=>cases v with
  | none=>exact fun fx cz hid m s Q E hE R st k=>wpAny_Return_none (k (.ret .none) (.ret .none) _ _ _ _ _ _ hv ⟨.none,rfl,rfl⟩ R (fun _ h=>h) st)
  | some v =>
   rcases orI_of (show vcS _ _ (orI _ _ _) _ _ _ from hv) with ⟨z,hz,hv1⟩ | hv
   ·exact fun fx cz hid m s Q E hE R st k=>wpAny_Return_some (methR_ok G (cx_ok G _) hz (envOk G O) (R.toE G) hv1 st (fun x v led1 hid1 s1 g rv u1 st1=>k (.ret x) (.ret v) _ _ _ _ _ _ g ⟨v,rfl,rv⟩ (R.mono u1) u1 st1) hE.er)
   exact fun fx cz hid m s Q E hE R st k=>wpAny_Return_some (val_xe G v (envOk G O) (R.toE G) hv s _ _ st fun x v led1 hid1 s1 g rv u1 st1=>k (.ret x) (.ret v) _ _ _ _ _ _ g ⟨v,rfl,rv⟩ (R.mono u1) u1 st1)
 | AugAssign t op v pos=>cases op with
  | Add =>
   refine el1a2 (optI_of (show vcS _ _ (optI _ _) _ _ _ from hv)) fun q h1 hv1=>?_
   refine el1a2 (optI_of hv1) fun c h2 hv2=>?_
   obtain ⟨p,rfl⟩:=attX_is h1
   exact aAttr_ok G O h2 hv2
  | _=>exact hv.elim
 | Expr v pos =>
  obtain ⟨h1,hv1⟩:=ifI_of hv
  obtain ⟨h2,h3⟩:=iB h1
  exact fun fx cz hid m s Q E hE R st k=>wpAny_Expr_any (ex_xe G v (envOk G O) (R.toE G) hv1 s _ _ st fun x v led1 hid1 s1 g rv u1 st1=>k .next .next _ _ _ _ _ _ g rfl (R.mono u1) u1 st1)
   (by unfold interactive;rw [show σ.env.scope.kind=.function from G.k];rfl) ((form_ok v h2).swN (Bool.not_eq_true' _▸h3) _ _ _)
 | Raise e c pos=>cases c with
  | none =>
   refine el1a2 (optI_of (show vcS _ _ (optI _ _) _ _ _ from hv)) fun e e1q hv1=>?_
   subst e1q
   obtain ⟨h1,hv2⟩:=ifI_of hv1
   obtain ⟨h2,hz⟩:=condK_of (show condK _ _ from hv2)
   exact fun fx cz hid m s Q E hE R st k=>rse_ok G O h1 h2 (hE.rs hz) st
  | some c=>exact hv.elim
 | Try b hs oe fb pos =>
  obtain ⟨h1,hv1⟩:=ifI_of hv
  obtain ⟨h2,h3⟩:=iB h1
  obtain ⟨h4,h5⟩:=iB h3
  cases isNil_of h2
  cases isNil_of h4
  refine el2a2 (one_of hv1) fun s1 b e1q hv2=>?_
  subst e1q
  obtain ⟨h6,hv3⟩:=ifI_of hv2
  cases isNil_of h6
  refine el1a2 (optI_of hv3) fun q h7 hv4=>?_
  obtain ⟨h8,hv5⟩:=ifI_of hv4
  obtain ⟨h9,h10⟩:=iB h8
  refine el1a2 (optI_of hv5) fun i hi hv6=>?_
  refine el2a1 (asgX_is h7) fun p pos2 e1q=>?_
  subst e1q
  cases hs with
  | nil=>cases h5
  | cons hd hs =>
   exact fun fx cz hid m s Q E hE R st k=>wpAny_Try_except (wpAny_execs_cons (wpAny_Assign_Name (ex_xe G q.2 (envOk G O) (R.toE G) hv6 s _ _ st fun x u led1 hid1 s1 g rv u1 st1 =>
    store_sound G O (ixN_get hi) (R.mono u1) st1 rv fun m' cz' s' R' st'=>wpAny_execs_nil (wpAny_execs_nil (k .next .next _ _ _ _ _ _ (setK_of g) rfl R' u1 st'))) ((form_ok q.2 h9).swN (Bool.not_eq_true' _▸h10) _ _ _)))
 | If t a d pos=>exact if_ok G O (hb a) (hb d) hv
 | While t a b pos =>
  obtain ⟨h1,hv1⟩:=ifI_of hv
  cases isNil_of h1
  exact whl_ok G O (hb a) hv1
 | For tg it a b pos =>
  obtain ⟨h1,hv1⟩:=ifI_of hv
  obtain ⟨h2,h3⟩:=iB h1
  cases isNil_of h2
  exact for_ok G O (hb a) h3 hv1
 | _=>exact hv.elim
theorem cmpS_ok (n:Nat):∀ b,BlkOk σ kk nm (cmpS (SPx σ nm mt) n b) b:=by
 induction n with
 | zero=>exact fun b sl led K h=>h.elim
 | succ n ih =>
  intro b sl led K h
  cases b with
  | nil=>exact fun fx cz hid m s Q E hE R st c=>wpAny_execs_nil (c .next .next _ _ _ _ _ _ h rfl R (fun _ h=>h) st)
  | cons s0 b=>exact (stm_ok G O (ih ·) s0 h).seq fun sl' led' hk=>ih b hk
end
end
end Mine
end
section
namespace Mine
noncomputable section
theorem cf_inj:∀ (names:List (Str × NameKind)) (n lo:Nat) (acc:List (Str × Addr)),(acc.map (·.2)).Nodup→(∀ q∈acc,lo < q.2∧q.2 < n)→lo < n →
  ((cellsFrom n names acc).map (·.2)).Nodup∧∀ q∈cellsFrom n names acc,lo < q.2
 | [],n,lo,acc,h1,h2,h3=>⟨h1,fun q hq=>(h2 q hq).1⟩
 | (name,kind)::r,n,lo,acc,h1,h2,h3=>by
  unfold cellsFrom
  split
  ·refine cf_inj r (n+1) lo _ ?_ (fun q hq=>?_) (by omega)
   ·rw [List.map_cons,List.nodup_cons]
    refine ⟨fun hm=>?_,h1⟩
    refine el1a2 (iM hm) fun q hq e=>?_
    have:=(h2 q hq).2
    rw [e] at this
    exact Nat.lt_irrefl _ this
   ·rcases iC hq with rfl | hq
    ·exact ⟨h3,Nat.lt_succ_self _⟩
    ·exact ⟨(h2 q hq).1,Nat.lt_succ_of_lt (h2 q hq).2⟩
  ·exact cf_inj r n lo acc h1 h2 h3
theorem lookup_memX {α β:Type}[BEq α][LawfulBEq α]{x:α}{c:β}:∀ {l:List (α × β)},l.lookup x=some c→(x,c)∈l
 | [],h=>by cases h
 | (y,d)::l,h=>by
  rw [List.lookup_cons] at h
  cases e:x==y with
  | true =>
   rw [e] at h
   cases h
   rw [eq_of_beq e];exact .head _
  | false=>rw [e] at h;exact .tail _ (lookup_memX h)
theorem snd_inj {α β:Type}{x y:α}{c:β}:∀ {l:List (α × β)},(l.map (·.2)).Nodup→(x,c)∈l→(y,c)∈l→x=y
 | [],_,h,_=>by cases h
 | q::l,hn,h1,h2=>by
  rw [List.map_cons,List.nodup_cons] at hn
  have inn:∀ {z:α},(z,c)∈l→c∈l.map (·.2):=fun h=>List.mem_map.mpr ⟨_,h,rfl⟩
  cases h1 with
  | head=>cases h2 with
   | head=>rfl
   | tail _ h2=>exact (hn.1 (inn h2)).elim
  | tail _ h1=>cases h2 with
   | head=>exact (hn.1 (inn h1)).elim
   | tail _ h2=>exact snd_inj hn.2 h1 h2
theorem CellsAre.memX {cm:Str→Option Value}{x:Str}{c:Addr}:∀ {cs:List (Str × Addr)} {cells:List (Addr × Obj)},CellsAre cm cs cells→(x,c)∈cs→∃ o,(c,o)∈cells∧o.data=.cell (cm x)
 | _,_,.cons hd t,h=>by
  rcases iC h with e | h
  ·cases e;exact ⟨_,.head _,hd⟩
  ·obtain ⟨o,a,b⟩:=CellsAre.memX t h;exact ⟨o,.tail _ a,b⟩
theorem CellsAre.adr {cm:Str→Option Value}:∀ {cs:List (Str × Addr)} {cells:List (Addr × Obj)},CellsAre cm cs cells→cells.map (·.1)=cs.map (·.2)
 | _,_,.nil=>rfl
 | _,_,.cons _ t=>by rw [List.map_cons,List.map_cons,CellsAre.adr t]
theorem bindL_off {k:Str→Option NameKind}{x:Str}:∀ {nm:List Str} {us:List Value} {m:Mp},x ∉ nm→bindL k (nm.zip us) m x=m x
 | [],us,m,_=>by cases us <;> rfl
 | y::nm,[],m,_=>rfl
 | y::nm,u::us,m,h=>by
  show bindL k (nm.zip us) _ x=_
  rw [bindL_off fun hm=>h (.tail _ hm)]
  split
  ·exact if_neg fun (e:x=y)=>h (by rw [e];exact .head _)
  ·rfl
theorem bindL_at {k:Str→Option NameKind}{x:Str}{u:Value}(hk:k x=some .local):∀ {nm:List Str} {us:List Value} {m:Mp} {i:Nat},nm.Nodup→nm[i]? = some x→us[i]? = some u→bindL k (nm.zip us) m x=some u
 | [],us,m,i,_,h,_=>by simp at h
 | y::nm,[],m,i,_,_,h=>by simp at h
 | y::nm,w::us,m,0,hn,h,h'=>by
  simp at h h'
  subst h h'
  show bindL k (nm.zip us) _ y=_
  rw [bindL_off (List.nodup_cons.mp hn).1,if_pos hk]
  simp
 | y::nm,w::us,m,i+1,hn,h,h'=>by
  simp at h h'
  exact bindL_at hk (nm:=nm) (us:=us) (i:=i) (List.nodup_cons.mp hn).2 h h'
theorem bindC_off {k:Str→Option NameKind}{x:Str}:∀ {nm:List Str} {us:List Value} {m:Mp},x ∉ nm→bindC k (nm.zip us) m x=m x
 | [],us,m,_=>by cases us <;> rfl
 | y::nm,[],m,_=>rfl
 | y::nm,u::us,m,h=>by
  show bindC k (nm.zip us) _ x=_
  rw [bindC_off fun hm=>h (.tail _ hm)]
  split
  ·rfl
  ·exact if_neg fun (e:x=y)=>h (by rw [e];exact .head _)
theorem bindC_at {k:Str→Option NameKind}{x:Str}{u:Value}(hk:k x≠some .local):∀ {nm:List Str} {us:List Value} {m:Mp} {i:Nat},nm.Nodup→nm[i]? = some x→us[i]? = some u→bindC k (nm.zip us) m x=some u
 | [],us,m,i,_,h,_=>by simp at h
 | y::nm,[],m,i,_,_,h=>by simp at h
 | y::nm,w::us,m,0,hn,h,h'=>by
  simp at h h'
  subst h h'
  show bindC k (nm.zip us) _ y=_
  rw [bindC_off (List.nodup_cons.mp hn).1,if_neg hk]
  simp
 | y::nm,w::us,m,i+1,hn,h,h'=>by
  simp at h h'
  exact bindC_at hk (nm:=nm) (us:=us) (i:=i) (List.nodup_cons.mp hn).2 h h'
noncomputable def fdOf:Option Obj→FuncData
 | some ⟨_,_,.func fd,_⟩=>fd
 | _=>default
noncomputable def bodyOf:FuncBody→Option (List Stmt)
 | .stmts b=>some b
 | _=>none
noncomputable def noDup:List Str→Bool
 | []=>true
 | x::l=>l.all (fun y=>!strEq x y)&&noDup l
noncomputable def fdChk (K:Frag)(fd:FuncData)(nm:List Str):Bool:=Nat.beq fd.globals mainGlobals&&(isNil fd.closure&&(Nat.beq fd.builtins builtinsNs&&(codeIn K fd.code fd.qualname&&(!fd.scope.isCoroutine&&(!fd.scope.isGenerator&&(fd.scope.kind==.function&&(noDup nm &&
 (nm.all (fun x=>isLocS fd.scope x || isCell fd.scope x)&&noDup (fd.scope.names.map (·.1))))))))))
noncomputable def fdIR (fd:FuncData)(nm mt:List Str):IS:=match bodyOf fd.body with
 | some b=>cmpS ⟨mt,fd.scope,nm⟩ 40 b
 | none=>.bad
noncomputable def fdOf? (o:Option Obj):Option FuncData:=match o with
 | some ⟨_,_,.func fd,_⟩=>some fd
 | _=>none
noncomputable def fnChk (K:Frag)(f:Addr)(nm:List Str):Bool:=optB (fdOf? (K.lookup f)) fun fd=>fdChk K fd nm
noncomputable def fnIR (K:Frag)(f:Addr)(nm mt:List Str):IS:=optI (fdOf? (K.lookup f)) fun fd=>fdIR fd nm mt
theorem noDup_of:∀ {l:List Str},noDup l=true→l.Nodup
 | [],_=>List.nodup_nil
 | x::l,h=>by
  unfold noDup at h
  rw [Bool.and_eq_true] at h
  refine List.nodup_cons.mpr ⟨fun hm=>?_,noDup_of h.2⟩
  have:=iT h.1 x hm
  rw [strEq_refl] at this
  cases this
noncomputable def flV:SFl→SV
 | .ret v=>v
 | _=>.none
noncomputable def endK (P:SV→MLd→Prop):FK:=fun fl _ led=>∃ r led1,Fz [flV fl] led [r] led1∧P r led1
noncomputable def AllV:Nat→(List Value→Prop)→Prop
 | 0,P=>P []
 | n+1,P=>∀ v,AllV n fun l=>P (v::l)
theorem AllV.use:∀ {n:Nat} {P:List Value→Prop},AllV n P→∀ {vs:List Value},vs.length=n→P vs
 | 0,P,h,[],_=>h
 | n+1,P,h,v::vs,e=>AllV.use (h v) (Nat.succ.inj e)
noncomputable def slots0 (args:List SV)(nm:List Str):Sl:=args.map some++List.replicate (nm.length - args.length) none
theorem names_nodup {scope:Scope}(h:noDup (scope.names.map (·.1))=true)(n:Nat):((cellsFrom n scope.names []).map (·.1)).Nodup:=by
 have key:∀ (names:List (Str × NameKind)) (n:Nat) (acc:List (Str × Addr)),(names.map (·.1)).Nodup→(acc.map (·.1)).Nodup→(∀ x∈acc.map (·.1),x ∉ names.map (·.1))→((cellsFrom n names acc).map (·.1)).Nodup:=by
  intro names
  induction names with
  | nil=>intro n acc _ h _;exact h
  | cons q r ih =>
   intro n acc h1 h2 h3
   obtain ⟨name,kind⟩:=q
   rw [List.map_cons,List.nodup_cons] at h1
   unfold cellsFrom
   split
   ·refine ih _ _ h1.2 ?_ fun x hx=>?_
    ·rw [List.map_cons,List.nodup_cons]
     exact ⟨fun hm=>h3 _ hm (.head _),h2⟩
    ·rw [List.map_cons] at hx
     rcases iC hx with rfl | hx
     ·exact h1.1
     ·exact fun hm=>h3 x hx (.tail _ hm)
   ·exact ih _ _ h1.2 h2 fun x hx hm=>h3 x hx (.tail _ hm)
 exact key _ _ _ (noDup_of h) List.nodup_nil fun x hx=>by cases hx
end
end Mine
end
section
namespace Mine
noncomputable section
theorem slots0_get {args:List SV}{nm:List Str}{i:Nat}{v:SV}(h:(slots0 args nm:List (Option SV))[i]? = some (some v)):args[i]? = some v:=by
 unfold slots0 at h
 rw [List.getElem?_append] at h
 split at h
 ·rw [List.getElem?_map] at h
  refine el1a2 (iO h) fun x h1 h2=>?_
  cases h2;exact h1
 ·have:=List.mem_of_getElem? h
  have:=List.eq_of_mem_replicate this
  cases this
theorem loc_lookup {cs:Scope}{x:Str}(h:isLocS cs x=true):cs.names.lookup x=some .local:=by
 unfold isLocS at h
 rw [Bool.and_eq_true] at h
 exact kind_lookup h.1
theorem cell_lookup {cs:Scope}{x:Str}(h:isCell cs x=true):cs.names.lookup x=some .cell:=by
 unfold isCell at h
 rw [Bool.and_eq_true] at h
 exact kind_lookup h.1
noncomputable def bindRest (fd:FuncData)(vs:List Value):Σ' k:Option (Array Value)→Sem (List (Str × Value)),bindArgs fd ⟨vs,[]⟩=seqItems? fd.defaults >>= k:=⟨_,rfl⟩
noncomputable def dfl (K:Frag):Value→Option (Option (Array Value))
 | .none=>some none
 | .ref T=>(match K.lookup T with
  | some ⟨_,_,.seq items _,_⟩=>some (some items)
  | _=>none)
 | _=>none
noncomputable def BindOk (K:Frag)(fd:FuncData)(vs:List Value)(binds:List (Str × Value)):Prop:=(dfl K fd.defaults).map (fun it=>(bindRest fd vs).1 it)=some (pure binds)
theorem BindOk.to {K:Frag}{fd:FuncData}{vs:List Value}{binds:List (Str × Value)}{s:Shared}(h:BindOk K fd vs binds)(X:K.In s.heap):BindsTo s fd ⟨vs,[]⟩ binds:=by
 refine el1a2 (iO h) fun it e h=>?_
 have e1:=(bindRest fd vs).2
 unfold dfl at e
 split at e
 ·rename_i hd
  cases e
  refine BindsTo.of_eq ?_
  exact e1.trans ((congrArg (fun d=>seqItems? d >>= (bindRest fd vs).1) hd).trans h)
 ·rename_i T hd
  split at e
  ·rename_i oc od items n os ho
   cases e
   exact BindsTo.of_defaults hd (X _ _ ho) rfl e1 h
  ·cases e
 ·cases e
noncomputable def retV:Flow→Value
 | .ret v=>v
 | _=>.none
theorem FzL.len {r w:SV}{a b:List SV}(h:FzL r w a b):b.length=a.length:=by
 induction h with
 | nil=>rfl
 | keep _ ih=>exact congrArg (·+1) ih
 | swap _ ih=>exact congrArg (·+1) ih
theorem Fz.len {a b:List SV}{l l':MLd}(h:Fz a l b l'):b.length=a.length:=by
 induction h with
 | nil=>rfl
 | one _ _ fl _ ih=>rw [ih,fl.len]
noncomputable abbrev Pw.on (X:Pw)(z:Prop):Pw:=⟨X.w,X.p,X.loose,X.mean,X.mg,X.mb,z,False⟩
theorem body_run {σ:Cx}{kk:Nat}{nm mt:List Str}{body:List Stmt}{argsS args':List SV}{us:List Value}{led led':MLd}{ledc cells:Ld}{P:SV→MLd→Prop}{s:Shared}{Q:Value→Shared→Prop}{E:Value→Shared→Prop}(G:Good σ kk)(hcl:σ.cl=cellsFrom (σ.L+1) σ.cs.names [])(c8:noDup nm=true)
  (kinds:∀ x∈nm,isLocS σ.cs x=true∨isCell σ.cs x=true) (F':Fr σ.g σ.L s.heap (bindL (envOfC σ.cn σ.cs σ.L σ.a σ.ccd).kindOf (nm.zip us) fun _=>none)) (N':News σ.g σ.L s.heap (cells++ledc)) (ca:CellsAre (bindC (envOfC σ.cn σ.cs σ.L σ.a σ.ccd).kindOf (nm.zip us) fun _=>none) (cellsFrom (σ.L+1) σ.cs.names []) cells)
  (lo':∀ q∈ledc,q.1 < σ.L) (g1:s.gens=σ.gs) (g2:s.drawn=σ.dr) (g3:s.os=σ.os) (rl:RelL σ.kn led ledc) (hnd:(ledc.map (·.1)).Nodup) (rv:VRs σ.kn argsS us) (hlen:Nat.ble argsS.length nm.length=true) (hz:Fz argsS led args' led') (hv:vcS σ.pw kk (cmpS (SPx σ nm mt) 40 body) (slots0 args' nm) led' (endK P)) (hE:EOk σ E)
  (ret:∀ r v led1 hid1 m1 cz1 s',P r led1→VR (Kn σ hid1) r v→SS σ m1 cz1 hid1 led1 s'→Q v s'):wpAny (model rowP σ.w) σ.A (execs body σ.env) (fun fl s'=>Q (retV fl) s') E s:=by
 have hlz:=hz.len
 have nd:=noDup_of c8
 have ci:=cf_inj σ.cs.names (σ.L+1) σ.L [] List.nodup_nil (fun q hq=>by cases hq) (Nat.lt_succ_self _)
 have O:NmOk σ nm:=⟨nd,kinds,by rw [hcl];exact fun x y c h1 h2=>snd_inj ci.1 (lookup_memX h1) (lookup_memX h2),by rw [hcl];exact fun x hx hc=>Option.isSome_iff_exists.mp (cellsFrom_some _ _ _ (.inl (cell_lookup hc)))⟩
 have kd:∀ x,(envOfC σ.cn σ.cs σ.L σ.a σ.ccd).kindOf x=σ.cs.names.lookup x:=fun _=>rfl
 have hc:∀ x,isCell σ.cs x=true→∃ c o,σ.cl.lookup x=some c∧(c,o)∈cells∧o.data=.cell (bindC (envOfC σ.cn σ.cs σ.L σ.a σ.ccd).kindOf (nm.zip us) (fun _=>none) x):=by
  intro x hx
  obtain ⟨c,e⟩:=Option.isSome_iff_exists.mp (cellsFrom_some σ.cs.names (σ.L+1) [] (.inl (cell_lookup hx)))
  refine el1a2 (CellsAre.memX ca (lookup_memX e)) fun o h1 h2=>?_
  exact ⟨c,o,hcl▸e,h1,h2⟩
 have st0:SS σ (bindL (envOfC σ.cn σ.cs σ.L σ.a σ.ccd).kindOf (nm.zip us) fun _=>none) ([]++cells) [] led s:=by
  refine ⟨ledc,rl.mono (fun a o k=>.inl k),⟨hnd,fun q hq p hp=>?_,?_,fun q hq p hp=>by cases hp⟩,⟨F',fun q hq=>N' q ?_,g1,g2,g3⟩⟩
  ·have hp':p∈cells:=(iA hp).elim id fun h=>by cases h
   have:p.1∈cells.map (·.1):=List.mem_map_of_mem hp'
   rw [CellsAre.adr ca] at this
   refine el1a2 (iM this) fun z hz e=>?_
   intro e2
   have h1:=lo' q hq
   rw [← e2,← e] at h1
   exact Nat.lt_asymm h1 (ci.2 z hz)
  ·show (cells.map (·.1)).Nodup
   rw [CellsAre.adr ca];exact ci.1
  ·exact (iA hq).elim (fun hq=>iR hq) fun hq=>(iA hq).elim (fun hq=>iL hq) fun h=>by cases h
 clear ca lo' N' F' rl hnd g1 g2 g3 ci
 refine el1a3 (hz.sound st0 (VRs.mono (fun a o k=>.inl k) _ _ rv:VRs (Kn σ []) argsS us)) fun hid0 _ st1 rv1=>?_
 clear st0
 have R:RelS σ nm (bindL (envOfC σ.cn σ.cs σ.L σ.a σ.ccd).kindOf (nm.zip us) fun _=>none) cells hid0 (slots0 args' nm):=by
  refine ⟨?_,fun i x v hx hs=>?_,fun x hx hcx=>?_⟩
  ·rw [slots0,List.length_append,List.length_map,List.length_replicate]
   exact (Nat.add_sub_cancel' (hlz▸iE hlen)).symm
  ·refine el1a2 (VRs.get rv1 (slots0_get hs)) fun u hu r=>?_
   refine ⟨u,r,(kinds x (List.mem_of_getElem? hx)).imp (fun hl=>⟨hl,bindL_at (by rw [kd];exact loc_lookup hl) nd hx hu⟩) fun hl=>?_⟩
   refine el2a3 (hc x hl) fun c o h1 h2 h3=>?_
   rw [bindC_at (by rw [kd,cell_lookup hl];exact fun e=>NameKind.noConfusion (Option.some.inj e)) nd hx hu] at h3
   exact ⟨hl,c,o,h1,h2,h3⟩
  ·refine el2a3 (hc x hcx) fun c o h1 h2 h3=>?_
   exact ⟨c,o,_,h1,h2,h3⟩
 refine cmpS_ok G O (mt:=mt) 40 body hv [] cells hid0 _ _ _ E hE R st1 fun fl f1 sl' led1 cz' hid' m' s' hk' hf R' u st'=>?_
 refine el2a2 hk' fun r led2 hz2 hP=>?_
 clear hk'
 have hfv:VR (Kn σ hid') (flV fl) (retV f1):=by
  cases fl with
  | ret x=>obtain ⟨v,rfl,h⟩:=hf;exact h
  | next=>cases (show f1=.next from hf);exact rfl
  | brk=>cases (show f1=.brk from hf);exact rfl
  | cont=>cases (show f1=.cont from hf);exact rfl
 refine el1a3 (hz2.sound st' (⟨retV f1,[],rfl,hfv,rfl⟩:VRs (Kn σ hid') [flV fl] [retV f1])) fun hid2 u2 st2 eRq=>?_
 refine el2a3 eRq fun v' _ e hvr2 _=>?_
 clear eRq
 exact ret r _ led2 hid2 _ _ s' hP ((List.cons.inj e).1.symm▸hvr2) st2
theorem cg4 {α β γ δ ε:Type}(F:α→β→γ→δ→ε){a a':α}{b b':β}{c c':γ}{d d':δ}(h1:a=a')(h2:b=b')(h3:c=c')(h4:d=d'):F a b c d=F a' b' c' d':=by rw [h1,h2,h3,h4]
theorem bodyOf_of {x:FuncBody}{b:List Stmt}(h:bodyOf x=some b):x=.stmts b:=by
 unfold bodyOf at h
 split at h
 ·cases h;rfl
 ·cases h
theorem fd_form {fd:FuncData}{b:List Stmt}(g:fd.globals=mainGlobals)(c:fd.closure=[])(n:fd.builtins=builtinsNs)(hb:bodyOf fd.body=some b) :
  fd=fnOf fd.name fd.qualname fd.params b fd.scope fd.defaults fd.kwdefaults fd.doc fd.pyModule fd.annotations fd.code fd.closureTuple :=
 cg4 (fun g c n b=>({ fd with globals:=g,closure:=c,builtins:=n,body:=b }:FuncData)) g c n (bodyOf_of hb)
theorem fdOf_of {o:Option Obj}{fd:FuncData}(h:fdOf? o=some fd):∃ oc od osl,o=some ⟨oc,od,.func fd,osl⟩:=by
 unfold fdOf? at h
 split at h
 ·cases h;exact ⟨_,_,_,rfl⟩
 ·cases h
theorem fdChk_of {a b c d e f g h i j:Bool}{C:Prop}(q:(a&&(b&&(c&&(d&&(e&&(f&&(g&&(h&&(i&&j)))))))))=true)(k:a=true→b=true→c=true→d=true→e=true→f=true→g=true→h=true→i=true→j=true→C):C:=by
 simp only [Bool.and_eq_true] at q
 exact k q.1 q.2.1 q.2.2.1 q.2.2.2.1 q.2.2.2.2.1 q.2.2.2.2.2.1 q.2.2.2.2.2.2.1 q.2.2.2.2.2.2.2.1 q.2.2.2.2.2.2.2.2.1 q.2.2.2.2.2.2.2.2.2
theorem fn_view {K:Frag}{f:Addr}{nm mt:List Str}{C:Prop}(hck:fnChk K f nm=true)(bad:fnIR K f nm mt=.bad→C)
  (k:∀ {name qual:Str} {params:Arguments} {body:List Stmt} {scope:Scope} {dV kV doc pm cdv ct oc:Value} {an od:Option Addr} {osl:Array (Option Value)},K.lookup f=some ⟨oc,od,.func (fnOf name qual params body scope dV kV doc pm an cdv ct),osl⟩ →
   codeIn K cdv qual=true→scope.isCoroutine=false→scope.isGenerator=false→scope.kind=.function→noDup nm=true→(∀ x∈nm,isLocS scope x=true∨isCell scope x=true)→noDup (scope.names.map (·.1))=true→fnIR K f nm mt=cmpS ⟨mt,scope,nm⟩ 40 body→C):C:=by
 unfold fnChk at hck
 cases e1:fdOf? (K.lookup f) with
 | none=>rw [e1] at hck;exact Bool.noConfusion hck
 | some fd =>
 rw [e1] at hck
 have e2:fnIR K f nm mt=fdIR fd nm mt:=by unfold fnIR;rw [e1];rfl
 unfold fdIR at e2
 cases hb:bodyOf fd.body with
 | none=>exact bad (by rw [e2,hb])
 | some b =>
 exact fdChk_of hck fun c1 c2 c3 c4 c5 c6 c7 c8 c9 c10=>(fdOf_of e1).elim fun oc h1=>h1.elim fun od h2=>h2.elim fun osl ho=>k (ho.trans (congrArg (fun fd=>some (Obj.mk oc od (.func fd) osl)) (fd_form (Nat.eq_of_beq_eq_true c1) (isNil_of c2) (Nat.eq_of_beq_eq_true c3) hb))) c4 (Bool.not_eq_true' _▸c5) (Bool.not_eq_true' _▸c6) (eq_of_beq c7) c8
  (fun x hx=>Bool.or_eq_true_iff.mp (iT (show nm.all (fun x=>isLocS fd.scope x || isCell fd.scope x)=true from c9) x hx)) c10 (by rw [e2,hb])
theorem dl {dp k kk:Nat}(h:Nat.blt k kk=true)(hd:dp+kk < recursionLimit):dp+1+k < recursionLimit:=by have:=iE h;omega
theorem ul {un k kk:Nat}(h:Nat.blt k kk=true)(hd:un+8 * kk < cLine):un+3+8 * k < cLine:=by have:=iE h;omega
theorem FlR.next {K:KA}{f:Flow}{C:Flow→Prop}(h:FlR K .next f)(k:C .next):C f:=(show f=.next from h)▸k
theorem FnG.of_body {X:Pw}{f:Addr}{args:List SV}{led:MLd}{kk:Nat}{P:SV→MLd→Prop}{may lo:Prop}(nm mt:List Str)(ir:IS)(ds:List SV)(hck:fnChk (H.K X.w.params) f nm=true)(hir:fnIR (H.K X.w.params) f nm mt=ir)
  (hb:∃ dvs,(∀ K0:KA,(∀ a o,(H.K X.w.params).lookup a=some o→K0 a o)→VRs K0 ds dvs)∧AllV args.length fun vs=>BindOk (H.K X.w.params) (fdOf ((H.K X.w.params).lookup f)) vs (nm.zip (vs++dvs))) (hk:Nat.blt 0 kk=true) (hlen:Nat.ble (args++ds).length nm.length=true)
  (hv:∃ args' led',Fz (args++ds) led args' led'∧vcS (X.on may) kk ir (slots0 args' nm) led' (endK P)):FnG X f args led kk P may lo:=by
 refine el2a2 hv fun args' led' hz hv1=>?_
 clear hv
 refine el1a2 hb fun dvs hd0 hb1=>?_
 clear hb
 refine fn_view (mt:=mt) hck (fun hir1=>((show vcS _ _ IS.bad _ _ _ from hir1▸hir▸hv1):False).elim) fun {name qual params body scope dV kV doc pm cdv ct oc an od osl} ho c4 c5 c6 c7 c8 kinds c10 e=>?_
 clear hck
 replace hv1:vcS (X.on may) kk (cmpS ⟨mt,scope,nm⟩ 40 body) (slots0 args' nm) led' (endK P):=e▸hir▸hv1
 clear hir e
 intro K0 vs ledc hK0 rl hnd rv dp un gd cn cs a ccd cl outer A₀ base h₀ L m s RR B F Xk N T hck' hd hu hp hlo hret hexc
 have bt:=(AllV.use hb1 (VRs.length rv)).to (Xk.keeps F.keep)
 rw [ho] at bt
 replace bt:BindsTo s (fnOf name qual params body scope dV kV doc pm an cdv ct) ⟨vs,[]⟩ (nm.zip (vs++dvs)):=bt
 refine code_defCG (env:=envX cn cs L a ccd cl) B F Xk N T rfl rfl hck' ho c4 (Nat.lt_of_le_of_lt (Nat.le_add_right dp kk) hd) bt ?_ (names_nodup c10 0) ?_ c5 c6 c7
 ·refine List.all_eq_true.mpr fun y hy=>?_
  rcases kinds y.1 (List.of_mem_zip hy).1 with h | h
  ·rw [loc_lookup h];rfl
  ·rw [cell_lookup h];rfl
 intro g L' h' tk cells FG' F' N' ca B' X' T' lo' GS
 let σ:Cx:=⟨X.w,X.p,X.loose,X.mean,X.mg,X.mb,dp+1,un+3,gd,qual,scope,L',f,cdv,cellsFrom (L'+1) scope.names [],envX cn cs L a ccd cl::outer,ktrTop dp un gd cn cs L a ccd cl outer,base,g,s.gens,s.drawn,s.os,K0,may,False⟩
 have G:Good σ kk:=⟨B',X',T',c7,fun k hk=>dl hk hd,fun k hk=>ul hk hu,fun a o k=>GS a o (hp a o k).1 (hp a o k).2,hK0,fun h=>h.elim⟩
 refine body_run (σ:=σ) (mt:=mt) (Q:=fun v s'=>LeaveK h₀ L m g RR v s') G rfl c8 kinds F' N' ca lo' rfl rfl rfl rl hnd ((hd0 K0 hK0).append rv) hlen hz hv1
  ⟨by passes_own,fun hzz e h1 tk1 fl Z=>leaveZ rfl rfl Z (kts_self F') fun h2 Z2=>hexc hzz e h2 _ (Z2.less (hide_sub GS)),fun hzz e t dx vs' h1 tk1 m1 F1 N1=>raiseZ B' rfl rfl c7 F1 N1 (.head _) rfl rfl (.tail _ (.head _)) fun h2 Z2=>hexc hzz e h2 _ (Z2.less (hide_sub GS))⟩
  fun r v led2 hid2 m2 cz2 s' hP hvr2 st2=>?_
 clear ca hv1 rv rl F' N'
 refine st2.split fun h9 t9 ledc2 rl2 se2 F8 N8=>?_
 refine leaveK_ F8 N8 fun F9 N9=>?_
 have sub:∀ q∈ledc2++hid2,q∈ledc2++(cz2++hid2):=fun q hq=>(iA hq).elim (fun h=>iL h) fun h=>iR (iR h)
 exact Spec.ret (Q:=fun v s=>RR (.ok (.ret v)) s) (fun v h' tk' led' F1 N1 keep fresh hx=>hret v h' tk' led' F1 N1 (fun b o e hb _=>keep b o e hb) fresh hx) GS F9 N9 F8 N8 (ledc2++hid2) sub sub ⟨r,led2,ledc2,hid2,hP,rfl,rl2,⟨se2.nd,fun q hq p hp=>se2.d1 q hq p (iR hp),List.nodup_nil,fun q hq=>by cases hq⟩,hvr2⟩
end
end Mine
end
section
namespace Mine
theorem ifB_i {c:Bool}{p q:Prop}(h1:c=true→p)(h2:c=false→q):ifB c p q:=⟨h1,h2⟩
theorem ifB_t {p q:Prop}(h:p):ifB true p q:=⟨fun _=>h,fun e=>Bool.noConfusion e⟩
theorem ifB_f {p q:Prop}(h:q):ifB false p q:=⟨fun e=>Bool.noConfusion e,fun _=>h⟩
theorem ifB_ne {P:Prop}[Decidable P]{p q:Prop}(h1:¬ P→p)(h2:P→q):ifB (!decide P) p q:=⟨fun h=>h1 (by simpa using h),fun h=>h2 (by simpa using h)⟩
theorem ifB_neq {x y:Int}{p q:Prop}(h1:x≠y→p)(h2:x=y→q):ifB (!(x==y)) p q:=⟨fun h=>h1 (by simpa using h),fun h=>h2 (by simpa using h)⟩
theorem w_cg {X:Pw}{may:Prop}{kk:Nat}{f:Addr}{vs:List SV}{led:MLd}{k:SV→MLd→Prop}(h:callG X may kk f vs led k):callG X may kk f vs led k:=h
theorem w_if {c:Bool}{p q:Prop}(h:ifB c p q):ifB c p q:=h
theorem w_ex1 {α:Type}{A k:α→Prop}(h:ex1 A k):ex1 A k:=h
theorem w_ex2 {α β:Type}{A k:α→β→Prop}(h:ex2 A k):ex2 A k:=h
theorem w_ex3 {α β γ:Type}{A k:α→β→γ→Prop}(h:ex3 A k):ex3 A k:=h
theorem ex1_i {α:Type}{A k:α→Prop}(x:α)(h:A x)(c:k x):ex1 A k:=⟨x,h,c⟩
theorem ex2_i {α β:Type}{A k:α→β→Prop}(x:α)(y:β)(h:A x y)(c:k x y):ex2 A k:=⟨x,y,h,c⟩
theorem ex3_i {α β γ:Type}{A k:α→β→γ→Prop}(x:α)(y:β)(z:γ)(h:A x y z)(c:k x y z):ex3 A k:=⟨x,y,z,h,c⟩
theorem blt_i {a b:Nat}(h:Nat.ble (a+1) b=true):a < b:=iE h
theorem w_and {p q:Prop}(h:p∧q):p∧q:=h
theorem w_ex {α:Sort _}{p:α→Prop}(h:∃ x,p x):∃ x,p x:=h
theorem w_le {α:Type _}[LE α]{a b:α}(h:a≤b):a≤b:=h
theorem w_lt {α:Type _}[LT α]{a b:α}(h:a < b):a < b:=h
theorem w_eq {α:Sort _}{a b:α}(h:a=b):a=b:=h
theorem w_ne {α:Sort _}{a b:α}(h:a≠b):a≠b:=h
theorem w_mul {a b:Int}(h:IntMulOk a b):IntMulOk a b:=h
theorem w_fd {a b:Int}(h:fdivOk a b):fdivOk a b:=h
theorem okW {w w':World}(h:w=w'):w=w':=h
theorem okN {x y:Int}(h:x≠y):x≠y:=h
theorem okF {x y:Int}(h:y≠0)(h2:-(2 ^ 200) < y∧y < 2 ^ 200):fdivOk x y:=⟨h,noPyl h2.1 h2.2⟩
theorem ifB_tt {c:Bool}{p q:Prop}(e:c=true)(h:p):ifB c p q:=e▸ifB_t h
theorem ifB_ff {c:Bool}{p q:Prop}(e:c=false)(h:q):ifB c p q:=e▸ifB_f h
theorem ifB_d {P:Prop}[Decidable P]{p q:Prop}(h1:P→p)(h2:¬ P→q):ifB (decide P) p q:=⟨fun h=>h1 (of_decide_eq_true h),fun h=>h2 (of_decide_eq_false h)⟩
theorem ifB_eq {x y:Int}{p q:Prop}(h1:x=y→p)(h2:x≠y→q):ifB (x==y) p q:=⟨fun h=>h1 (eq_of_beq h),fun h=>h2 (by simpa using h)⟩
theorem FnG.low {X:Pw}{f:Addr}{args:List SV}{led:MLd}{kk:Nat}{P:SV→MLd→Prop}{may lo:Prop}(h:FnG X f args led kk P may False):FnG X f args led kk P may lo :=
 fun K0 vs ledc a1 a2 a3 a4 dp un gd cn cs a ccd cl outer A₀ base h₀ L m s R b1 b2 b3 b4 b5 b6 b7 b8 b9 _ c d=>h K0 vs ledc a1 a2 a3 a4 dp un gd cn cs a ccd cl outer A₀ base h₀ L m s R b1 b2 b3 b4 b5 b6 b7 b8 b9 (fun z=>z.elim) (fun v h' tk' led' e1 e2 e3=>c v h' tk' led' e1 e2 fun b o q n _=>e3 b o q n fun z=>z.elim) d
theorem FnG.may {X:Pw}{f:Addr}{args:List SV}{led:MLd}{kk:Nat}{P:SV→MLd→Prop}{may may' lo:Prop}(h:FnG X f args led kk P may lo)(hm:may→may'):FnG X f args led kk P may' lo :=
 fun K0 vs ledc a1 a2 a3 a4 dp un gd cn cs a ccd cl outer A₀ base h₀ L m s R b1 b2 b3 b4 b5 b6 b7 b8 b9 b10 c d=>h K0 vs ledc a1 a2 a3 a4 dp un gd cn cs a ccd cl outer A₀ base h₀ L m s R b1 b2 b3 b4 b5 b6 b7 b8 b9 b10 c fun z=>d (hm z)
theorem FnG.more {X:Pw}{f:Addr}{args:List SV}{led:MLd}{kk k':Nat}{P:SV→MLd→Prop}{may lo:Prop}(h:FnG X f args led kk P may lo)(hk:kk≤k'):FnG X f args led k' P may lo :=
 fun K0 vs ledc a1 a2 a3 a4 dp un gd cn cs a ccd cl outer A₀ base h₀ L m s R b1 b2 b3 b4 b5 b6 b7 b8=>h K0 vs ledc a1 a2 a3 a4 dp un gd cn cs a ccd cl outer A₀ base h₀ L m s R b1 b2 b3 b4 b5 b6 (by omega) (by omega)
section
variable {X:Pw}{kk k1:Nat}{f:Addr}{vs:List SV}{led lin rest:MLd}{k:SV→MLd→Prop}
theorem callV {r:SV}(h:FnV X f vs k1 r)(hk:Nat.blt k1 kk=true)(c:k r led):callK X kk f vs led k:=⟨⟨k1,[],led,_,hk,LSplit.allR,FnG.low h,fun _ _ e=>by obtain ⟨rfl,rfl⟩:=e;exact c⟩⟩
theorem callP {P:SV→MLd→Prop}(h:Fn X f vs lin k1 P)(hk:Nat.blt k1 kk=true)(sp:LSplit led lin rest)(c:∀ r l,P r l→k r (l++rest)):callK X kk f vs led k:=⟨⟨k1,lin,rest,P,hk,sp,FnG.low h,c⟩⟩
theorem callX {A:SV→Prop}(h:Fn X f vs lin k1 fun r l=>l=[]∧A r)(hk:Nat.blt k1 kk=true)(sp:LSplit led lin rest)(c:∀ r,A r→k r rest):callK X kk f vs led k:=callP h hk sp fun r l e=>by obtain ⟨rfl,e⟩:=e;exact c r e
theorem callX1 {α:Type}{F:α→SV}{A:α→Prop}(h:Fn X f vs lin k1 fun r l=>l=[]∧∃ x,r=F x∧A x)(hk:Nat.blt k1 kk=true)(sp:LSplit led lin rest)(c:∀ x,A x→k (F x) rest):callK X kk f vs led k :=
 callX h hk sp fun r e=>el1a2 e fun x e q=>e▸c x q
theorem callX5 {F:Int→Int→Int→Int→Int→SV}{A:Int→Int→Int→Int→Int→Prop}(h:Fn X f vs lin k1 fun r l=>l=[]∧∃ v x y z w,r=F v x y z w∧A v x y z w)(hk:Nat.blt k1 kk=true)(sp:LSplit led lin rest)(c:∀ v x y z w,A v x y z w→k (F v x y z w) rest):callK X kk f vs led k :=
 callX h hk sp fun r e=>el5a2 e fun v x y z w e q=>e▸c v x y z w q
theorem callN1 {α:Type}{r0:SV}{L:α→MLd}(h:Fn X f vs lin k1 fun r l=>r=r0∧∃ x,l=L x)(hk:Nat.blt k1 kk=true)(sp:LSplit led lin rest)(c:∀ x,k r0 (L x++rest)):callK X kk f vs led k :=
 callP h hk sp fun r l e=>by obtain ⟨rfl,x,rfl⟩:=e;exact c x
theorem callN2 {α β:Type}{r0:SV}{L:α→β→MLd}{A:α→β→Prop}(h:Fn X f vs lin k1 fun r l=>r=r0∧∃ x y,l=L x y∧A x y)(hk:Nat.blt k1 kk=true)(sp:LSplit led lin rest)(c:∀ x y,A x y→k r0 (L x y++rest)):callK X kk f vs led k :=
 callP h hk sp fun r l e=>by obtain ⟨rfl,x,y,rfl,q⟩:=e;exact c x y q
theorem callY2 {α β:Type}{F:α→β→SV}{L:α→β→MLd}{A:α→β→Prop}(h:Fn X f vs lin k1 fun r l=>∃ x y,r=F x y∧l=L x y∧A x y)(hk:Nat.blt k1 kk=true)(sp:LSplit led lin rest)(c:∀ x y,A x y→k (F x y) (L x y++rest)):callK X kk f vs led k :=
 callP h hk sp fun r l e=>by obtain ⟨x,y,rfl,rfl,q⟩:=e;exact c x y q
noncomputable def Post (Φ:(SV→MLd→Prop)→Prop):SV→MLd→Prop:=fun r l=>∀ k:SV→MLd→Prop,Φ k→k r l
theorem callQ {Φ:(SV→MLd→Prop)→Prop}(h:Fn X f vs lin k1 (Post Φ))(hk:Nat.blt k1 kk=true)(sp:LSplit led lin rest)(c:Φ fun r l=>k r (l++rest)):callK X kk f vs led k:=callP h hk sp fun _ _ hP=>hP _ c
theorem callE {l0:MLd}{r0:SV}(h:Fn X f vs lin k1 fun r l=>r=r0∧l=l0)(hk:Nat.blt k1 kk=true)(sp:LSplit led lin rest)(c:k r0 (l0++rest)):callK X kk f vs led k:=callP h hk sp fun _ _ e=>by obtain ⟨rfl,rfl⟩:=e;exact c
theorem callL {l0:MLd}(h:Fn X f vs lin k1 fun r l=>l=l0)(hk:Nat.blt k1 kk=true)(sp:LSplit led lin rest)(c:∀ r,k r (l0++rest)):callK X kk f vs led k:=callP h hk sp fun r l e=>e▸c r
theorem callRP {l0:MLd}{cP may z:Prop}(h:FnG X f vs lin k1 (fun r l=>cP∧l=l0) may False)(hm:may→z)(hk:Nat.blt k1 kk=true)(sp:LSplit led lin rest)(c:∀ r,cP→k r (l0++rest)):callG X z kk f vs led k:=⟨k1,lin,rest,_,hk,sp,FnG.low (FnG.may h hm),fun r l e=>e.2▸c r e.1⟩
theorem callW {P:SV→MLd→Prop}(r0:SV)(l0:MLd)(h:Fn X f vs lin k1 P)(hk:Nat.blt k1 kk=true)(sp:LSplit led lin rest)(e:∀ r l,P r l→r=r0∧l=l0)(c:k r0 (l0++rest)):callK X kk f vs led k:=callP h hk sp fun r l q=>(e r l q).1▸(e r l q).2▸c
theorem newU1 {α:Type}{X:Pw}{kk k1:Nat}{C fI:Addr}{vs:List SV}{led:MLd}{L L':Addr→α→MLd}{k:SV→MLd→Prop}(hi:initOk C fI=true)(hk:Nat.blt (k1+1) kk=true)(h:∀ x,Fn X fI (.ref x::vs) [(x,.inst C [] [])] k1 fun r l=>r=.none∧∃ y,l=L x y)(F:∀ x y,Fz [.ref x] (L x y++led) [.ref x] (L' x y))(c:∀ x y,k (.ref x) (L' x y)):newK X kk C vs led k :=
 ⟨⟨fI,k1,[],led,_,hi,hk,LSplit.allR,h,fun x r l e=>⟨e.1,e.2.elim fun y e=>⟨.ref x,_,e▸F x y,c x y⟩⟩⟩⟩
theorem newU2 {α β:Type}{C fI:Addr}{L:Addr→α→β→MLd}(hi:initOk C fI=true)(hk:Nat.blt (k1+1) kk=true)(h:∀ x,Fn X fI (.ref x::vs) [(x,.inst C [] [])] k1 fun r l=>r=.none∧∃ y z,l=L x y z)(c:∀ x y z,k (.ref x) (L x y z++led)):newK X kk C vs led k :=
 ⟨⟨fI,k1,[],led,_,hi,hk,LSplit.allR,h,fun x r l e=>⟨e.1,el2a1 e.2 fun y z e=>⟨.ref x,_,.nil,e▸c x y z⟩⟩⟩⟩
end
theorem newU {X:Pw}{kk k1:Nat}{C fI:Addr}{vs:List SV}{led:MLd}{L:Addr→MLd}{k:SV→MLd→Prop}(hi:initOk C fI=true)(hk:Nat.blt (k1+1) kk=true)(h:∀ x,Fn X fI (.ref x::vs) [(x,.inst C [] [])] k1 fun r l=>r=.none∧l=L x)(c:∀ x,k (.ref x) (L x++led)):newK X kk C vs led k :=
 ⟨⟨fI,k1,[],led,_,hi,hk,LSplit.allR,h,fun x r l e=>⟨e.1,.ref x,_,.nil,e.2▸c x⟩⟩⟩
theorem FzM.refl {r w:SV}:∀ {l:MLd},FzM r w l l
 | []=>.nil
 | _::_=>.keep FzM.refl
theorem newF {X:Pw}{kk k1:Nat}{C fI:Addr}{vs fs:List SV}{ns:List Nat}{led:MLd}{k:SV→MLd→Prop}(hi:initOk C fI=true)(hk:Nat.blt (k1+1) kk=true)(h:∀ x,Fn X fI (.ref x::vs) [(x,.inst C [] [])] k1 fun r l=>r=.none∧l=[(x,.inst C ns fs)])(c:k (.obj C ns fs) led):newK X kk C vs led k :=
 ⟨⟨fI,k1,[],led,_,hi,hk,LSplit.allR,h,fun x r l e=>⟨e.1,.obj C ns fs,led,by obtain ⟨_,rfl⟩:=e;exact .one (.left .allR) FzM.refl (.swap .nil) .nil,c⟩⟩⟩
theorem intsV_i {l:List SV}{k:List Int→Prop}(ns:List Int)(h:l=ns.map .int)(hz:Nat.ble ns.length 100=true)(c:k ns):intsV l k:=⟨ns,h,iE hz,c⟩
theorem nilEq_i {led led':MLd}{x:SV}{l:List SV}{K:List SV→Prop}(h:LstOf led x l)(p:∀ v∈l,plainV 3 v)(q:K l):ex1 (fun l'=>LstOf led x l') fun l'=>LstOf led' (.lst []) []∧(∀ v∈l',plainV 3 v)∧K l':=⟨l,h,.fr,p,q⟩
theorem extr_i {l:List Int}{l':List SV}{R:Int→List Int→Prop}{Q:Int→Prop}(e:l'=l.map SV.int)(z:l.length≤100)(n:l≠[])(q:∀ M,M∈l→R M l→Q M):ex1 (fun ns:List Int=>l'=ns.map SV.int) fun ns=>ns.length≤100∧ns≠[]∧∀ M,M∈ns→R M ns→Q M:=⟨l,e,z,n,q⟩
noncomputable def WI {α:Type}(M:α→Nat)(F:α→Sl)(A:α→Prop):Nat→Sl→MLd→Prop:=fun n sl led=>∃ x,n=M x∧sl=F x∧led=[]∧A x
theorem whl_i {α:Type}{W:(Nat→Sl→MLd→Prop)→Nat→Sl→MLd→Prop}{sl:Sl}(M:α→Nat)(F:α→Sl)(A:α→Prop)(x:α)(h:A x)(e:sl=F x)(k:∀ x,A x→W (WI M F A) (M x) (F x) []):∃ N I,I N sl []∧∀ n sl led,I n sl led→W I n sl led :=
 ⟨M x,WI M F A,⟨x,rfl,e,rfl,h⟩,fun n sl led ⟨y,e1,e2,e3,hy⟩=>by rw [e1,e2,e3];exact k y hy⟩
theorem WI.i {α:Type}{M:α→Nat}{F:α→Sl}{A:α→Prop}{n:Nat}{sl:Sl}(x:α)(h:M x < n)(e:sl=F x)(a:A x):∃ j,j < n∧WI M F A j sl []:=⟨M x,h,x,rfl,e,rfl,a⟩
noncomputable def WJ {α β:Type}(M:α→β→Nat)(F:α→β→Sl)(A:α→β→Prop):Nat→Sl→MLd→Prop:=fun n sl led=>∃ x y,n=M x y∧sl=F x y∧led=[]∧A x y
theorem whl2_i {α β:Type}{W:(Nat→Sl→MLd→Prop)→Nat→Sl→MLd→Prop}{sl:Sl}(M:α→β→Nat)(F:α→β→Sl)(A:α→β→Prop)(x:α)(y:β)(h:A x y)(e:sl=F x y)(k:∀ x y,A x y→W (WJ M F A) (M x y) (F x y) []):∃ N I,I N sl []∧∀ n sl led,I n sl led→W I n sl led :=
 ⟨M x y,WJ M F A,⟨x,y,rfl,e,rfl,h⟩,fun n sl led ⟨x,y,e1,e2,e3,hy⟩=>by rw [e1,e2,e3];exact k x y hy⟩
theorem WJ.i {α β:Type}{M:α→β→Nat}{F:α→β→Sl}{A:α→β→Prop}{n:Nat}{sl:Sl}(x:α)(y:β)(h:M x y < n)(e:sl=F x y)(a:A x y):∃ j,j < n∧WJ M F A j sl []:=⟨M x y,h,x,y,rfl,e,rfl,a⟩
theorem inv3_e {α β γ:Type}{C:Sl→MLd→Prop}{F:α→β→Sl}{A:α→γ→Prop}{sl:Sl}{led:MLd}(h:led=[]∧∃ x y z,sl=F x y∧A x z)(k:∀ x y z,A x z→C (F x y) []):C sl led:=by
 obtain ⟨rfl,x,y,z,rfl,h⟩:=h;exact k x y z h
theorem invS3_e {α β γ:Type}{C:Sl→Prop}{F:α→β→γ→Sl}{A:α→β→γ→Prop}{sl:Sl}(h:∃ x y z,sl=F x y z∧A x y z)(k:∀ x y z,A x y z→C (F x y z)):C sl:=by
 obtain ⟨x,y,z,rfl,h⟩:=h;exact k x y z h
theorem invL3_e {α β γ:Type}{C:Sl→MLd→Prop}{F:α→β→γ→Sl}{L:α→β→γ→MLd}{A:α→β→γ→Prop}{sl:Sl}{led:MLd}(h:∃ x y z,sl=F x y z∧A x y z∧led=L x y z)(k:∀ x y z,A x y z→C (F x y z) (L x y z)):C sl led:=by
 obtain ⟨x,y,z,rfl,h,rfl⟩:=h;exact k x y z h
noncomputable def slK:List Str→List SV→(Sl→Prop)→Prop
 | [],_,k=>k []
 | _::nm,as,k=>listE as (slK nm [] fun l=>k (none::l)) fun a as=>slK nm as fun l=>k (some a::l)
theorem slK_of:∀ {nm:List Str} {as:List SV} {k:Sl→Prop},Nat.ble as.length nm.length=true→slK nm as k→k (slots0 as nm)
 | [],[],_,_,h=>h
 | [],_::_,_,e,_=>nomatch e
 | _::nm,[],k,e,h=>by
  have:=slK_of (nm:=nm) (as:=[]) (k:=fun l=>k (none::l)) rfl h
  simpa [slots0,List.replicate_succ] using this
 | _::nm,a::as,k,e,h=>by
  have:=slK_of (nm:=nm) (as:=as) (k:=fun l=>k (some a::l)) e h
  simpa [slots0] using this
theorem slots_i {X:Pw}{kk:Nat}{ir:IS}{as:List SV}{nm:List Str}{led:MLd}{K:FK}(hl:Nat.ble as.length nm.length=true)(h:slK nm as fun sl=>vcS X kk ir sl led K):vcS X kk ir (slots0 as nm) led K:=slK_of hl h
noncomputable def forK (B:SV→Sl→MLd→(SFl→Sl→MLd→Prop)→Prop)(l:List SV)(K:FK):FK:=fun fl sl' led'=>flK fl (forL0 B l sl' led' K) (K .next sl' led') (forL0 B l sl' led' K) fun v=>K (.ret v) sl' led'
theorem forL_ind0 {α:Type}{B:SV→Sl→MLd→(SFl→Sl→MLd→Prop)→Prop}{K:FK}{f:α→SV}(I:List α→Sl→MLd→Prop)(h0:∀ sl led,I [] sl led→K .next sl led)
  (hs:∀ x r sl led,I (x::r) sl led→(∀ sl led,I r sl led→forL0 B (r.map f) sl led K)→B (f x) sl led (forK B (r.map f) K)):∀ (l:List α) sl led,I l sl led→forL0 B (l.map f) sl led K
 | [],sl,led,h=>h0 sl led h
 | x::r,sl,led,h=>hs x r sl led h fun sl led h=>forL_ind0 I h0 hs r sl led h
theorem forL_ind {α:Type}{B:SV→Sl→MLd→(SFl→Sl→MLd→Prop)→Prop}{K:FK}{f:α→SV}(I:List α→Sl→MLd→Prop)(h0:∀ sl led,I [] sl led→K .next sl led)
  (hs:∀ x r sl led,I (x::r) sl led→(∀ sl led,I r sl led→forL0 B (r.map f) sl led K)→B (f x) sl led (forK B (r.map f) K)) (l:List α) (sl:Sl) (led:MLd) (h:I l sl led):forL B (l.map f) sl led K:=⟨forL_ind0 I h0 hs l sl led h⟩
theorem snocK_i {y:SV}:∀ {l:List SV} {k:List SV→Prop},k (l++[y])→snocK l y k
 | [],_,h=>h
 | x::l,k,h=>snocK_i (l:=l) (k:=fun l'=>k (x::l')) h
theorem compL_map0 {α:Type}{F:SV→MLd→(SV→MLd→Prop)→Prop}{k:List SV→MLd→Prop}{led:MLd}{f g:α→SV}:∀ (l:List α) (acc:List SV),(∀ x∈l,∀ k2:SV→MLd→Prop,k2 (g x) led→F (f x) led k2)→k (acc++l.map g) led→compL0 F (l.map f) acc led k
 | [],acc,_,c=>by simpa [compL0] using c
 | x::r,acc,h,c=>h x (.head _) _ (snocK_i (compL_map0 r (acc++[g x]) (fun y hy=>h y (.tail _ hy)) (by simpa using c)))
theorem compL_to {α:Type}{F:SV→MLd→(SV→MLd→Prop)→Prop}{k:List SV→MLd→Prop}{led:MLd}{f g:α→SV}{l:List α}(L:List SV)(e:l.map g=L)(h:∀ x∈l,∀ k2:SV→MLd→Prop,k2 (g x) led→F (f x) led k2)(c:k L led):compL F (l.map f) [] led k :=
 ⟨compL_map0 l [] h (by rw [List.nil_append,e];exact c)⟩
theorem compW_map0 {α:Type}{F:SV→MLd→(SV→MLd→Prop)→Prop}{k:List SV→MLd→Prop}{led:MLd}{f:α→SV}{g:α→List SV}:∀ (l:List α) (acc:List SV),(∀ x∈l,∀ k2:SV→MLd→Prop,k2 (.tup (g x)) led→F (f x) led k2)→(acc++l.flatMap g).length≤1000→k (acc++l.flatMap g) led→compW0 F (l.map f) acc led k
 | [],acc,_,_,c=>by simpa [compW0] using c
 | x::r,acc,h,hz,c=>h x (.head _) _ ⟨by simp at hz ⊢;omega,compW_map0 r (acc++g x) (fun y hy=>h y (.tail _ hy)) (by simpa using hz) (by simpa using c)⟩
theorem compW_to {α:Type}{F:SV→MLd→(SV→MLd→Prop)→Prop}{k:List SV→MLd→Prop}{led:MLd}{f:α→SV}{g:α→List SV}{l:List α}(L:List SV)(e:l.flatMap g=L)(hz:L.length≤1000)(h:∀ x∈l,∀ k2:SV→MLd→Prop,k2 (.tup (g x)) led→F (f x) led k2)(c:k L led):compW F (l.map f) [] led k :=
 ⟨compW_map0 l [] h (by rw [List.nil_append,e];exact hz) (by rw [List.nil_append,e];exact c)⟩
theorem plainI {n:Nat}{x:Int}:plainV n (.int x):=by cases n <;> exact trivial
theorem plain2 {n:Nat}{x y:SV}(h1:plainV n x)(h2:plainV n y):plainV (n+1) (.tup [x,y]):=fun z hz=>(iC hz).elim (fun e=>e▸h1) fun hz=>iS hz▸h2
end Mine
end
section
namespace Mine
noncomputable section
noncomputable def nextK (Z:Sl→MLd→Prop):FK:=fun fl sl led=>SFl.casesOn (motive:=fun _=>Prop) fl (Z sl led) False False fun _=>False
theorem RZf.meet {base g h h':Heap}{env:Env}{outer:List Env}{L e:Addr}{m:Mp}{x:List Addr}(F:Fr g L h m)(hx:∀ q∈x,g.get? q=none∧q≠L)(R:RZ base (env::outer) (hideAll h x) e h') :
  ∃ t vs,RaisedS base (hideAll h x) (env::outer) e (.ref 94) t vs [] h'∧(hideAll h x).UpToSlots h'∧Fr g L (hideAll h x) m:=by
 refine el2a2 (RZf.toS (G:=hideAll h x) (news:=[]) R (fun _ _ q=>q) fun q hq=>nomatch hq) fun t vs h1 h2=>?_
 refine el3a2 F.ns fun oL es ep hL r=>?_
 exact ⟨t,vs,h1,h2,⟨oL,es,ep,hideAll_get _ hL fun q=>(hx _ q).2 rfl,r⟩,fun b o q=>hideAll_get _ (F.keep _ _ q) fun hm=>(by rw [(hx b hm).1] at q;cases q),F.above⟩
section
variable {M:Model}{A:Around}{E:Value→Shared→Prop}{s:Shared}
theorem cmp60 {prog:Program}{w:World}{env:Env}{g:Heap}{L:Addr}{m:Mp}{o i:Int}{to ti:Tok}{n1 n2:Nat}{p1 p2 p3 p4 p5 p6 p7:Pos}{Q:Value→Shared→Prop}{x y:Str}(hl:env.locals=L)(hk:env.scope.kind=.function)(k1:env.kindOf x=some .local)(k2:env.kindOf y=some .local)(d1:(x==("__debug__":Str))=false)(d2:(y==("__debug__":Str))=false)
  (F:Fr g L s.heap m) (hx:m x=some (.int o to)) (hy:m y=some (.int i ti)) (h:∀ tk,Q (.bool (decide (60 < o+1+i))) { s with toks:=tk }) :
  wpAny (model prog w) A (eval (.Compare (.BinOp (.BinOp (.Name x p1) .Add (.Constant (.int 1) n1 p2) p3) .Add (.Name y p4) p5) [.Gt] [.Constant (.int 60) n2 p6] p7) env) Q E s:=by
 subst hl
 have nm:∀ {z:Str} {v:Value} {p:Pos} {s':Shared} {Q:Value→Shared→Prop},env.kindOf z=some .local→(z==("__debug__":Str))=false→m z=some v→s'.heap=s.heap→Q v s'→wpAny (model prog w) A (eval (.Name z p) env) Q E s':=fun kz dz hz e q=>wpAny_Name (wpAny_loadName_local hk kz (e▸F.ns) hz q) dz
 exact wpAny_Compare1 (wpAny_BinOp (wpAny_BinOp (nm k1 d1 hx rfl (wpAny_Constant_int (P.add_int (nm k2 d2 hy rfl (P.add_int (wpAny_Constant_int (P.gt_int (h _)))))))))) rfl
end
theorem thenN_e {C:Flow→Prop}{r Z:Sl→MLd→Prop}{fl:SFl}{sl:Sl}{led:MLd}{K:KA}{f:Flow}(h:thenK r (nextK Z) fl sl led)(hf:FlR K fl f)(k:r sl led→C .next):C f:=by
 cases fl with
 | next=>exact hf.next (k h)
 | _=>exact False.elim h
theorem VRs.int2 {C:List Value→Prop}{K:KA}{o i:Int}{vs:List Value}(h:VRs K [.int o,.int i] vs)(k:∀ to ti,C [.int o to,.int i ti]):C vs:=by
 obtain ⟨_,_,rfl,⟨to,rfl⟩,_,_,rfl,⟨ti,rfl⟩,e⟩:=h
 cases e
 exact k to ti
theorem FnG.low2 {X:Pw}{f:Addr}{o i:Int}{kk:Nat}{b:Bool}
  (h:∀ (K0:KA) (to ti:Tok),(∀ a o,(H.K X.w.params).lookup a=some o→K0 a o)→∀ (dp un:Nat) (gd:Option (List Code)) (cn:Str) (cs:Scope) (a:Addr) (ccd:Value) (cl:List (Str × Addr)) (A₀:Around) (base h₀:Heap) (L:Addr) (m:Str→Option Value) (s:Shared) (R:Result→Shared→Prop),
   Below A₀ base [] h₀→Fr h₀ L s.heap m→(H.K X.w.params).In h₀→News h₀ L s.heap []→Top X.p X.loose X.mean X.mg X.mb h₀→dp+kk < recursionLimit→un+8 * kk < cLine→(∀ a o,K0 a o→s.heap.get? a=some o)→(H.K X.w.params).In base→Top X.p X.loose X.mean X.mg X.mb base→cs.kind=.function →
   (∀ h' tk',Fr h₀ L h' m→News h₀ L h' []→(∀ b o,s.heap.get? b=some o→b≠L→h'.get? b=some o)→R (.ok (.ret (.bool b))) { s with heap:=h',toks:=tk' }) →
   codeAny (model rowP X.w) (ktrTop dp un gd cn cs L a ccd cl []) (.call (.ref f) ⟨[.int o to,.int i ti],[]⟩) R s) :
  FnG X f [.int o,.int i] [] kk (fun r l=>r=.bool b∧l=[]) False True:=by
 intro K0 vs ledc hK0 rl hnd0 rv
 cases (show ledc=[] from rl)
 apply rv.int2
 intro to ti
 intro dp un gd cn cs a ccd cl outer A₀ base h₀ L m s R B F Xk N T hck' hd hu hp hlo hret hexc
 clear hexc rv
 have hl:=hlo trivial
 cases hl.1
 exact h K0 to ti hK0 dp un gd cn cs a ccd cl A₀ base h₀ L m s R B F Xk N T hd hu (fun a o k=>(hp a o k).1) hl.2.1 hl.2.2 hck' fun h' tk' F3 N3 kp=>hret _ _ _ [] F3 N3 (fun b o hb _ hl=>kp b o hb (hl trivial)) (fun q hq=>by cases hq) ⟨_,[],[],[],⟨rfl,rfl⟩,rfl,rfl,⟨List.nodup_nil,(fun q hq=>by cases hq),List.nodup_nil,(fun q hq=>by cases hq)⟩,rfl⟩
theorem FlR.ret {K:KA}{fl:SFl}{f:Flow}(h:FlR K fl f):VR K (flV fl) (retV f):=by
 cases fl with
 | ret x=>obtain ⟨v,rfl,h⟩:=h;exact h
 | next=>cases (show f=.next from h);exact rfl
 | brk=>cases (show f=.brk from h);exact rfl
 | cont=>cases (show f=.cont from h);exact rfl
theorem rel0 {σ:Cx}{nm nm':List Str}{o i:Int}{to ti:Tok}(hnm:nm=("outer":Str)::("inner":Str)::nm')(l1:isLocS σ.cs "outer"=true)(l2:isLocS σ.cs "inner"=true)(hc:∀ x∈nm,isCell σ.cs x=true→∃ c o v,σ.cl.lookup x=some c∧(c,o)∈([]:Ld)∧o.data=.cell v) :
  RelS σ nm (fun y=>[(("outer":Str),Value.int o to),(("inner":Str),Value.int i ti)].reverse.lookup y) [] [] (slots0 [.int o,.int i] nm):=by
 subst hnm
 refine ⟨by simp [slots0],fun j x v hx hs=>?_,hc⟩
 have h2:=slots0_get hs
 clear hs
 cases j with
 | zero=>exact Option.some.inj (show some ("outer":Str)=some x from hx)▸Option.some.inj (show some (SV.int o)=some v from h2)▸⟨_,⟨to,rfl⟩,.inl ⟨l1,rfl⟩⟩
 | succ j=>cases j with
  | zero=>exact Option.some.inj (show some ("inner":Str)=some x from hx)▸Option.some.inj (show some (SV.int i)=some v from h2)▸⟨_,⟨ti,rfl⟩,.inl ⟨l2,rfl⟩⟩
  | succ j=>exact nomatch (show (none:Option SV)=some v from h2)
theorem FnG.of_try {X:Pw}{f:Addr}{o i:Int}{kk:Nat}{zz:Prop}{nm mt nm':List Str}{ir12 ir4:IS}{q:MR}
  {name qual:Str} {params:Arguments} {s1 s2 s4:Stmt} {e:Expr} {scope:Scope} {dV kV doc pm cdv ct oc:Value} {an od:Option Addr} {osl:Array (Option Value)} {pe np p1 p2 p3 p4 p5 p6 p7 p8 hp tp:Pos} {n1 n2:Nat}
  (ho:(H.K X.w.params).lookup f=some ⟨oc,od,.func (fnOf name qual params [s1,s2,.Try [.Expr e pe] [.ExceptHandler (some (.Name "LimitFault" np)) none [.Return (some (.Compare (.BinOp (.BinOp (.Name "outer" p1) .Add (.Constant (.int 1) n1 p2) p3) .Add (.Name "inner" p4) p5) [.Gt] [.Constant (.int 60) n2 p6] p7)) p8] hp] [] [] tp,s4] scope dV kV doc pm an cdv ct),osl⟩)
  (hcd:codeIn (H.K X.w.params) cdv qual=true) (hbind:∀ s a b,BindsTo s (fnOf name qual params [s1,s2,.Try [.Expr e pe] [.ExceptHandler (some (.Name "LimitFault" np)) none [.Return (some (.Compare (.BinOp (.BinOp (.Name "outer" p1) .Add (.Constant (.int 1) n1 p2) p3) .Add (.Name "inner" p4) p5) [.Gt] [.Constant (.int 60) n2 p6] p7)) p8] hp] [] [] tp,s4] scope dV kV doc pm an cdv ct) ⟨[a,b],[]⟩ [(("outer":Str),a),(("inner":Str),b)])
  (hnm:nm=("outer":Str)::("inner":Str)::nm') (hnd:noDup nm=true) (hloc:nm.all (isLocS scope)=true) (hcell:(scope.names.all fun x=>!(x.2==.cell))=true) (hco:scope.isCoroutine=false) (hgen:scope.isGenerator=false) (hsk:scope.kind=.function) (hlim:scope.names.lookup ("LimitFault":Str)=some .globalImplicit)
  (hpe:(plainArg e&&!Nat.beq (knd e) 1)=true) (hq:rmC (cmpX (fcc scope nm)) e=some q) (h12:cmpS ⟨mt,scope,nm⟩ 40 [s1,s2]=ir12) (h4:cmpS ⟨mt,scope,nm⟩ 40 [s4]=ir4) (hkk:0 < kk)
  (hz:zz→60 < o+1+i) (hv:vcS (X.on False) kk ir12 (slots0 [.int o,.int i] nm) [] (nextK fun sl led=>(∃ r,sl=some (.int o)::some (.int i)::r)∧methR (X.on False) zz kk q.f q.c q.o q.as sl led fun v led'=>vcS (X.on False) kk ir4 sl led' (endK fun r l=>r=.bool true∧l=[]))) :
  FnG X f [.int o,.int i] [] kk (fun r l=>r=.bool true∧l=[]) False True:=by
 subst h12 h4
 refine FnG.low2 fun K0 to ti hK0 dp un gd cn cs a ccd cl A₀ base h₀ L m s RR B F Xk N T hd hu hp XB TB hck' hret=>?_
 have nd:=noDup_of hnd
 have lc:∀ x∈nm,isLocS scope x=true:=iT hloc
 have l1:=lc "outer" (hnm▸.head _)
 have l2:=lc "inner" (hnm▸.tail _ (.head _))
 refine code_defZ (env:=envX cn cs L a ccd cl) (K:=H.K X.w.params) B F Xk N T rfl rfl hck' ho hcd (Nat.lt_of_le_of_lt (Nat.le_add_right dp kk) hd) (hbind s _ _) (List.forall_mem_cons.mpr ⟨loc_lookup l1,List.forall_mem_cons.mpr ⟨loc_lookup l2,List.forall_mem_nil _⟩⟩) ?_ hco hgen hsk fun x hx e=>by have z:=iT hcell x hx;rw [e] at z;cases z
 intro g L' h' F' N' B' X' T' D' GS
 let σ:Cx:=⟨X.w,X.p,X.loose,X.mean,X.mg,X.mb,dp+1,un+3,gd,qual,scope,L',f,cdv,[],[envX cn cs L a ccd cl],ktrTop dp un gd cn cs L a ccd cl [],base,g,s.gens,s.drawn,s.os,K0,False,False⟩
 have G:Good σ kk:=⟨B',X',T',hsk,fun k hk=>dl hk hd,fun k hk=>ul hk hu,fun a o k=>GS a o (hp a o k) List.not_mem_nil,hK0,fun h=>h.elim⟩
 have O:NmOk σ nm:=⟨nd,fun x hx=>.inl (lc x hx),fun x y c h=>(by cases h),fun x hx hc=>(loc_cell (lc x hx) hc).elim⟩
 have st0:SS σ (fun y=>[(("outer":Str),Value.int o to),(("inner":Str),Value.int i ti)].reverse.lookup y) ([]++[]) [] [] { s with heap:=h',toks:=s.toks+[(("outer":Str),Value.int o to),(("inner":Str),Value.int i ti)].length }:=⟨[],rfl,⟨List.nodup_nil,(fun q hq=>by cases hq),List.nodup_nil,(fun q hq=>by cases hq)⟩,⟨F',(fun q hq=>by cases hq),rfl,rfl,rfl⟩⟩
 have R0:RelS σ nm (fun y=>[(("outer":Str),Value.int o to),(("inner":Str),Value.int i ti)].reverse.lookup y) [] [] (slots0 [.int o,.int i] nm):=rel0 hnm l1 l2 fun x hx hc=>(loc_cell (lc x hx) hc).elim
 have EO:EOk σ (fun e s'=>wpAny (model rowP X.w) ((ktrTop dp un gd cn cs L a ccd cl []).deeper (envOf qual scope L' f cdv)) (leaving (envOf qual scope L' f cdv) e) (fun _ s''=>RR (.error e) s'') (fun e' s''=>RR (.error e') s'') s'):=⟨by passes_own,fun h=>h.elim,fun h=>h.elim⟩
 have fin:∀ {g2 h2:Heap} {tk2:Nat} {m2:Mp} {n2:Ld},KtsTurn [L] g g2→Fr g2 L' h2 m2→News g2 L' h2 n2→LeaveS0 [L] h₀ L m g RR (.bool true) { s with heap:=h2,toks:=tk2 }:=fun {g2 h2 tk2 m2 n2} T2 F2 N2=>leaveS0_ (news':=[]) F2 (fun q hq=>by cases hq) T2 fun F3 N3 =>
  hret _ _ F3 N3 fun b o hb hl=>F2.keep _ _ (T2.other b o (GS b o hb List.not_mem_nil) fun hm=>hl (iS hm))
 clear hret GS N' F' F Xk N T B
 refine wpAny_execs_cons ((stm_ok G O (mt:=mt) (cmpS_ok G O 39 ·) s1 hv) [] [] [] _ _ _ _ EO R0 st0 fun fl f1 sl1 led1 cz1 hid1 m1 sh1 hk1 hf1 R1 u1 st1=>?_)
 apply thenN_e hk1 hf1
 intro hk1
 refine wpAny_execs_cons ((stm_ok G O (mt:=mt) (cmpS_ok G O 38 ·) s2 hk1) [] cz1 hid1 _ _ _ _ EO R1 st1 fun fl f2 sl2 led2 cz2 hid2 m2 sh2 hk2 hf2 R2 u2 st2=>?_)
 apply thenN_e hk2 hf2
 intro hk2
 clear hk1 st0 R0 hv hf1 hf2 st1 R1
 refine hk2.1.elim fun r2 e1=>?_
 have hk3:=hk2.2
 clear hk2
 have K2:methR (X.on False) zz kk q.f q.c q.o q.as _ led2 fun v led'=>vcS (X.on False) kk (cmpS ⟨mt,scope,nm⟩ 40 [s4]) (some (.int o)::some (.int i)::r2) led' (endK fun r l=>r=.bool true∧l=[]):=e1▸hk3
 have R3:=e1▸R2
 clear hk3 R2 e1
 have at2:∀ {j:Nat} {x:Str} {z:Int},nm[j]? = some x→(some (.int o)::some (.int i)::r2:List (Option SV))[j]? = some (some (.int z))→∃ t,m2 x=some (.int z t):=fun {j x z} h1 h2=>by
  obtain ⟨u,⟨t,rfl⟩,h | h⟩:=R3.at_ j x _ h1 h2
  ·exact ⟨t,h.2⟩
  ·exact (loc_cell (lc x (List.mem_of_getElem? h1)) h.1).elim
 refine (at2 (j:=0) (x:="outer") (z:=o) (hnm▸rfl) rfl).elim fun t1 k1=>?_
 refine (at2 (j:=1) (x:="inner") (z:=i) (hnm▸rfl) rfl).elim fun t2 k2=>?_
 clear at2
 have pe:=iB hpe
 refine wpAny_execs_cons (wpAny_Try_except (wpAny_execs_cons (wpAny_Expr_any (methR_ok G (cx_ok G _) hq (envOk G O) (R3.toE G) K2 st2 (fun v u led3 hid3 sh3 hk3 ru u3 st3=>?_) ?_) (by unfold interactive;rw [show (envOf qual scope L' f cdv).scope.kind=.function from hsk];rfl) ((form_ok e pe.1).swN (Bool.not_eq_true' _▸pe.2) _ _ _))))
 ·refine wpAny_execs_nil (wpAny_execs_nil (cmpS_ok G O (mt:=mt) 40 [s4] hk3 [] cz2 hid3 _ _ _ _ EO (R3.mono u3) st3 fun fl f4 sl4 led4 cz4 hid4 m4 sh4 hk4 hf4 R4 u4 st4=>?_))
  clear K2 R3 st3 st2 hk3 EO
  refine el2a3 hk4 fun r led5 hz5 e1q e2q=>?_
  clear hk4
  have hz6:Fz [flV fl] led4 [.bool true] []:=e1q▸e2q▸hz5
  refine el1a3 (hz6.sound st4 (⟨retV f4,[],rfl,hf4.ret,rfl⟩:VRs (Kn σ hid4) [flV fl] [retV f4])) fun hid5 u5 st5 eRq=>?_
  refine el2a3 eRq fun v5 _ e5 hv5 _=>?_
  show LeaveS0 [L] h₀ L m g RR (retV f4) _
  refine (((List.cons.inj e5).1:retV f4=v5).trans hv5).symm▸?_
  exact st5.split fun h9 t9 ledc5 rl5 se5 F8 N8=>fin KtsTurn.refl F8 N8
 ·intro hzz e h6 tk6 x sh6 hid6 led6 u6 st6 hx6 hcz Z
  clear K2 R3 st2
  refine el2a3 (RZf.meet st6.F hx6 Z) fun t vs RS hsm FG=>?_
  revert RS hsm FG
  apply st6.split
  intro h7 t7 ledc7 rl7 se7 F7 N7 RS hsm FG
  refine caught_SO0 (name:=qual) (scope:=scope) (a:=f) (cd:=cdv) RS FG B' hsm XB TB D' KtsTurn.refl (by kernel_rfl) (by kernel_rfl) ?_ hsk hlim
  intro h₆ g₆ n₆ T6 F6 N6 _ NN6 B6 X6 TT6 D6
  refine wpAny_execs_cons (wpAny_Return_some (cmp60 (o:=o) (i:=i) (to:=t1) (ti:=t2) (x:="outer") (y:="inner") rfl hsk (loc_lookup l1) (loc_lookup l2) (by decide) (by decide) F6 k1 k2 fun tk=>?_))
  exact (decide_eq_true (hz hzz)).symm▸fin T6 F6 N6
end
end Mine
end
section
namespace Mine
noncomputable section
noncomputable abbrev Pw.low (X:Pw):Pw:=⟨X.w,X.p,X.loose,X.mean,X.mg,X.mb,False,True⟩
theorem ints_rel {K:KA}{vs:List Value}{ns:List Int}(h:IntsAre vs ns):VRs K (ns.map .int) vs:=by
 induction h with
 | nil=>exact rfl
 | cons n t _ ih=>exact ⟨_,_,rfl,⟨t,rfl⟩,ih⟩
theorem low_entry {w:World}{p:Program}{loose:List Str}{mean:ExcName→Option Value}{mg mb:Str→Option Value}{s:Shared}{fa ax:Addr}{o:Obj}{params:Arguments}{body:List Stmt}{scope:Scope}{pm cd doc:Value}{name x:Str}{vs:List Value}{ns:List Int}{R:Result→Shared→Prop}{nm mt:List Str}{ir:IS}
  (X:(H.K w.params).In s.heap) (T:Top p loose mean mg mb s.heap) (ho:s.heap.get? fa=some o) (hdata:o.data=.func (docDef name params body scope pm cd doc)) (hcd:s.heap.CodeRec cd name) (hbind:bindArgs (docDef name params body scope pm cd doc) ⟨[.ref ax],[]⟩=pure [(x,.ref ax)])
  (hx:isLocS scope x=true) (hnm:nm.head? = some x) (c8:noDup nm=true) (c9:nm.all (fun x=>isLocS scope x || isCell scope x)=true) (c10:noDup (scope.names.map (·.1))=true) (hir:cmpS ⟨mt,scope,nm⟩ 40 body=ir) (hl:s.heap.IsList ax vs.toArray) (hi:IntsAre vs ns)
  (hco:scope.isCoroutine=false) (hgen:scope.isGenerator=false) (hk:scope.kind=.function)
  (hv:vcS ⟨w,p,loose,mean,mg,mb,False,True⟩ 400 ir (slots0 [.sq (ns.map .int)] nm) [] (endK fun r _=>r=.bool true))
  (hR:∀ s' m,Fr s.heap s.heap.objs.size s'.heap m→s'.gens=s.gens→s'.os=s.os→R (.ok (.ret (.bool true))) s'):codeAny (model rowP w) callerA (.call (.ref fa) ⟨[.ref ax],[]⟩) R s:=by
 subst hir
 refine call_cellsN (by decide) ho hdata (Top.nolimit T) hcd hbind (fun y hy=>.inl (by rw [iS hy];exact loc_lookup hx)) (names_nodup c10 0) (fun h₁ tk cells F N ca=>?_) hco hgen hk
 have kinds:∀ x∈nm,isLocS scope x=true∨isCell scope x=true:=fun x hx=>Bool.or_eq_true_iff.mp (iT c9 x hx)
 let σ:Cx:=⟨w,p,loose,mean,mg,mb,callerA.depth+1,callerA.units+3,callerA.guards,name,scope,s.heap.objs.size,fa,cd,cellsFrom (s.heap.objs.size+1) scope.names [],[],callerA,s.heap,s.heap,s.gens,s.drawn,s.os,fun a o=>s.heap.get? a=some o,False,True⟩
 have G:Good σ 400:=⟨below_caller _,X,T,hk,fun k hk=>Nat.lt_trans (Nat.add_lt_add_left (iE hk) _) (show callerA.depth+1+400 < recursionLimit by decide),fun k hk=>Nat.lt_of_le_of_lt (Nat.add_le_add_left (Nat.mul_le_mul_left 8 (Nat.le_of_lt_succ (Nat.lt_succ_of_lt (iE hk)))) _) (show callerA.units+3+8 * 400 < cLine by decide),fun a o h=>h,fun a o h=>X a o h,fun _=>⟨rfl,X,T⟩⟩
 refine el1a3 hl fun ol h1 h2 eRq=>?_
 clear hl
 obtain ⟨nn,h3⟩:=eRq
 have e:nm.zip [Value.ref ax]=[(x,.ref ax)]:=by
  cases nm with
  | nil=>cases hnm
  | cons y nm=>cases hnm;rw [List.zip_cons_cons,List.zip_nil_right]
 refine body_run (σ:=σ) (mt:=mt) (Q:=fun v s'=>R (.ok (.ret v)) s') (argsS:=[.sq (ns.map .int)]) (us:=[.ref ax]) (ledc:=[]) (led:=[]) G rfl c8 kinds (by rw [e];exact F) (by rw [List.append_nil];exact N) (by rw [e];exact ca) (fun q hq=>by cases hq) rfl rfl rfl rfl List.nodup_nil ⟨_,_,rfl,⟨ax,ol,vs,rfl,h1,⟨h2,nn,h3⟩,ints_rel hi⟩,rfl⟩
  (by cases nm with | nil=>cases hnm | cons y nm=>exact Nat.ble_eq.mpr (Nat.succ_le_succ (Nat.zero_le _))) .nil hv ⟨by passes_own,fun h=>h.elim,fun h=>h.elim⟩ fun r v led1 hid1 m1 cz1 s' hr rv st=>?_
 subst hr
 cases (show v=.bool true from rv)
 refine el1a3 st.ex fun _ _ _ S=>?_
 exact hR s' m1 S.F S.gs S.os
end
end Mine
end
namespace Mine
set_option hygiene false in
local macro_rules | `(tactic| walk_at "vh") => `(tactic| first
  | ((with_reducible refine And.intro ?_ ?_) <;> walk_at "v")
  | ((with_reducible show ifB _ _ _); try ((first | refine ifB_tt (by decide +kernel) ?_ | refine ifB_ff (by decide +kernel) ?_ | with_reducible refine ifB_neq (fun h => ?_) (fun h => ?_) | with_reducible refine ifB_ne (fun h => ?_) (fun h => ?_) | with_reducible refine ifB_eq (fun h => ?_) (fun h => ?_) | with_reducible refine ifB_d (fun h => ?_) (fun h => ?_) | refine ifB_t ?_ | refine ifB_f ?_) <;> walk_at "v"))
  | ((with_reducible show ex1 _ _); try ((first | refine ex1_i _ (by repeat constructor : _ ∈ _) ?_ | refine ex1_i _ (by repeat constructor : LUpd _ _ _ _ _) ?_ | refine ex1_i _ (rfl : _ = some _) (And.intro (Nat.le_of_ble_eq_true rfl) ?_)) <;> walk_at "v"))
  | ((with_reducible show ex2 _ _); try (refine ex2_i _ _ (by repeat constructor : LUpd _ _ _ _ _) ?_ <;> walk_at "v"))
  | ((with_reducible show ex3 _ _); try (refine ex3_i _ _ _ (by repeat constructor : _ ∈ _) ?_ <;> walk_at "v"))
  | ((with_reducible show ∃ _, _); try exact ⟨_, _, .nil, rfl, rfl⟩)
  | with_reducible first | exact Nat.le_of_ble_eq_true rfl | exact blt_i rfl | exact okW rfl | exact okN (by decide) | exact okF (by decide +kernel) (by decide +kernel)
  | with_reducible first | show callG _ _ _ _ _ _ _ | show _ ≤ _ | show _ < _ | show _ = _ | show _ ≠ _ | show IntMulOk _ _)
local macro_rules | `(tactic| walk_at "v") => `(tactic| first | walk_at "vh" | ((first | refine w_cg ?_ | refine w_if ?_ | refine w_ex1 ?_ | refine w_ex2 ?_ | refine w_ex3 ?_ | refine w_ex ?_ | refine w_and ?_ | refine w_lt ?_ | refine w_le ?_ | refine w_eq ?_ | refine w_ne ?_ | refine w_mul ?_ | refine w_fd ?_); try walk_at "vh") | skip)
local macro_rules | `(tactic| walk_at "vin") => `(tactic| ((case kc => kernel_rfl); (case ki => kernel_rfl); (case kk => kernel_rfl); (case kl => kernel_rfl); (case kb => walk_at "kb"); refine slots_i (Eq.refl true) ?_))
local macro_rules | `(tactic| walk_at "kb") => `(tactic| ((repeat intro _); refine (?_ : @Eq (Option (Sem (List (Str × Value)))) _ _); kernel_rfl))
section
noncomputable def i_common_divisor:IS:=(.unp [2,3] (.op .tup (.cons (.op (.bi .abs) (.cons (.loc 0) .nil)) (.cons (.loc 1) .nil))) (.whl (.op (.cmp .Gt) (.cons (.loc 3) (.cons (.cst (.int 0)) .nil))) (.unp [2,3] (.op .tup (.cons (.loc 3) (.cons (.op (.bin .Mod) (.cons (.loc 2) (.cons (.loc 3) .nil))) .nil))) .nil) (.ret (.loc 2))))
noncomputable def n_common_divisor:List Str:=["one","other","first","second"]
noncomputable def m_common_divisor:List Str:=[]
noncomputable def i_fraction:IS:=(.ifS (.op (.cmp .Eq) (.cons (.loc 1) (.cons (.cst (.int 0)) .nil))) .bad .nil (.ifS (.op (.cmp .Lt) (.cons (.loc 1) (.cons (.cst (.int 0)) .nil))) (.unp [0,1] (.op .tup (.cons (.op .neg (.cons (.loc 0) .nil)) (.cons (.op .neg (.cons (.loc 1) .nil)) .nil))) .nil) .nil (.asg 2 (.op (.call 105) (.cons (.loc 0) (.cons (.loc 1) .nil))) (.ret (.op .tup (.cons (.op (.bin .FloorDiv) (.cons (.loc 0) (.cons (.loc 2) .nil))) (.cons (.op (.bin .FloorDiv) (.cons (.loc 1) (.cons (.loc 2) .nil))) .nil)))))))
noncomputable def n_fraction:List Str:=["top","bottom","common"]
noncomputable def m_fraction:List Str:=[]
noncomputable def i_plus:IS:=(.ret (.op (.call 113) (.cons (.op (.bin .Add) (.cons (.op (.bin .Mult) (.cons (.op .item (.cons (.loc 0) (.cons (.cst (.int 0)) .nil))) (.cons (.op .item (.cons (.loc 1) (.cons (.cst (.int 1)) .nil))) .nil))) (.cons (.op (.bin .Mult) (.cons (.op .item (.cons (.loc 1) (.cons (.cst (.int 0)) .nil))) (.cons (.op .item (.cons (.loc 0) (.cons (.cst (.int 1)) .nil))) .nil))) .nil))) (.cons (.op (.bin .Mult) (.cons (.op .item (.cons (.loc 0) (.cons (.cst (.int 1)) .nil))) (.cons (.op .item (.cons (.loc 1) (.cons (.cst (.int 1)) .nil))) .nil))) .nil))))
noncomputable def n_plus:List Str:=["a","b"]
noncomputable def m_plus:List Str:=[]
noncomputable def i_minus:IS:=(.ret (.op (.call 113) (.cons (.op (.bin .Sub) (.cons (.op (.bin .Mult) (.cons (.op .item (.cons (.loc 0) (.cons (.cst (.int 0)) .nil))) (.cons (.op .item (.cons (.loc 1) (.cons (.cst (.int 1)) .nil))) .nil))) (.cons (.op (.bin .Mult) (.cons (.op .item (.cons (.loc 1) (.cons (.cst (.int 0)) .nil))) (.cons (.op .item (.cons (.loc 0) (.cons (.cst (.int 1)) .nil))) .nil))) .nil))) (.cons (.op (.bin .Mult) (.cons (.op .item (.cons (.loc 0) (.cons (.cst (.int 1)) .nil))) (.cons (.op .item (.cons (.loc 1) (.cons (.cst (.int 1)) .nil))) .nil))) .nil))))
noncomputable def n_minus:List Str:=["a","b"]
noncomputable def m_minus:List Str:=[]
noncomputable def i_times:IS:=(.ret (.op (.call 113) (.cons (.op (.bin .Mult) (.cons (.op .item (.cons (.loc 0) (.cons (.cst (.int 0)) .nil))) (.cons (.op .item (.cons (.loc 1) (.cons (.cst (.int 0)) .nil))) .nil))) (.cons (.op (.bin .Mult) (.cons (.op .item (.cons (.loc 0) (.cons (.cst (.int 1)) .nil))) (.cons (.op .item (.cons (.loc 1) (.cons (.cst (.int 1)) .nil))) .nil))) .nil))))
noncomputable def n_times:List Str:=["a","b"]
noncomputable def m_times:List Str:=[]
noncomputable def i_sign_of:IS:=(.ifS (.op (.cmp .Gt) (.cons (.op .item (.cons (.loc 0) (.cons (.cst (.int 0)) .nil))) (.cons (.cst (.int 0)) .nil))) (.ret (.cst (.int 1))) .nil (.ifS (.op (.cmp .Lt) (.cons (.op .item (.cons (.loc 0) (.cons (.cst (.int 0)) .nil))) (.cons (.cst (.int 0)) .nil))) (.ret (.op .neg (.cons (.cst (.int 1)) .nil))) .nil (.ret (.cst (.int 0)))))
noncomputable def n_sign_of:List Str:=["a"]
noncomputable def m_sign_of:List Str:=[]
noncomputable def i_compare:IS:=(.ret (.op (.call 162) (.cons (.op .tup (.cons (.op (.bin .Sub) (.cons (.op (.bin .Mult) (.cons (.op .item (.cons (.loc 0) (.cons (.cst (.int 0)) .nil))) (.cons (.op .item (.cons (.loc 1) (.cons (.cst (.int 1)) .nil))) .nil))) (.cons (.op (.bin .Mult) (.cons (.op .item (.cons (.loc 1) (.cons (.cst (.int 0)) .nil))) (.cons (.op .item (.cons (.loc 0) (.cons (.cst (.int 1)) .nil))) .nil))) .nil))) (.cons (.cst (.int 1)) .nil))) .nil)))
noncomputable def n_compare:List Str:=["a","b"]
noncomputable def m_compare:List Str:=[]
noncomputable def i_floor_of:IS:=(.ret (.op (.bin .FloorDiv) (.cons (.op .item (.cons (.loc 0) (.cons (.cst (.int 0)) .nil))) (.cons (.op .item (.cons (.loc 0) (.cons (.cst (.int 1)) .nil))) .nil))))
noncomputable def n_floor_of:List Str:=["a"]
noncomputable def m_floor_of:List Str:=[]
noncomputable def i_rounded:IS:=(.ret (.op (.bin .FloorDiv) (.cons (.op (.bin .Add) (.cons (.op (.bin .Mult) (.cons (.cst (.int 2)) (.cons (.op .item (.cons (.loc 0) (.cons (.cst (.int 0)) .nil))) .nil))) (.cons (.op .item (.cons (.loc 0) (.cons (.cst (.int 1)) .nil))) .nil))) (.cons (.op (.bin .Mult) (.cons (.cst (.int 2)) (.cons (.op .item (.cons (.loc 0) (.cons (.cst (.int 1)) .nil))) .nil))) .nil))))
noncomputable def n_rounded:List Str:=["a"]
noncomputable def m_rounded:List Str:=[]
noncomputable def i_root_floor:IS:=(.ifS (.op (.cmp .Lt) (.cons (.loc 0) (.cons (.cst (.int 0)) .nil))) .bad .nil (.ifS (.op (.cmp .Eq) (.cons (.loc 0) (.cons (.cst (.int 0)) .nil))) (.ret (.cst (.int 0))) .nil (.asg 1 (.cst (.int 1)) (.whl (.op (.cmp .LtE) (.cons (.op (.bin .Mult) (.cons (.loc 1) (.cons (.loc 1) .nil))) (.cons (.loc 0) .nil))) (.asg 1 (.op (.bin .Mult) (.cons (.loc 1) (.cons (.cst (.int 2)) .nil))) .nil) (.asg 2 (.op (.bin .FloorDiv) (.cons (.op (.bin .Add) (.cons (.loc 1) (.cons (.op (.bin .FloorDiv) (.cons (.loc 0) (.cons (.loc 1) .nil))) .nil))) (.cons (.cst (.int 2)) .nil))) (.whl (.op (.cmp .Lt) (.cons (.loc 2) (.cons (.loc 1) .nil))) (.asg 1 (.loc 2) (.asg 2 (.op (.bin .FloorDiv) (.cons (.op (.bin .Add) (.cons (.loc 1) (.cons (.op (.bin .FloorDiv) (.cons (.loc 0) (.cons (.loc 1) .nil))) .nil))) (.cons (.cst (.int 2)) .nil))) .nil)) (.ret (.loc 1))))))))
noncomputable def n_root_floor:List Str:=["n","found","lower"]
noncomputable def m_root_floor:List Str:=[]
theorem common_divisor_fn (X:Pw)(x y:Int)(hy:0≤y):FnV X 105 [.int x,.int y] 2 (.int (Int.gcd x y)):=by
 refine' FnG.of_body n_common_divisor m_common_divisor i_common_divisor [] ?kc ?ki ⟨[],fun _ _=>rfl,?kb⟩ ?kk ?kl ⟨_,_,.nil,?_⟩
 walk_at "vin"
 walk_at "v"
 refine whl2_i (fun _ b:Int=>b.toNat) (fun a b=>[some (.int x),some (.int y),some (.int a),some (.int b)]) (fun a b=>0≤a∧0≤b∧Int.gcd a b=Int.gcd x y) _ y ⟨?_,hy,?_⟩ rfl fun a b hA=>?_
 ·show 0≤absI x
  unfold absI;split <;> walk_at "o"
 ·show Int.gcd (absI x) y=_
  unfold absI;split <;> simp [Int.gcd]
 ·refine el0a3 hA fun ha hb hg=>?_
  clear hA
  walk_at "v"
  ·walk_at "o"
  ·exact WJ.i _ _ (by have:=gcd_less (a:=a) (show 0 < b from h);walk_at "o") rfl ⟨hb,by rw [Int.fmod_eq_emod_of_nonneg _ hb];exact Int.emod_nonneg _ (by walk_at "o"),gcd_step ha h hg⟩
  ·exact ⟨_,_,.nil,by rw [gcd_end ha hb hg h];exact ⟨rfl,rfl⟩⟩
noncomputable abbrev frS (x y:Int):SV:=.tup [.int (nT x y),.int (nB x y)]
theorem fraction_fn (X:Pw)(x y:Int)(hy:0 < y)(hy2:y < 2 ^ 200):FnV X 113 [.int x,.int y] 4 (frS x y):=by
 have hg:0 < (Int.gcd x y:Int):=gcd_pos hy
 have hg2:(Int.gcd x y:Int)≤y:=gcd_le hy
 refine' FnG.of_body n_fraction m_fraction i_fraction [] ?kc ?ki ⟨[],fun _ _=>rfl,?kb⟩ ?kk ?kl ⟨_,_,.nil,?_⟩
 walk_at "vin"
 walk_at "v"
 ·walk_at "o"
 ·exfalso;walk_at "o"
 ·refine callV (common_divisor_fn _ x y (by walk_at "o")) (Eq.refl true) ?_
  walk_at "v"
  ·exact ⟨by walk_at "o",noPyl (by walk_at "o") (by walk_at "o")⟩
  ·exact ⟨by walk_at "o",noPyl (by walk_at "o") (by walk_at "o")⟩
theorem mulB {a b:Int}(h1:0 < b)(h2:b < 2 ^ 64):IntMulOk a b:=IntMulOk.of_right (intBits_le_64 (by walk_at "o") h2)
theorem mulA {a b:Int}(h1:-(2 ^ 64) < b)(h2:b < 2 ^ 64):IntMulOk a b:=IntMulOk.of_right (intBits_le_64 h1 h2)
section
variable (X:Pw){a0 a1 b0 b1:Int}
theorem plus_fn (ha:0 < a1)(ha2:a1 < 2 ^ 64)(hb:0 < b1)(hb2:b1 < 2 ^ 64):FnV X 120 [.tup [.int a0,.int a1],.tup [.int b0,.int b1]] 6 (frS (a0 * b1+b0 * a1) (a1 * b1)):=by
 have hm:=mul_pos_lt ha hb ha2 hb2
 refine' FnG.of_body n_plus m_plus i_plus [] ?kc ?ki ⟨[],fun _ _=>rfl,?kb⟩ ?kk ?kl ⟨_,_,.nil,?_⟩
 walk_at "vin"
 walk_at "v"
 ·exact mulB hb hb2
 ·exact mulB ha ha2
 ·exact mulB hb hb2
 ·refine callV (fraction_fn _ _ _ hm.1 hm.2) (Eq.refl true) ?_
  walk_at "v"
theorem minus_fn (ha:0 < a1)(ha2:a1 < 2 ^ 64)(hb:0 < b1)(hb2:b1 < 2 ^ 64):FnV X 127 [.tup [.int a0,.int a1],.tup [.int b0,.int b1]] 6 (frS (a0 * b1 - b0 * a1) (a1 * b1)):=by
 have hm:=mul_pos_lt ha hb ha2 hb2
 refine' FnG.of_body n_minus m_minus i_minus [] ?kc ?ki ⟨[],fun _ _=>rfl,?kb⟩ ?kk ?kl ⟨_,_,.nil,?_⟩
 walk_at "vin"
 walk_at "v"
 ·exact mulB hb hb2
 ·exact mulB ha ha2
 ·exact mulB hb hb2
 ·refine callV (fraction_fn _ _ _ hm.1 hm.2) (Eq.refl true) ?_
  walk_at "v"
theorem times_fn (ha:0 < a1)(ha2:a1 < 2 ^ 64)(hb:0 < b1)(hb2:b1 < 2 ^ 64)(hs:IntMulOk a0 b0):FnV X 134 [.tup [.int a0,.int a1],.tup [.int b0,.int b1]] 6 (frS (a0 * b0) (a1 * b1)):=by
 have hm:=mul_pos_lt ha hb ha2 hb2
 refine' FnG.of_body n_times m_times i_times [] ?kc ?ki ⟨[],fun _ _=>rfl,?kb⟩ ?kk ?kl ⟨_,_,.nil,?_⟩
 walk_at "vin"
 walk_at "v"
 ·exact hs
 ·exact mulB hb hb2
 ·refine callV (fraction_fn _ _ _ hm.1 hm.2) (Eq.refl true) ?_
  walk_at "v"
theorem sign_of_fn:FnV X 162 [.tup [.int a0,.int a1]] 2 (.int (sgn a0)):=by
 refine' FnG.of_body n_sign_of m_sign_of i_sign_of [] ?kc ?ki ⟨[],fun _ _=>rfl,?kb⟩ ?kk ?kl ⟨_,_,.nil,?_⟩
 walk_at "vin"
 unfold sgn
 walk_at "v"
 ·exact ⟨_,_,.nil,by rw [if_pos h];exact ⟨rfl,rfl⟩⟩
 ·exact ⟨_,_,.nil,by rw [if_neg (by assumption),if_pos h];exact ⟨rfl,rfl⟩⟩
 ·exact ⟨_,_,.nil,by rw [if_neg (by assumption),if_neg h];exact ⟨rfl,rfl⟩⟩
theorem compare_fn (ha:-(2 ^ 64) < a1)(ha2:a1 < 2 ^ 64)(hb:-(2 ^ 64) < b1)(hb2:b1 < 2 ^ 64):FnV X 169 [.tup [.int a0,.int a1],.tup [.int b0,.int b1]] 4 (.int (sgn (a0 * b1 - b0 * a1))):=by
 refine' FnG.of_body n_compare m_compare i_compare [] ?kc ?ki ⟨[],fun _ _=>rfl,?kb⟩ ?kk ?kl ⟨_,_,.nil,?_⟩
 walk_at "vin"
 walk_at "v"
 ·exact mulA hb hb2
 ·exact mulA ha ha2
 ·refine callV (sign_of_fn _) (Eq.refl true) ?_
  walk_at "v"
theorem floor_of_fn (ha:0 < a1)(ha2:a1 < 2 ^ 64):FnV X 190 [.tup [.int a0,.int a1]] 2 (.int (a0.fdiv a1)):=by
 refine' FnG.of_body n_floor_of m_floor_of i_floor_of [] ?kc ?ki ⟨[],fun _ _=>rfl,?kb⟩ ?kk ?kl ⟨_,_,.nil,?_⟩
 walk_at "vin"
 walk_at "v"
 exact ⟨by walk_at "o",noPyl (by walk_at "o") (by walk_at "o")⟩
theorem rounded_fn (ha:0 < a1)(ha2:a1 < 2 ^ 64):FnV X 197 [.tup [.int a0,.int a1]] 2 (.int ((2 * a0+a1).fdiv (2 * a1))):=by
 refine' FnG.of_body n_rounded m_rounded i_rounded [] ?kc ?ki ⟨[],fun _ _=>rfl,?kb⟩ ?kk ?kl ⟨_,_,.nil,?_⟩
 walk_at "vin"
 walk_at "v"
 ·exact IntMulOk.of_left (by decide)
 ·exact IntMulOk.of_left (by decide)
 ·exact ⟨by walk_at "o",noPyl (by walk_at "o") (by walk_at "o")⟩
theorem root_floor_fn {n:Int}(hn:0≤n)(hn2:n < 2 ^ 62):Fn X 204 [.int n] [] 2 fun r l=>l=[]∧∃ x:Int,r=.int x∧0≤x∧x < 2 ^ 62∧x * x≤n∧n < (x+1) * (x+1):=by
 refine' FnG.of_body n_root_floor m_root_floor i_root_floor [] ?kc ?ki ⟨[],fun _ _=>rfl,?kb⟩ ?kk ?kl ⟨_,_,.nil,?_⟩
 walk_at "vin"
 walk_at "v"
 ·walk_at "o"
 ·exact ⟨_,_,.nil,rfl,_,rfl,by walk_at "o",by walk_at "o",by walk_at "o",by walk_at "o"⟩
 obtain ⟨B32,hB⟩:∃ b:Int,b=2 ^ 32:=⟨_,rfl⟩
 refine whl_i (fun f:Int=>(n+1 - f).toNat) (fun f=>[some (.int n),some (.int f),none]) (fun f=>1≤f∧f < B32) 1 ⟨by walk_at "o",by walk_at "o"⟩ rfl fun f hA=>?_
 have hf:=hA.1
 have hf2:=hA.2
 clear hA
 walk_at "v"
 ·exact mulA (by walk_at "o") (by walk_at "o")
 ·exact IntMulOk.of_right (by decide)
 ·have h1:=rf_up hf hn2 h
  have h2:=rf_le hf h
  exact WI.i _ (by walk_at "o") rfl ⟨by walk_at "o",by walk_at "o"⟩
 ·exact ⟨by walk_at "o",noPyl (by walk_at "o") (by walk_at "o")⟩
 have h1:=rf_start hf h
 refine whl2_i (fun f _:Int=>f.toNat) (fun f l:Int=>[some (.int n),some (.int f),some (.int l)]) (fun f l=>0 < f∧f < B32∧n < (f+1) * (f+1)∧l=(f+n.fdiv f).fdiv 2) f _ ⟨by walk_at "o",hf2,h1,rfl⟩ rfl fun f l hA=>?_
 clear hf hf2 h1 h
 refine el0a4 hA fun hf hf2 h1 hl=>?_
 clear hA
 have h3:=rf_turn (n:=n) (by walk_at "o") hf hl
 walk_at "v"
 ·exact ⟨by walk_at "o",noPyl (by walk_at "o") (by walk_at "o")⟩
 ·exact WJ.i _ _ (by walk_at "o") rfl ⟨h3.1,by walk_at "o",h3.2,rfl⟩
 ·have h4:=rf_end (n:=n) hf hl h
  exact ⟨_,_,.nil,rfl,_,rfl,by walk_at "o",by walk_at "o",h4,h1⟩
end
end
section
noncomputable def i_law_pool:IS:=(.asg 2 (.ite (.op (.cmp .Lt) (.cons (.loc 1) (.cons (.op (.bi .len) (.cons (.loc 0) .nil)) .nil))) (.op .item (.cons (.loc 0) (.cons (.loc 1) .nil))) (.cst (.int 0))) (.asg 3 (.op (.bi .max) (.cons (.op (.bi .int) (.cons (.loc 2) .nil)) (.cons (.op (.bi .int) (.cons (.op (.bin .Sub) (.cons (.op .neg (.cons (.cst (.int 1)) .nil)) (.cons (.loc 2) .nil))) .nil)) .nil))) (.asg 4 (.op (.bin .Mod) (.cons (.op (.bi .int) (.cons (.op (.bin .Mult) (.cons (.op (.bin .Add) (.cons (.op (.bin .Add) (.cons (.op (.bin .Add) (.cons (.op (.bin .Mod) (.cons (.op (.bi .int) (.cons (.loc 3) .nil)) (.cons (.cst (.int 2147483629)) .nil))) (.cons (.op (.bin .Mult) (.cons (.op (.bin .Mult) (.cons (.cst (.int 7919)) (.cons (.loc 1) .nil))) (.cons (.loc 1) .nil))) .nil))) (.cons (.op (.bin .Mult) (.cons (.cst (.int 31)) (.cons (.loc 1) .nil))) .nil))) (.cons (.cst (.int 17)) .nil))) (.cons (.cst (.int 48271)) .nil))) .nil)) (.cons (.cst (.int 2147483647)) .nil))) (.ret (.op .mls (.cons (.op (.bin .Mult) (.cons (.loc 3) (.cons (.op (.bi .int) (.cons (.op (.cmp .GtE) (.cons (.loc 3) (.cons (.op (.bin .Pow) (.cons (.cst (.int 10)) (.cons (.cst (.int 18)) .nil))) .nil))) .nil)) .nil))) (.cons (.loc 4) .nil)))))))
noncomputable def n_law_pool:List Str:=["script","k","cell","big","mixed"]
noncomputable def m_law_pool:List Str:=["return"]
noncomputable def i_law_take:IS:=(.ifS (.op (.cmp .Gt) (.cons (.op .item (.cons (.loc 0) (.cons (.cst (.int 0)) .nil))) (.cons (.cst (.int 0)) .nil))) (.asg 2 (.op (.bin .Mod) (.cons (.op (.bi .int) (.cons (.op .item (.cons (.loc 0) (.cons (.cst (.int 0)) .nil))) .nil)) (.cons (.loc 1) .nil))) (.sItem (.loc 0) (.cst (.int 0)) (.op (.bin .FloorDiv) (.cons (.op .item (.cons (.loc 0) (.cons (.cst (.int 0)) .nil))) (.cons (.loc 1) .nil))) (.ret (.loc 2)))) .nil (.sItem (.loc 0) (.cst (.int 1)) (.op (.bin .Mod) (.cons (.op (.bi .int) (.cons (.op (.bin .Add) (.cons (.op (.bin .Mult) (.cons (.op .item (.cons (.loc 0) (.cons (.cst (.int 1)) .nil))) (.cons (.cst (.int 39373)) .nil))) (.cons (.cst (.int 7)) .nil))) .nil)) (.cons (.cst (.int 2147483647)) .nil))) (.ret (.op (.bin .Mod) (.cons (.op (.bi .int) (.cons (.op (.bin .FloorDiv) (.cons (.op (.bin .Mod) (.cons (.op (.bi .int) (.cons (.op (.bin .Mult) (.cons (.op .item (.cons (.loc 0) (.cons (.cst (.int 1)) .nil))) (.cons (.op .item (.cons (.loc 0) (.cons (.cst (.int 1)) .nil))) .nil))) .nil)) (.cons (.cst (.int 2147483629)) .nil))) (.cons (.cst (.int 32)) .nil))) .nil)) (.cons (.loc 1) .nil))))))
noncomputable def n_law_take:List Str:=["source","top","drawn"]
noncomputable def m_law_take:List Str:=["source"]
noncomputable def i_law_one:IS:=(.ret (.op .item (.cons (.loc 1) (.cons (.op (.call 859) (.cons (.loc 0) (.cons (.op (.bi .len) (.cons (.loc 1) .nil)) .nil))) .nil))))
noncomputable def n_law_one:List Str:=["source","things"]
noncomputable def m_law_one:List Str:=[]
noncomputable def i_law_divisor:IS:=(.whl (.op (.cmp .Gt) (.cons (.loc 1) (.cons (.cst (.int 0)) .nil))) (.unp [0,1] (.op .tup (.cons (.loc 1) (.cons (.op (.bin .Mod) (.cons (.loc 0) (.cons (.loc 1) .nil))) .nil))) .nil) (.ret (.loc 0)))
noncomputable def n_law_divisor:List Str:=["one","other"]
noncomputable def m_law_divisor:List Str:=[]
noncomputable def i_law_share:IS:=(.asg 2 (.op (.call 873) (.cons (.op (.bi .abs) (.cons (.loc 0) .nil)) (.cons (.loc 1) .nil))) (.ret (.op .tup (.cons (.op (.bin .FloorDiv) (.cons (.loc 0) (.cons (.loc 2) .nil))) (.cons (.op (.bin .FloorDiv) (.cons (.loc 1) (.cons (.loc 2) .nil))) .nil)))))
noncomputable def n_law_share:List Str:=["top","bottom","common"]
noncomputable def m_law_share:List Str:=[]
noncomputable def i_law_is_near:IS:=(.asg 5 (.op (.bin .Sub) (.cons (.op (.bin .Mult) (.cons (.op .item (.cons (.loc 0) (.cons (.cst (.int 0)) .nil))) (.cons (.loc 2) .nil))) (.cons (.op (.bin .Mult) (.cons (.loc 1) (.cons (.op .item (.cons (.loc 0) (.cons (.cst (.int 1)) .nil))) .nil))) .nil))) (.ret (.op (.cmp .LtE) (.cons (.op (.bin .Mult) (.cons (.op (.bi .abs) (.cons (.loc 5) .nil)) (.cons (.loc 4) .nil))) (.cons (.op (.bin .Mult) (.cons (.loc 3) (.cons (.op .item (.cons (.loc 0) (.cons (.cst (.int 1)) .nil))) .nil))) .nil)))))
noncomputable def n_law_is_near:List Str:=["told","number","bottom","part","many","off"]
noncomputable def m_law_is_near:List Str:=[]
section
variable (X:Pw)
theorem law_divisor_fn (x y:Int)(hx:0≤x)(hy:0≤y):FnV X 873 [.int x,.int y] 2 (.int (Int.gcd x y)):=by
 refine' FnG.of_body n_law_divisor m_law_divisor i_law_divisor [] ?kc ?ki ⟨[],fun _ _=>rfl,?kb⟩ ?kk ?kl ⟨_,_,.nil,?_⟩
 walk_at "vin"
 walk_at "v"
 refine ⟨y.toNat,fun N sl led=>∃ a b:Int,N=b.toNat∧sl=[some (.int a),some (.int b)]∧led=[]∧0≤a∧0≤b∧Int.gcd a b=Int.gcd x y,⟨_,y,rfl,rfl,rfl,hx,hy,rfl⟩,fun N sl led ⟨a,b,e1,e2,e3,ha,hb,hg⟩=>?_⟩
 subst e1 e2 e3
 walk_at "v"
 ·walk_at "o"
 ·exact ⟨_,gcd_less h,_,_,rfl,rfl,rfl,hb,gcd_nn h,gcd_step ha h hg⟩
 ·exact ⟨_,_,.nil,by rw [gcd_end ha hb hg h];exact ⟨rfl,rfl⟩⟩
theorem law_share_fn (x y:Int)(hy:0 < y)(hy2:y < 2 ^ 200):FnV X 880 [.int x,.int y] 4 (frS x y):=by
 have e1:0≤absI x:=by unfold absI;split <;> walk_at "o"
 have e2:Int.gcd (absI x) y=Int.gcd x y:=by unfold absI;split <;> simp [Int.gcd]
 have hg:0 < (Int.gcd x y:Int):=gcd_pos hy
 have hg2:(Int.gcd x y:Int)≤y:=gcd_le hy
 refine' FnG.of_body n_law_share m_law_share i_law_share [] ?kc ?ki ⟨[],fun _ _=>rfl,?kb⟩ ?kk ?kl ⟨_,_,.nil,?_⟩
 walk_at "vin"
 walk_at "v"
 refine callV (law_divisor_fn _ _ y e1 (by walk_at "o")) (Eq.refl true) ?_
 rw [e2]
 walk_at "v"
 ·exact ⟨by walk_at "o",noPyl (by walk_at "o") (by walk_at "o")⟩
 ·exact ⟨by walk_at "o",noPyl (by walk_at "o") (by walk_at "o")⟩
theorem law_is_near_fn {a0 a1 number bottom part many:Int}(h1:IntMulOk a0 bottom)(h2:IntMulOk number a1)(h4:IntMulOk part a1)(h5:many=2000∨many=1000∨many=127) :
  FnV X 887 [.tup [.int a0,.int a1],.int number,.int bottom,.int part,.int many] 2 (.bool (decide (absI (a0 * bottom - number * a1) * many≤part * a1))):=by
 refine' FnG.of_body n_law_is_near m_law_is_near i_law_is_near [] ?kc ?ki ⟨[],fun _ _=>rfl,?kb⟩ ?kk ?kl ⟨_,_,.nil,?_⟩
 walk_at "vin"
 walk_at "v"
 ·exact h1
 ·exact h2
 ·rcases h5 with rfl | rfl | rfl <;> exact IntMulOk.of_right (by decide)
 ·exact h4
structure SrcOk (s:Int × Int):Prop where
 x:0≤s.1
 y:0≤s.2
 z:s.2 < 2147483648
noncomputable abbrev srcO (s:Int × Int):MO:=.lst [.int s.1,.int s.2]
theorem take_fn {src:Addr}{s:Int × Int}{top:Int}(hs:SrcOk s)(h0:0 < top)(h1:top < 1000) :
  Fn X 859 [.ref src,.int top] [(src,srcO s)] 4 (Post fun k=>∀ d s',0≤d→d < top→SrcOk s'→k (.int d) [(src,srcO s')]):=by
 obtain ⟨x,y⟩:=s
 obtain ⟨hx,hy,hy2⟩:=hs
 dsimp only at hx hy hy2
 have hq:=fmod_lt (y * 39373+7) (b:=2147483647) (by decide)
 have hq0:=fmod_nn (y * 39373+7) (b:=2147483647) (by decide)
 refine' FnG.of_body n_law_take m_law_take i_law_take [] ?kc ?ki ⟨[],fun _ _=>rfl,?kb⟩ ?kk ?kl ⟨_,_,.nil,?_⟩
 walk_at "vin"
 walk_at "v"
 ·exact Int.ne_of_gt h0
 ·exact ⟨Int.ne_of_gt h0,noPyl (Int.lt_trans (by decide) h0) (Int.lt_trans h1 (by decide))⟩
 ·exact ⟨_,_,.nil,fun k c=>c _ (x.fdiv top,y) (fmod_nn _ h0) (fmod_lt _ h0) ⟨fdiv_nn hx h0,hy,hy2⟩⟩
 ·exact IntMulOk.of_right (by decide)
 ·exact mulA (Int.lt_of_lt_of_le (by decide) hq0) (Int.lt_trans hq (by decide))
 ·exact Int.ne_of_gt h0
 ·exact ⟨_,_,.nil,fun k c=>c _ (x,(y * 39373+7).fmod 2147483647) (fmod_nn _ h0) (fmod_lt _ h0) ⟨hx,hq0,Int.lt_trans hq (by decide)⟩⟩
theorem one_fn {src:Addr}{s:Int × Int}{ns:List Int}(hs:SrcOk s)(hn:0 < ns.length)(hn2:ns.length < 100) :
  Fn X 866 [.ref src,.lst (ns.map .int)] [(src,srcO s)] 8 (Post fun k=>∀ d s',d∈ns→SrcOk s'→k (.int d) [(src,srcO s')]):=by
 have hz:(ns.map SV.int).length=ns.length:=List.length_map ..
 refine' FnG.of_body n_law_one m_law_one i_law_one [] ?kc ?ki ⟨[],fun _ _=>rfl,?kb⟩ ?kk ?kl ⟨_,_,.nil,?_⟩
 walk_at "vin"
 walk_at "v"
 ·rw [hz];walk_at "o"
 refine callQ (take_fn _ (top:=((ns.map SV.int).length:Int)) hs (by rw [hz];walk_at "o") (by rw [hz];walk_at "o")) (Eq.refl true) .allL ?_
 intro d s' hd0 hd1 hs'
 rw [hz] at hd1
 obtain ⟨k,rfl⟩:=Int.eq_ofNat_of_zero_le hd0
 have hk:k < ns.length:=Int.ofNat_lt.mp hd1
 walk_at "v"
 exact ⟨.int ns[k],by show (ns.map SV.int)[k]? = _;rw [List.getElem?_map,List.getElem?_eq_getElem hk];rfl,by rw [hz];walk_at "o",_,_,.nil,fun k c=>c _ _ (List.getElem_mem hk) hs'⟩
theorem pool_fn {ns:List Int}{k:Int}(hk:0≤k∧k≤1)(hlen:ns.length < 2 ^ 20) :
  Fn X 852 [.sq (ns.map .int),.int k] [] 4 (Post fun k=>∀ a s,SrcOk s→k (.ref a) [(a,srcO s)]):=by
 obtain ⟨j,rfl⟩:∃ j:Nat,k=(j:Int):=⟨k.toNat,by walk_at "o"⟩
 have fin:∀ (big c:Int) (a:Addr),0≤big→endK (Post fun k=>∀ a s,SrcOk s→k (.ref a) [(a,srcO s)]) (.ret (.ref a)) [] [(a,.lst [.int (big * (if decide ((10:Int) ^ Int.toNat 18≤big)=true then 1 else 0)),.int (c.fmod 2147483647)])]:=fun big c a hb =>
  ⟨_,_,.nil,fun k c=>c _ (_,_) ⟨by dsimp only;split <;> walk_at "o",fmod_nn _ (by decide),Int.lt_trans (fmod_lt _ (by decide)) (by decide)⟩⟩
 have one:∀ {x:Int} {c:Bool},IntMulOk x (if c=true then 1 else 0):=fun {x c}=>IntMulOk.of_right (by split <;> decide)
 have mx:∀ c:Int,0≤(if -1 - c > c then -1 - c else c):=fun c=>by split <;> walk_at "o"
 refine' FnG.of_body n_law_pool m_law_pool i_law_pool [] ?kc ?ki ⟨[],fun _ _=>rfl,?kb⟩ ?kk ?kl ⟨_,_,.nil,?_⟩
 walk_at "vin"
 walk_at "v"
 ·rw [List.length_map];walk_at "o"
 ·have hj:j < ns.length:=by rw [List.length_map] at h;walk_at "o"
  refine ⟨.int ns[j],by show (ns.map SV.int)[j]? = _;rw [List.getElem?_map,List.getElem?_eq_getElem hj];rfl,by rw [List.length_map];walk_at "o",?_⟩
  walk_at "v"
  ·exact IntMulOk.of_left (by decide)
  ·exact mulA (by walk_at "o") (by walk_at "o")
  ·exact IntMulOk.of_left (by decide)
  ·exact IntMulOk.of_right (by decide)
  ·decide
  ·decide
  ·exact one
  ·exact fun a=>fin _ _ a (mx _)
 ·exact IntMulOk.of_left (by decide)
 ·exact mulA (by walk_at "o") (by walk_at "o")
 ·exact IntMulOk.of_left (by decide)
 ·exact IntMulOk.of_right (by decide)
 ·decide
 ·decide
 ·exact one
 ·exact fun a=>fin _ _ a (mx 0)
end
end
section
noncomputable def i_stretch_of:IS:=(.asg 1 (.glo 0) (.forS [2] true (.op (.slc none (some 4)) (.cons (.meth 616 0 (.loc 0) .nil) .nil)) (.asg 1 (.op (.call 120) (.cons (.loc 1) (.cons (.op (.call 134) (.cons (.loc 2) (.cons (.loc 2) .nil))) .nil))) .nil) (.ret (.op (.bin .Add) (.cons (.cst (.int 1)) (.cons (.op (.call 204) (.cons (.op (.call 190) (.cons (.loc 1) .nil)) .nil)) .nil))))))
noncomputable def n_stretch_of:List Str:=["matrix","found","part"]
noncomputable def m_stretch_of:List Str:=[]
noncomputable def i_law_stretch_right:IS:=(.unp [3,4,5,6,7,8] (.comp (.loc 0) (.op .tup (.cons (.loc 13) (.cons (.cst (.int 2)) .nil)))) (.asg 9 (.op (.call 727) (.cons (.op (.new 654) (.cons (.loc 3) (.cons (.loc 4) (.cons (.loc 5) (.cons (.loc 6) (.cons (.loc 7) (.cons (.loc 8) .nil))))))) .nil)) (.unp [10,11] (.op .tup (.cons (.op (.bin .Add) (.cons (.op (.bin .Mult) (.cons (.op .item (.cons (.loc 0) (.cons (.cst (.int 0)) .nil))) (.cons (.loc 1) .nil))) (.cons (.op (.bin .Mult) (.cons (.op .item (.cons (.loc 0) (.cons (.cst (.int 2)) .nil))) (.cons (.loc 2) .nil))) .nil))) (.cons (.op (.bin .Add) (.cons (.op (.bin .Mult) (.cons (.op .item (.cons (.loc 0) (.cons (.cst (.int 1)) .nil))) (.cons (.loc 1) .nil))) (.cons (.op (.bin .Mult) (.cons (.op .item (.cons (.loc 0) (.cons (.cst (.int 3)) .nil))) (.cons (.loc 2) .nil))) .nil))) .nil))) (.asg 12 (.op (.bi .sum) (.cons (.comp (.op (.slc none (some 4)) (.cons (.loc 0) .nil)) (.op (.bin .Mult) (.cons (.loc 13) (.cons (.loc 13) .nil)))) .nil)) (.ret (.and (.op (.cmp .LtE) (.cons (.op (.bin .Add) (.cons (.op (.bin .Mult) (.cons (.loc 10) (.cons (.loc 10) .nil))) (.cons (.op (.bin .Mult) (.cons (.loc 11) (.cons (.loc 11) .nil))) .nil))) (.cons (.op (.bin .Mult) (.cons (.op (.bin .Mult) (.cons (.op (.bin .Mult) (.cons (.cst (.int 4)) (.cons (.loc 9) .nil))) (.cons (.loc 9) .nil))) (.cons (.op (.bin .Add) (.cons (.op (.bin .Mult) (.cons (.loc 1) (.cons (.loc 1) .nil))) (.cons (.op (.bin .Mult) (.cons (.loc 2) (.cons (.loc 2) .nil))) .nil))) .nil))) .nil))) (.op (.cmp .LtE) (.cons (.op (.bin .Mult) (.cons (.cst (.int 4)) (.cons (.op (.bin .Pow) (.cons (.op (.bin .Sub) (.cons (.loc 9) (.cons (.cst (.int 1)) .nil))) (.cons (.cst (.int 2)) .nil))) .nil))) (.cons (.loc 12) .nil)))))))))
noncomputable def n_law_stretch_right:List Str:=["parts","u","v","a","b","c","d","e","f","stretch","x","y","whole"]
noncomputable def m_law_stretch_right:List Str:=[]
noncomputable def i_Matrix___init:IS:=(.sAttr 0 (.loc 0) (.loc 1) (.sAttr 1 (.loc 0) (.loc 2) (.sAttr 2 (.loc 0) (.loc 3) (.sAttr 3 (.loc 0) (.loc 4) (.sAttr 4 (.loc 0) (.loc 5) (.sAttr 5 (.loc 0) (.loc 6) .nil))))))
noncomputable def n_Matrix___init:List Str:=["self","a","b","c","d","e","f"]
noncomputable def m_Matrix___init:List Str:=[]
noncomputable def i_Matrix_row:IS:=(.ret (.op .tup (.cons (.op (.attr 0) (.cons (.loc 0) .nil)) (.cons (.op (.attr 1) (.cons (.loc 0) .nil)) (.cons (.op (.attr 2) (.cons (.loc 0) .nil)) (.cons (.op (.attr 3) (.cons (.loc 0) .nil)) (.cons (.op (.attr 4) (.cons (.loc 0) .nil)) (.cons (.op (.attr 5) (.cons (.loc 0) .nil)) .nil))))))))
noncomputable def n_Matrix_row:List Str:=["self"]
noncomputable def m_Matrix_row:List Str:=[]
section
variable (X:Pw)
theorem matrix_init (x:Addr)(a b c d e f:SV):Fn X 609 [.ref x,a,b,c,d,e,f] [(x,.inst 654 [] [])] 2 fun r l=>r=.none∧l=[(x,.inst 654 [0,1,2,3,4,5] [a,b,c,d,e,f])]:=by
 refine' FnG.of_body n_Matrix___init m_Matrix___init i_Matrix___init [] ?kc ?ki ⟨[],fun _ _=>rfl,?kb⟩ ?kk ?kl ⟨_,_,.nil,?_⟩
 walk_at "vin"
 walk_at "v"
noncomputable abbrev Mtx (a b c d e f:SV):SV:=.obj 654 [0,1,2,3,4,5] [a,b,c,d,e,f]
theorem row_fn (a b c d e f:List SV):FnV X 616 [Mtx (.tup a) (.tup b) (.tup c) (.tup d) (.tup e) (.tup f)] 2 (.tup [.tup a,.tup b,.tup c,.tup d,.tup e,.tup f]):=by
 refine' FnG.of_body n_Matrix_row m_Matrix_row i_Matrix_row [] ?kc ?ki ⟨[],fun _ _=>rfl,?kb⟩ ?kk ?kl ⟨_,_,.nil,?_⟩
 walk_at "vin"
 walk_at "v"
theorem plusR {a0 a1 b0 b1:Int}(P Q:Int){q0 q1 r s:Int}(ha:0 < a1)(ha2:a1 < 2 ^ 64)(hb:0 < b1)(hb2:b1 < 2 ^ 64)(hq:0 < q1)(hs:0 < s)(hQ:0 < Q)
  (ea:a0 * q1=q0 * a1) (eb:b0 * s=r * b1) (h:(q0 * s+r * q1) * Q=P * (q1 * s)):FnV X 120 [.tup [.int a0,.int a1],.tup [.int b0,.int b1]] 6 (frS P Q):=by
 have e:=nf_congr (Int.mul_pos ha hb) hQ (rat_add ha hb hq hs ea eb h)
 show FnV X 120 _ 6 (.tup [.int (nT P Q),.int (nB P Q)])
 rw [← e.1,← e.2]
 exact plus_fn _ ha ha2 hb hb2
theorem minusR {a0 a1 b0 b1:Int}(P Q:Int){q0 q1 r s:Int}(ha:0 < a1)(ha2:a1 < 2 ^ 64)(hb:0 < b1)(hb2:b1 < 2 ^ 64)(hq:0 < q1)(hs:0 < s)(hQ:0 < Q)
  (ea:a0 * q1=q0 * a1) (eb:b0 * s=r * b1) (h:(q0 * s - r * q1) * Q=P * (q1 * s)):FnV X 127 [.tup [.int a0,.int a1],.tup [.int b0,.int b1]] 6 (frS P Q):=by
 have e:=nf_congr (Int.mul_pos ha hb) hQ (rat_sub ha hb hq hs ea eb h)
 show FnV X 127 _ 6 (.tup [.int (nT P Q),.int (nB P Q)])
 rw [← e.1,← e.2]
 exact minus_fn _ ha ha2 hb hb2
theorem timesR {a0 a1 b0 b1:Int}(P Q:Int){q0 q1 r s:Int}(ha:0 < a1)(ha2:a1 < 2 ^ 64)(hb:0 < b1)(hb2:b1 < 2 ^ 64)(hq:0 < q1)(hs:0 < s)(hQ:0 < Q)(hi:IntMulOk a0 b0)
  (ea:a0 * q1=q0 * a1) (eb:b0 * s=r * b1) (h:(q0 * r) * Q=P * (q1 * s)):FnV X 134 [.tup [.int a0,.int a1],.tup [.int b0,.int b1]] 6 (frS P Q):=by
 have e:=nf_congr (Int.mul_pos ha hb) hQ (rat_mul ha hb hq hs ea eb h)
 show FnV X 134 _ 6 (.tup [.int (nT P Q),.int (nB P Q)])
 rw [← e.1,← e.2]
 exact times_fn _ ha ha2 hb hb2 hi
theorem half_sq {p:Int}(b:-1000≤p∧p≤1000):FnV X 134 [.tup [.int p,.int 2],.tup [.int p,.int 2]] 6 (frS (p * p) 4) :=
 timesR X (p * p) 4 (q0:=p) (q1:=2) (r:=p) (s:=2) (by decide) (by decide) (by decide) (by decide) (by decide) (by decide) (by decide) (mulOk (by walk_at "o") (by walk_at "o")) rfl rfl (by walk_at "o")
theorem plus_qu {a0 a1 P R S:Int}(ha:0 < a1)(ha2:a1 < 2 ^ 64)(ea:a0 * 4=P * a1)(h:P+R=S):FnV X 120 [.tup [.int a0,.int a1],frS R 4] 6 (frS S 4) :=
 plusR X S 4 (q0:=P) (q1:=4) (r:=R) (s:=4) ha ha2 (nB4 _).1 (nB4 _).2 (by decide) (by decide) (by decide) ea nT_cross (by walk_at "o")
theorem stretch_of_fn {p0 p1 p2 p3 p4 p5:Int}(b0:-1000≤p0∧p0≤1000)(b1:-1000≤p1∧p1≤1000)(b2:-1000≤p2∧p2≤1000)(b3:-1000≤p3∧p3≤1000) :
  Fn X 727 [Mtx (.tup [.int p0,.int 2]) (.tup [.int p1,.int 2]) (.tup [.int p2,.int 2]) (.tup [.int p3,.int 2]) (.tup [.int p4,.int 2]) (.tup [.int p5,.int 2])] [] 8
   fun r l=>l=[]∧∃ x n:Int,r=.int (1+x)∧(p0 * p0+p1 * p1+p2 * p2+p3 * p3).fdiv 4=n∧0≤x∧x < 2 ^ 62∧x * x≤n∧n < (x+1) * (x+1):=by
 refine' FnG.of_body n_stretch_of m_stretch_of i_stretch_of [] ?kc ?ki ⟨[],fun _ _=>rfl,?kb⟩ ?kk ?kl ⟨_,_,.nil,?_⟩
 walk_at "vin"
 walk_at "v"
 refine callV (row_fn _ _ _ _ _ _ _) (Eq.refl true) ?_
 walk_at "v"
 refine forL.mk ?_
 walk_at "v"
 refine callV (half_sq X b0) (Eq.refl true) ?_
 walk_at "v"
 refine callV (plus_qu X (P:=0) (S:=p0 * p0) (by decide) (by decide) (by decide) (by walk_at "o")) (Eq.refl true) ?_
 walk_at "v"
 refine callV (half_sq X b1) (Eq.refl true) ?_
 walk_at "v"
 refine callV (plus_qu X (S:=p0 * p0+p1 * p1) (nB4 _).1 (nB4 _).2 nT_cross (by walk_at "o")) (Eq.refl true) ?_
 walk_at "v"
 refine callV (half_sq X b2) (Eq.refl true) ?_
 walk_at "v"
 refine callV (plus_qu X (S:=p0 * p0+p1 * p1+p2 * p2) (nB4 _).1 (nB4 _).2 nT_cross (by walk_at "o")) (Eq.refl true) ?_
 walk_at "v"
 refine callV (half_sq X b3) (Eq.refl true) ?_
 walk_at "v"
 refine callV (plus_qu X (S:=p0 * p0+p1 * p1+p2 * p2+p3 * p3) (nB4 _).1 (nB4 _).2 nT_cross (by walk_at "o")) (Eq.refl true) ?_
 walk_at "v"
 refine callV (floor_of_fn _ (nB4 _).1 (nB4 _).2) (Eq.refl true) ?_
 have hn:(nT (p0 * p0+p1 * p1+p2 * p2+p3 * p3) 4).fdiv (nB (p0 * p0+p1 * p1+p2 * p2+p3 * p3) 4)=(p0 * p0+p1 * p1+p2 * p2+p3 * p3).fdiv 4:=fdiv_rep (nB4 _).1 (by walk_at "o") nT_cross
 rw [hn]
 have hn3:=fdiv4 (S:=p0 * p0+p1 * p1+p2 * p2+p3 * p3) rfl
 have s0:=sq_nn p0
 have s1:=sq_nn p1
 have s2:=sq_nn p2
 have s3:=sq_nn p3
 have r0:=mul_bnd b0 b0
 have r1:=mul_bnd b1 b1
 have r2:=mul_bnd b2 b2
 have r3:=mul_bnd b3 b3
 walk_at "v"
 refine callX1 (root_floor_fn _ (by walk_at "o") (by walk_at "o")) (Eq.refl true) .allR fun x hA=>?_
 walk_at "v"
 exact ⟨_,_,.nil,rfl,x,_,rfl,rfl,hA⟩
theorem stretch_right_fn {p0 p1 p2 p3 p4 p5 u v:Int}(b0:-1000≤p0∧p0≤1000)(b1:-1000≤p1∧p1≤1000)(b2:-1000≤p2∧p2≤1000)(b3:-1000≤p3∧p3≤1000)(bu:-10≤u∧u≤10)(bv:-10≤v∧v≤10) :
  FnV X 897 [.lst [.int p0,.int p1,.int p2,.int p3,.int p4,.int p5],.int u,.int v] 20 (.bool true):=by
 refine' FnG.of_body n_law_stretch_right m_law_stretch_right i_law_stretch_right [] ?kc ?ki ⟨[],fun _ _=>rfl,?kb⟩ ?kk ?kl ⟨_,_,.nil,?_⟩
 walk_at "vin"
 walk_at "v"
 refine compL.mk ?_
 walk_at "v"
 refine newF (fI:=609) (k1:=2) (Eq.refl true) (Eq.refl true) (fun x=>matrix_init X x _ _ _ _ _ _) ?_
 walk_at "v"
 refine callX (stretch_of_fn _ b0 b1 b2 b3) (Eq.refl true) .allR fun r hA=>?_
 refine el2a6 hA fun x n e1q hn2 hx0 hx1 hx2 hx3=>?_
 clear hA
 subst e1q
 have hfin:=stretch_main (u:=u) (v:=v) hn2 hx0 hx2 hx3
 have hn3:=fdiv4 hn2
 have hx4:=sq_bnd hx0 hx2
 have q0:=mul_bnd b0 bu
 have q1:=mul_bnd b1 bu
 have q2:=mul_bnd b2 bv
 have q3:=mul_bnd b3 bv
 have qu:=mul_bnd bu bu
 have qv:=mul_bnd bv bv
 have r0:=mul_bnd b0 b0
 have r1:=mul_bnd b1 b1
 have r2:=mul_bnd b2 b2
 have r3:=mul_bnd b3 b3
 walk_at "v"
 ·exact mulOk (by walk_at "o") (by walk_at "o")
 ·exact mulOk (by walk_at "o") (by walk_at "o")
 ·exact mulOk (by walk_at "o") (by walk_at "o")
 ·exact mulOk (by walk_at "o") (by walk_at "o")
 refine compL.mk ?_
 walk_at "v"
 ·exact mulOk (by walk_at "o") (by walk_at "o")
 ·exact mulOk (by walk_at "o") (by walk_at "o")
 ·exact mulOk (by walk_at "o") (by walk_at "o")
 ·exact mulOk (by walk_at "o") (by walk_at "o")
 refine intsV_i [p0 * p0,p1 * p1,p2 * p2,p3 * p3] rfl (Eq.refl true) ?_
 have h2:=hfin.2
 have e2:(1+x - 1) ^ Int.toNat 2=x * x:=by
  rw [show (1+x - 1:Int)=x by walk_at "o"]
  show x ^ 2=x * x
  rw [Int.pow_succ,Int.pow_succ,Int.pow_zero,Int.one_mul]
 walk_at "v"
 ·exact mulOk (by walk_at "o") (by walk_at "o")
 ·exact mulOk (by walk_at "o") (by walk_at "o")
 ·exact IntMulOk.of_left (by decide)
 ·exact mulOk (by walk_at "o") (by walk_at "o")
 ·exact mulOk (by walk_at "o") (by walk_at "o")
 ·exact mulOk (by walk_at "o") (by walk_at "o")
 ·exact mulA (by walk_at "o") (by walk_at "o")
 ·decide
 ·decide
 ·walk_at "o"
 ·exact IntMulOk.of_left (by decide)
 ·refine ⟨_,_,.nil,congrArg SV.bool (decide_eq_true ?_),rfl⟩
  rw [e2]
  show _≤p0 * p0+(p1 * p1+(p2 * p2+(p3 * p3+0)))
  walk_at "o"
 ·exact absurd hfin.1 h
end
end
section
noncomputable def i_least:IS:=(.asg 1 (.op .item (.cons (.loc 0) (.cons (.cst (.int 0)) .nil))) (.forS [2] true (.loc 0) (.ifS (.op (.cmp .Lt) (.cons (.op (.call 169) (.cons (.loc 2) (.cons (.loc 1) .nil))) (.cons (.cst (.int 0)) .nil))) (.asg 1 (.loc 2) .nil) .nil .nil) (.ret (.loc 1))))
noncomputable def n_least:List Str:=["some","found","one"]
noncomputable def m_least:List Str:=[]
noncomputable def i_greatest:IS:=(.asg 1 (.op .item (.cons (.loc 0) (.cons (.cst (.int 0)) .nil))) (.forS [2] true (.loc 0) (.ifS (.op (.cmp .Gt) (.cons (.op (.call 169) (.cons (.loc 2) (.cons (.loc 1) .nil))) (.cons (.cst (.int 0)) .nil))) (.asg 1 (.loc 2) .nil) .nil .nil) (.ret (.loc 1))))
noncomputable def n_greatest:List Str:=["some","found","one"]
noncomputable def m_greatest:List Str:=[]
noncomputable def i_point_box:IS:=(.unp [1,2] (.op .tup (.cons (.comp (.loc 0) (.op .item (.cons (.loc 3) (.cons (.cst (.int 0)) .nil)))) (.cons (.comp (.loc 0) (.op .item (.cons (.loc 3) (.cons (.cst (.int 1)) .nil)))) .nil))) (.ret (.op .tup (.cons (.op (.call 176) (.cons (.loc 1) .nil)) (.cons (.op (.call 176) (.cons (.loc 2) .nil)) (.cons (.op (.call 183) (.cons (.loc 1) .nil)) (.cons (.op (.call 183) (.cons (.loc 2) .nil)) .nil)))))))
noncomputable def n_point_box:List Str:=["points","across","upright"]
noncomputable def m_point_box:List Str:=[]
theorem sgn_congr {x y:Int}(h1:x < 0↔y < 0)(h2:0 < x↔0 < y):sgn x=sgn y:=by
 unfold sgn;simp only [h1,h2]
theorem sgn_lt {x:Int}:sgn x < 0↔x < 0:=by unfold sgn;split <;> (try split) <;> walk_at "o"
theorem sgn_gt {x:Int}:0 < sgn x↔0 < x:=by unfold sgn;split <;> (try split) <;> walk_at "o"
section
variable (X:Pw)
theorem compareR {P R b:Int}(hb:0 < b)(hb2:b < 2 ^ 64):FnV X 169 [frS P b,frS R b] 4 (.int (sgn (P - R))):=by
 have h1:=nB_pos (p:=P) hb
 have h2:=nB_pos (p:=R) hb
 have h3:=nB_le (p:=P) hb
 have h4:=nB_le (p:=R) hb
 have e:sgn (nT P b * nB R b - nT R b * nB P b)=sgn (P - R):=by
  have k:=sgn_rep h1 h2 hb hb (nT_cross (p:=P) (q:=b)) (nT_cross (p:=R) (q:=b))
  have m1:P * b - R * b=(P - R) * b:=by rw [Int.sub_mul]
  rw [m1] at k
  refine sgn_congr (k.1.trans ?_) (k.2.trans ?_)
  ·constructor
   ·intro h;exact Int.lt_of_not_ge fun c=>absurd (Int.mul_nonneg c (Int.le_of_lt hb)) (by walk_at "o")
   ·intro h;exact Int.mul_neg_of_neg_of_pos h hb
  ·constructor
   ·intro h;exact Int.lt_of_not_ge fun c=>by have:=Int.mul_nonneg (a:=-(P - R)) (by walk_at "o") (Int.le_of_lt hb);rw [Int.neg_mul] at this;walk_at "o"
   ·intro h;exact Int.mul_pos h hb
 rw [← e]
 exact compare_fn _ (by walk_at "o") (by walk_at "o") (by walk_at "o") (by walk_at "o")
theorem least_fn {q0:Int}{qs:List Int}{b:Int}(hb:0 < b)(hb2:b < 2 ^ 64)(hl:qs.length < 1000) :
  Fn X 176 [.lst ((q0::qs).map fun q=>frS q b)] [] 8 fun r l=>l=[]∧∃ m,r=frS m b∧m∈q0::qs∧∀ q∈q0::qs,m≤q:=by
 refine' FnG.of_body n_least m_least i_least [] ?kc ?ki ⟨[],fun _ _=>rfl,?kb⟩ ?kk ?kl ⟨_,_,.nil,?_⟩
 walk_at "vin"
 walk_at "v"
 refine ex1_i (frS q0 b) (by exact rfl) ⟨by simp;walk_at "o",?_⟩
 walk_at "v"
 ·simp;walk_at "o"
 refine forL_ind (f:=fun q=>frS q b) (fun r sl led=>led=[]∧∃ m o p,sl=[some (.lst ((q0::qs).map fun q=>frS q b)),some (frS m b),o]∧m∈q0::qs∧q0::qs=p++r∧∀ q∈p,m≤q) ?_ ?_ (q0::qs) _ _ ⟨rfl,q0,_,[],rfl,.head _,rfl,fun _ h=>by cases h⟩
 ·intro sl led hh
  apply inv3_e hh
  intro m o p hA
  walk_at "v"
  exact ⟨_,_,.nil,rfl,m,rfl,hA.1,fun q hq=>hA.2.2 q (by have h:=hA.2.1;rw [List.append_nil] at h;exact h▸hq)⟩
 ·intro x r sl led hh ih
  apply inv3_e hh
  intro m o p hA
  clear hh
  refine el0a3 hA fun hm hp hle=>?_
  clear hA
  walk_at "v"
  refine callV (compareR X hb hb2) (Eq.refl true) ?_
  walk_at "v"
  ·have h:=sgn_lt.mp h
   refine ih _ _ ⟨rfl,x,_,p++[x],rfl,by rw [hp];simp,by rw [hp];simp,fun q hq=>?_⟩
   rcases iA hq with hq | hq
   ·have:=hle q hq;walk_at "o"
   ·rw [iS hq];exact Int.le_refl _
  ·have h:=mt sgn_lt.mpr h
   refine ih _ _ ⟨rfl,m,_,p++[x],rfl,hm,by rw [hp];simp,fun q hq=>?_⟩
   rcases iA hq with hq | hq
   ·exact hle q hq
   ·rw [iS hq];walk_at "o"
theorem greatest_fn {q0:Int}{qs:List Int}{b:Int}(hb:0 < b)(hb2:b < 2 ^ 64)(hl:qs.length < 1000) :
  Fn X 183 [.lst ((q0::qs).map fun q=>frS q b)] [] 8 fun r l=>l=[]∧∃ m,r=frS m b∧m∈q0::qs∧∀ q∈q0::qs,q≤m:=by
 refine' FnG.of_body n_greatest m_greatest i_greatest [] ?kc ?ki ⟨[],fun _ _=>rfl,?kb⟩ ?kk ?kl ⟨_,_,.nil,?_⟩
 walk_at "vin"
 walk_at "v"
 refine ex1_i (frS q0 b) (by exact rfl) ⟨by simp;walk_at "o",?_⟩
 walk_at "v"
 ·simp;walk_at "o"
 refine forL_ind (f:=fun q=>frS q b) (fun r sl led=>led=[]∧∃ m o p,sl=[some (.lst ((q0::qs).map fun q=>frS q b)),some (frS m b),o]∧m∈q0::qs∧q0::qs=p++r∧∀ q∈p,q≤m) ?_ ?_ (q0::qs) _ _ ⟨rfl,q0,_,[],rfl,.head _,rfl,fun _ h=>by cases h⟩
 ·intro sl led hh
  apply inv3_e hh
  intro m o p hA
  walk_at "v"
  exact ⟨_,_,.nil,rfl,m,rfl,hA.1,fun q hq=>hA.2.2 q (by have h:=hA.2.1;rw [List.append_nil] at h;exact h▸hq)⟩
 ·intro x r sl led hh ih
  apply inv3_e hh
  intro m o p hA
  clear hh
  refine el0a3 hA fun hm hp hle=>?_
  clear hA
  walk_at "v"
  refine callV (compareR X hb hb2) (Eq.refl true) ?_
  walk_at "v"
  ·have h:=sgn_gt.mp h
   refine ih _ _ ⟨rfl,x,_,p++[x],rfl,by rw [hp];simp,by rw [hp];simp,fun q hq=>?_⟩
   rcases iA hq with hq | hq
   ·have:=hle q hq;walk_at "o"
   ·rw [iS hq];exact Int.le_refl _
  ·have h:=mt sgn_gt.mpr h
   refine ih _ _ ⟨rfl,m,_,p++[x],rfl,hm,by rw [hp];simp,fun q hq=>?_⟩
   rcases iA hq with hq | hq
   ·exact hle q hq
   ·rw [iS hq];walk_at "o"
noncomputable def LeastOf (x:Int)(l:List Int):Prop:=x∈l∧∀ y∈l,x≤y
noncomputable def MostOf (x:Int)(l:List Int):Prop:=x∈l∧∀ y∈l,y≤x
noncomputable abbrev ptS (b:Int)(q:Int × Int):SV:=.tup [frS q.1 b,frS q.2 b]
theorem point_box_fn {q0:Int × Int}{ps:List (Int × Int)}{b:Int}(hb:0 < b)(hb2:b < 2 ^ 64)(hl:ps.length≤8) :
  Fn X 285 [.lst ((q0::ps).map (ptS b))] [] 12 fun r l=>l=[]∧∃ x0 y0 x1 y1,r=.tup [frS x0 b,frS y0 b,frS x1 b,frS y1 b]∧LeastOf x0 ((q0::ps).map (·.1))∧LeastOf y0 ((q0::ps).map (·.2))∧MostOf x1 ((q0::ps).map (·.1))∧MostOf y1 ((q0::ps).map (·.2)):=by
 refine' FnG.of_body n_point_box m_point_box i_point_box [] ?kc ?ki ⟨[],fun _ _=>rfl,?kb⟩ ?kk ?kl ⟨_,_,.nil,?_⟩
 walk_at "vin"
 walk_at "v"
 ·simp;walk_at "o"
 refine compL_to (g:=fun q=>frS q.1 b) (((q0::ps).map (·.1)).map fun q=>frS q b) (by simp) (fun q _ k2 h=>?_) ?_
 ·walk_at "v"
  exact h
 walk_at "v"
 ·simp;walk_at "o"
 refine compL_to (g:=fun q=>frS q.2 b) (((q0::ps).map (·.2)).map fun q=>frS q b) (by simp) (fun q _ k2 h=>?_) ?_
 ·walk_at "v"
  exact h
 walk_at "v"
 refine callX1 (least_fn _ hb hb2 (by simp;walk_at "o")) (Eq.refl true) .allR fun x0 m1=>?_
 walk_at "v"
 refine callX1 (least_fn _ hb hb2 (by simp;walk_at "o")) (Eq.refl true) .allR fun y0 m2=>?_
 walk_at "v"
 refine callX1 (greatest_fn _ hb hb2 (by simp;walk_at "o")) (Eq.refl true) .allR fun x1 m3=>?_
 walk_at "v"
 refine callX1 (greatest_fn _ hb hb2 (by simp;walk_at "o")) (Eq.refl true) .allR fun y1 m4=>?_
 walk_at "v"
 exact ⟨_,_,.nil,rfl,x0,y0,x1,y1,rfl,m1,m2,m3,m4⟩
end
end
section
noncomputable def i_segment_points:IS:=(.ifS (.op (.cmp .Eq) (.cons (.op .item (.cons (.loc 0) (.cons (.cst (.int 0)) .nil))) (.cons (.cst (.str "close")) .nil))) (.ret (.op .tup .nil)) .nil (.ret (.ite (.op (.cmp .Eq) (.cons (.op .item (.cons (.loc 0) (.cons (.cst (.int 0)) .nil))) (.cons (.cst (.str "arc")) .nil))) (.op (.slc (some 6) none) (.cons (.loc 0) .nil)) (.op (.slc (some 1) none) (.cons (.loc 0) .nil)))))
noncomputable def n_segment_points:List Str:=["segment"]
noncomputable def m_segment_points:List Str:=[]
noncomputable def i_box_grain:IS:=(.asgW 1 (.loc 0) (.op (.call 708) (.cons (.loc 8) .nil)) (.asg 2 (.glo 2) (.ifS (.op (.cmp .Eq) (.cons (.loc 1) (.cons (.op .lst .nil) .nil))) (.ret (.loc 2)) .nil (.unp [3,4,5,6] (.op (.call 285) (.cons (.loc 1) .nil)) (.forS [7] true (.op .tup (.cons (.op (.call 127) (.cons (.loc 5) (.cons (.loc 3) .nil))) (.cons (.op (.call 127) (.cons (.loc 6) (.cons (.loc 4) .nil))) .nil))) (.whl (.and (.op (.cmp .Gt) (.cons (.op .item (.cons (.loc 7) (.cons (.cst (.int 0)) .nil))) (.cons (.cst (.int 0)) .nil))) (.op (.cmp .Lt) (.cons (.op (.call 169) (.cons (.op (.call 134) (.cons (.loc 7) (.cons (.op .tup (.cons (.loc 2) (.cons (.cst (.int 1)) .nil))) .nil))) (.cons (.glo 3) .nil))) (.cons (.cst (.int 0)) .nil)))) (.asg 2 (.op (.bin .Mult) (.cons (.cst (.int 2)) (.cons (.loc 2) .nil))) .nil) .nil) (.ret (.loc 2)))))))
noncomputable def n_box_grain:List Str:=["segments","points","found","left","top","right","bottom","side"]
noncomputable def m_box_grain:List Str:=[]
inductive Sg where
 | mv (q:Int × Int)
 | ln (q:Int × Int)
 | cl
noncomputable def ptOf:Sg→List (Int × Int)
 | .mv q=>[q]
 | .ln q=>[q]
 | .cl=>[]
noncomputable def segS (b:Int):Sg→SV
 | .mv q=>.tup [.str "move",ptS b q]
 | .ln q=>.tup [.str "line",ptS b q]
 | .cl=>.tup [.str "close"]
section
variable (X:Pw)
theorem segment_points_fn (b:Int)(sg:Sg):FnV X 708 [segS b sg] 2 (.tup ((ptOf sg).map (ptS b))):=by
 cases sg with
 | mv q =>
  refine' FnG.of_body n_segment_points m_segment_points i_segment_points [] ?kc ?ki ⟨[],fun _ _=>rfl,?kb⟩ ?kk ?kl ⟨_,_,.nil,?_⟩
  walk_at "vin"
  walk_at "v"
 | ln q =>
  refine' FnG.of_body n_segment_points m_segment_points i_segment_points [] ?kc ?ki ⟨[],fun _ _=>rfl,?kb⟩ ?kk ?kl ⟨_,_,.nil,?_⟩
  walk_at "vin"
  walk_at "v"
 | cl =>
  refine' FnG.of_body n_segment_points m_segment_points i_segment_points [] ?kc ?ki ⟨[],fun _ _=>rfl,?kb⟩ ?kk ?kl ⟨_,_,.nil,?_⟩
  walk_at "vin"
  walk_at "v"
theorem nT_pos {X b:Int}(hb:0 < b):0 < nT X b↔0 < X:=by
 have h:=nT_mul (p:=X) (q:=b)
 have g:=gcd_pos (p:=X) hb
 constructor
 ·intro k;rw [← h];exact Int.mul_pos g k
 ·intro k
  refine Int.lt_of_not_ge fun c=>?_
  have:(Int.gcd X b:Int) * nT X b≤(Int.gcd X b:Int) * 0:=Int.mul_le_mul_of_nonneg_left c (Int.le_of_lt g)
  walk_at "o"
theorem grain_cmp {X f b:Int}(hb:0 < b):sgn (nT (X * f) b * 1 - 1024 * nB (X * f) b) < 0↔X * f < 1024 * b:=by
 rw [sgn_lt]
 have k:=(sgn_rep (a0:=nT (X * f) b) (a1:=nB (X * f) b) (b0:=1024) (b1:=1) (p:=X * f) (q:=b) (r:=1024) (s:=1) (nB_pos hb) (by walk_at "o") hb (by walk_at "o") nT_cross rfl).1
 rw [k];walk_at "o"
theorem grain_up {X f g c:Int}(hX:0 < X→c≤X * g)(hg:g≤f):0 < X→c≤X * f:=fun h=>Int.le_trans (hX h) (Int.mul_le_mul_of_nonneg_left hg (Int.le_of_lt h))
theorem grain_less {X f c:Int}(hX:0 < X)(hf:0≤f)(h:X * f < c):f < c:=by
 have:1 * f≤X * f:=Int.mul_le_mul_of_nonneg_right hX hf
 walk_at "o"
theorem ptOf_len (l:List Sg):(l.flatMap ptOf).length≤l.length:=by
 induction l with
 | nil=>exact Nat.le_refl _
 | cons x l ih =>
  rw [List.flatMap_cons,List.length_append,List.length_cons]
  have:(ptOf x).length≤1:=by cases x <;> simp [ptOf]
  walk_at "o"
theorem flat_pt (b:Int)(l:List Sg):l.flatMap (fun sg=>(ptOf sg).map (ptS b))=(l.flatMap ptOf).map (ptS b):=by
 induction l with
 | nil=>rfl
 | cons x l ih=>simp [ih]
theorem box_grain_fn {sgs:List Sg}{q0:Int × Int}{ps:List (Int × Int)}{b:Int}(hb:0 < b)(hb2:b≤3000000000)(hl8:sgs.length≤8)(hps:sgs.flatMap ptOf=q0::ps)(hbd:∀ q∈q0::ps,-10000000000 < q.1∧q.1 < 10000000000∧-1000 < q.2∧q.2 < 1000) :
  Fn X 713 [.lst (sgs.map (segS b))] [] 20 fun r l=>l=[]∧∃ g x0 y0 x1 y1,r=.int g∧LeastOf x0 ((q0::ps).map (·.1))∧LeastOf y0 ((q0::ps).map (·.2))∧MostOf x1 ((q0::ps).map (·.1))∧MostOf y1 ((q0::ps).map (·.2)) ∧
   (g % 64=0∧64≤g∧g≤2048 * b)∧(0 < x1 - x0→1024 * b≤(x1 - x0) * g)∧(0 < y1 - y0→1024 * b≤(y1 - y0) * g):=by
 have hz:=ptOf_len sgs
 rw [hps,List.length_cons] at hz
 refine' FnG.of_body n_box_grain m_box_grain i_box_grain [] ?kc ?ki ⟨[],fun _ _=>rfl,?kb⟩ ?kk ?kl ⟨_,_,.nil,?_⟩
 walk_at "vin"
 walk_at "v"
 ·rw [List.length_map];walk_at "o"
 refine compW_to ((q0::ps).map (ptS b)) (by rw [flat_pt,hps]) (by simp;walk_at "o") (fun sg _ k2 h=>?_) ?_
 ·walk_at "v"
  refine callV (segment_points_fn _ b sg) (Eq.refl true) ?_
  walk_at "v"
  exact h
 walk_at "v"
 refine nilEq_i .fr (fun v hv=>by obtain ⟨q,_,rfl⟩:=iM hv;exact plain2 (plain2 plainI plainI) (plain2 plainI plainI)) ?_
 walk_at "v"
 refine callX (point_box_fn _ hb (by walk_at "o") (by walk_at "o")) (Eq.refl true) .allR ?_
 intro r hqq
 refine el4a5 hqq fun x0 y0 x1 y1 e1q m1 m2 m3 m4=>?_
 clear hqq
 subst e1q
 have nb:∀ P:Int,0 < nB P b∧nB P b < 2 ^ 64:=fun P=>⟨nB_pos hb,Int.lt_of_le_of_lt (nB_le hb) (by walk_at "o")⟩
 have hsub:∀ P R:Int,(P * b - R * b) * b=(P - R) * (b * b):=fun P R=>by rw [← Int.sub_mul,Int.mul_assoc]
 have mn:∀ P R:Int,FnV X 127 [frS P b,frS R b] 6 (frS (P - R) b):=fun P R=>minusR X (P - R) b (nb P).1 (nb P).2 (nb R).1 (nb R).2 hb hb hb nT_cross nT_cross (hsub P R)
 have bx:∀ {x:Int},x∈(q0::ps).map (·.1)→-10000000000 < x∧x < 10000000000:=fun h=>by obtain ⟨q,hq,rfl⟩:=iM h;exact ⟨(hbd q hq).1,(hbd q hq).2.1⟩
 have byy:∀ {x:Int},x∈(q0::ps).map (·.2)→-1000 < x∧x < 1000:=fun h=>by obtain ⟨q,hq,rfl⟩:=iM h;exact ⟨(hbd q hq).2.2.1,(hbd q hq).2.2.2⟩
 have c1:=bx m1.1
 have c2:=byy m2.1
 have c3:=bx m3.1
 have c4:=byy m4.1
 walk_at "v"
 refine callV (mn x1 x0) (Eq.refl true) ?_
 walk_at "v"
 refine callV (mn y1 y0) (Eq.refl true) ?_
 walk_at "v"
 refine forL_ind (f:=fun P=>frS P b) (fun r sl led=>led=[]∧∃ (g:Int) (o:Option SV) (p:List Int),sl=[some (.lst (sgs.map (segS b))),some (.lst ((q0::ps).map (ptS b))),some (.int g),some (frS x0 b),some (frS y0 b),some (frS x1 b),some (frS y1 b),o] ∧
  [x1 - x0,y1 - y0]=p++r∧(g % 64=0∧64≤g∧g≤2048 * b)∧∀ P∈p,0 < P→1024 * b≤P * g) ?_ ?_ [x1 - x0,y1 - y0] _ _ ⟨rfl,64,none,[],rfl,rfl,by walk_at "o",fun P hP=>by cases hP⟩
 ·intro sl led hh
  apply inv3_e hh
  intro g o p hA
  refine el0a3 hA fun hp hg hP=>?_
  clear hh hA
  rw [List.append_nil] at hp
  subst hp
  walk_at "v"
  exact ⟨_,_,.nil,rfl,g,x0,y0,x1,y1,rfl,m1,m2,m3,m4,hg,hP _ (.head _),hP _ (.tail _ (.head _))⟩
 ·intro P r sl led hh ih
  apply inv3_e hh
  intro gg o p hA
  refine el0a3 hA fun hp hg hP=>?_
  clear hh hA
  have hXm:P∈[x1 - x0,y1 - y0]:=by rw [hp];simp
  have hX:-20000000000 < P∧P < 20000000000:=by
   simp only [List.mem_cons,List.not_mem_nil,or_false] at hXm
   rcases hXm with rfl | rfl <;> walk_at "o"
  walk_at "v"
  refine whl_i (fun f:Int=>(2048 * b - f).toNat) (fun f=>[some (.lst (sgs.map (segS b))),some (.lst ((q0::ps).map (ptS b))),some (.int f),some (frS x0 b),some (frS y0 b),some (frS x1 b),some (frS y1 b),some (frS P b)])
   (fun f=>f % 64=0∧64≤f∧f≤2048 * b∧gg≤f) gg ⟨hg.1,hg.2.1,hg.2.2,Int.le_refl _⟩ rfl fun f hf=>?_
  have next:(0 < P→1024 * b≤P * f)→∀ Q∈p++[P],0 < Q→1024 * b≤Q * f:=fun h Q hQ=>by
   rcases iA hQ with hQ | hQ
   ·exact grain_up (hP Q hQ) hf.2.2.2
   ·rw [iS hQ];exact h
  walk_at "v"
  ·have hX0:=(nT_pos hb).mp h
   have hXb:=nT_lt (p:=P) (q:=b) (M:=20000000000) hb hX.1 hX.2
   refine callV (timesR X (P * f) b (q0:=P) (q1:=b) (r:=f) (s:=1) (nb P).1 (nb P).2 (by decide) (by decide) hb (by decide) hb (mulOk (by walk_at "o") (by walk_at "o")) nT_cross rfl (by rw [Int.mul_one])) (Eq.refl true) ?_
   walk_at "v"
   refine callV (compare_fn _ (by have:=(nb (P * f)).1;walk_at "o") (nb (P * f)).2 (by decide) (by decide)) (Eq.refl true) ?_
   walk_at "v"
   ·exact IntMulOk.of_left (by decide)
   ·have hlt:=grain_less hX0 (by walk_at "o") ((grain_cmp hb).mp h)
    exact WI.i (2 * f) (by walk_at "o") rfl ⟨by walk_at "o",by walk_at "o",by walk_at "o",by walk_at "o"⟩
   ·have hlt:=mt (grain_cmp hb).mpr h
    exact ih _ _ ⟨rfl,f,_,p++[P],rfl,by rw [hp];simp,⟨hf.1,hf.2.1,hf.2.2.1⟩,next fun _=>by walk_at "o"⟩
  ·exact ih _ _ ⟨rfl,f,_,p++[P],rfl,by rw [hp];simp,⟨hf.1,hf.2.1,hf.2.2.1⟩,next fun h0=>absurd ((nT_pos hb).mpr h0) h⟩
end
end
section
noncomputable def i_identity:IS:=(.ret (.op (.new 654) (.cons (.glo 1) (.cons (.glo 0) (.cons (.glo 0) (.cons (.glo 1) (.cons (.glo 0) (.cons (.glo 0) .nil))))))))
noncomputable def n_identity:List Str:=[]
noncomputable def m_identity:List Str:=[]
noncomputable def i_Matrix_vector:IS:=(.unp [2,3] (.loc 1) (.ret (.op .tup (.cons (.op (.call 120) (.cons (.op (.call 134) (.cons (.op (.attr 0) (.cons (.loc 0) .nil)) (.cons (.loc 2) .nil))) (.cons (.op (.call 134) (.cons (.op (.attr 2) (.cons (.loc 0) .nil)) (.cons (.loc 3) .nil))) .nil))) (.cons (.op (.call 120) (.cons (.op (.call 134) (.cons (.op (.attr 1) (.cons (.loc 0) .nil)) (.cons (.loc 2) .nil))) (.cons (.op (.call 134) (.cons (.op (.attr 3) (.cons (.loc 0) .nil)) (.cons (.loc 3) .nil))) .nil))) .nil)))))
noncomputable def n_Matrix_vector:List Str:=["self","p","x","y"]
noncomputable def m_Matrix_vector:List Str:=[]
noncomputable def i_Matrix_point:IS:=(.unp [2,3] (.meth 623 1 (.loc 0) (.cons (.loc 1) .nil)) (.ret (.op .tup (.cons (.op (.call 120) (.cons (.loc 2) (.cons (.op (.attr 4) (.cons (.loc 0) .nil)) .nil))) (.cons (.op (.call 120) (.cons (.loc 3) (.cons (.op (.attr 5) (.cons (.loc 0) .nil)) .nil))) .nil)))))
noncomputable def n_Matrix_point:List Str:=["self","p","x","y"]
noncomputable def m_Matrix_point:List Str:=[]
noncomputable def i_spot_of:IS:=(.unp [3,4] (.meth 630 2 (.loc 0) (.cons (.loc 1) .nil)) (.ret (.op .tup (.cons (.op (.call 197) (.cons (.op (.call 134) (.cons (.loc 3) (.cons (.op .tup (.cons (.loc 2) (.cons (.cst (.int 1)) .nil))) .nil))) .nil)) (.cons (.op (.call 197) (.cons (.op (.call 134) (.cons (.loc 4) (.cons (.op .tup (.cons (.loc 2) (.cons (.cst (.int 1)) .nil))) .nil))) .nil)) .nil)))))
noncomputable def n_spot_of:List Str:=["matrix","p","grain","x","y"]
noncomputable def m_spot_of:List Str:=[]
noncomputable abbrev ZS:SV:=.tup [.int 0,.int 1]
noncomputable abbrev OS:SV:=.tup [.int 1,.int 1]
noncomputable abbrev IdM:SV:=Mtx OS ZS ZS OS ZS ZS
noncomputable def Fine (b G U:Int):Int:=(2 * (U * G)+b).fdiv (2 * b)
theorem nb64 {b:Int}(hb:0 < b)(hb2:b < 2 ^ 61)(P:Int):0 < nB P b∧nB P b < 2 ^ 64:=⟨nB_pos hb,Int.lt_of_le_of_lt (nB_le hb) (by walk_at "o")⟩
section
variable (X:Pw){b:Int}
theorem identity_fn:FnV X 665 [] 8 IdM:=by
 refine' FnG.of_body n_identity m_identity i_identity [] ?kc ?ki ⟨[],fun _ _=>rfl,?kb⟩ ?kk ?kl ⟨_,_,.nil,?_⟩
 walk_at "vin"
 walk_at "v"
 refine newF (fI:=609) (k1:=2) (Eq.refl true) (Eq.refl true) (fun x=>matrix_init X x _ _ _ _ _ _) ?_
 walk_at "v"
theorem times_oneR {U:Int}(hb:0 < b)(hb2:b < 2 ^ 61):FnV X 134 [OS,frS U b] 6 (frS U b) :=
 timesR X U b (q0:=1) (q1:=1) (r:=U) (s:=b) (by walk_at "o") (by walk_at "o") (nb64 hb hb2 U).1 (nb64 hb hb2 U).2 (by walk_at "o") hb hb (mulOk (by walk_at "o") (by walk_at "o")) rfl nT_cross (by rw [Int.one_mul,Int.one_mul])
theorem times_zeroR {U:Int}(hb:0 < b)(hb2:b < 2 ^ 61):FnV X 134 [ZS,frS U b] 6 (frS 0 b) :=
 timesR X 0 b (q0:=0) (q1:=1) (r:=U) (s:=b) (by walk_at "o") (by walk_at "o") (nb64 hb hb2 U).1 (nb64 hb hb2 U).2 (by walk_at "o") hb hb (mulOk (by walk_at "o") (by walk_at "o")) rfl nT_cross (by rw [Int.zero_mul,Int.zero_mul,Int.zero_mul])
theorem plusB {U V Z:Int}(hb:0 < b)(hb2:b < 2 ^ 61)(hz:U+V=Z):FnV X 120 [frS U b,frS V b] 6 (frS Z b) :=
 plusR X Z b (q0:=U) (q1:=b) (r:=V) (s:=b) (nb64 hb hb2 U).1 (nb64 hb hb2 U).2 (nb64 hb hb2 V).1 (nb64 hb hb2 V).2 hb hb hb nT_cross nT_cross (by rw [← hz,← Int.add_mul,Int.mul_assoc])
theorem plus_zeroR {U:Int}(hb:0 < b)(hb2:b < 2 ^ 61):FnV X 120 [frS U b,ZS] 6 (frS U b) :=
 plusR X U b (q0:=U) (q1:=b) (r:=0) (s:=1) (nb64 hb hb2 U).1 (nb64 hb hb2 U).2 (by walk_at "o") (by walk_at "o") hb (by walk_at "o") hb nT_cross rfl (by rw [Int.mul_one,Int.zero_mul,Int.add_zero,Int.mul_one])
theorem vector_fn (q:Int × Int)(hb:0 < b)(hb2:b < 2 ^ 61):FnV X 623 [IdM,ptS b q] 12 (ptS b q):=by
 refine' FnG.of_body n_Matrix_vector m_Matrix_vector i_Matrix_vector [] ?kc ?ki ⟨[],fun _ _=>rfl,?kb⟩ ?kk ?kl ⟨_,_,.nil,?_⟩
 walk_at "vin"
 walk_at "v"
 refine callV (times_oneR X hb hb2) (Eq.refl true) ?_
 walk_at "v"
 refine callV (times_zeroR X hb hb2) (Eq.refl true) ?_
 walk_at "v"
 refine callV (plusB X hb hb2 (Int.add_zero _)) (Eq.refl true) ?_
 walk_at "v"
 refine callV (times_zeroR X hb hb2) (Eq.refl true) ?_
 walk_at "v"
 refine callV (times_oneR X hb hb2) (Eq.refl true) ?_
 walk_at "v"
 refine callV (plusB X hb hb2 (Int.zero_add _)) (Eq.refl true) ?_
 walk_at "v"
theorem point_fn (q:Int × Int)(hb:0 < b)(hb2:b < 2 ^ 61):FnV X 630 [IdM,ptS b q] 16 (ptS b q):=by
 refine' FnG.of_body n_Matrix_point m_Matrix_point i_Matrix_point [] ?kc ?ki ⟨[],fun _ _=>rfl,?kb⟩ ?kk ?kl ⟨_,_,.nil,?_⟩
 walk_at "vin"
 walk_at "v"
 refine callV (vector_fn _ q hb hb2) (Eq.refl true) ?_
 walk_at "v"
 refine callV (plus_zeroR X hb hb2) (Eq.refl true) ?_
 walk_at "v"
 refine callV (plus_zeroR X hb hb2) (Eq.refl true) ?_
 walk_at "v"
noncomputable abbrev spS (q:Int × Int):SV:=.tup [.int q.1,.int q.2]
noncomputable abbrev FineP (b G:Int)(q:Int × Int):Int × Int:=(Fine b G q.1,Fine b G q.2)
theorem spot_of_fn {q:Int × Int}{G:Int}(hb:0 < b)(hb2:b < 2 ^ 61)(hU:-10000000000 < q.1∧q.1 < 10000000000)(hV:-10000000000 < q.2∧q.2 < 10000000000):FnV X 474 [IdM,ptS b q,.int G] 24 (spS (FineP b G q)):=by
 have hr:∀ W:Int,(2 * nT (W * G) b+nB (W * G) b).fdiv (2 * nB (W * G) b)=Fine b G W:=fun W=>rnd_rep (nB_pos hb) hb nT_cross
 have hm:∀ W:Int,-10000000000 < W∧W < 10000000000→IntMulOk (nT W b) G:=fun W h=>by
  have h2:=nT_lt (p:=W) (q:=b) (M:=10000000000) hb h.1 h.2
  exact mulOk (by walk_at "o") (by walk_at "o")
 have tm:∀ W:Int,-10000000000 < W∧W < 10000000000→FnV X 134 [frS W b,.tup [.int G,.int 1]] 6 (frS (W * G) b):=fun W h =>
  timesR X (W * G) b (q0:=W) (q1:=b) (r:=G) (s:=1) (nb64 hb hb2 _).1 (nb64 hb hb2 _).2 (by walk_at "o") (by walk_at "o") hb (by walk_at "o") hb (hm _ h) nT_cross rfl (by rw [Int.mul_one])
 have rn:∀ W:Int,FnV X 197 [frS (W * G) b] 2 (.int (Fine b G W)):=fun W=>by rw [← hr W];exact rounded_fn _ (nb64 hb hb2 _).1 (nb64 hb hb2 _).2
 refine' FnG.of_body n_spot_of m_spot_of i_spot_of [] ?kc ?ki ⟨[],fun _ _=>rfl,?kb⟩ ?kk ?kl ⟨_,_,.nil,?_⟩
 walk_at "vin"
 walk_at "v"
 refine callV (point_fn _ q hb hb2) (Eq.refl true) ?_
 walk_at "v"
 refine callV (tm _ hU) (Eq.refl true) ?_
 walk_at "v"
 refine callV (rn _) (Eq.refl true) ?_
 walk_at "v"
 refine callV (tm _ hV) (Eq.refl true) ?_
 walk_at "v"
 refine callV (rn _) (Eq.refl true) ?_
 walk_at "v"
end
end
section
noncomputable def i_rounded_spot:IS:=(.ret (.op .tup (.cons (.op (.bin .FloorDiv) (.cons (.op (.bin .Add) (.cons (.op (.bin .Mult) (.cons (.cst (.int 2)) (.cons (.op .item (.cons (.loc 0) (.cons (.cst (.int 0)) .nil))) .nil))) (.cons (.loc 1) .nil))) (.cons (.op (.bin .Mult) (.cons (.cst (.int 2)) (.cons (.loc 1) .nil))) .nil))) (.cons (.op (.bin .FloorDiv) (.cons (.op (.bin .Add) (.cons (.op (.bin .Mult) (.cons (.cst (.int 2)) (.cons (.op .item (.cons (.loc 0) (.cons (.cst (.int 1)) .nil))) .nil))) (.cons (.loc 1) .nil))) (.cons (.op (.bin .Mult) (.cons (.cst (.int 2)) (.cons (.loc 1) .nil))) .nil))) .nil))))
noncomputable def n_rounded_spot:List Str:=["spot","many"]
noncomputable def m_rounded_spot:List Str:=[]
noncomputable def i_unlike_neighbours:IS:=(.asg 1 (.op .mls .nil) (.forS [2] true (.loc 0) (.ifS (.or (.op (.cmp .Eq) (.cons (.loc 1) (.cons (.op .lst .nil) .nil))) (.op (.cmp .NotEq) (.cons (.op .item (.cons (.loc 1) (.cons (.op .neg (.cons (.cst (.int 1)) .nil)) .nil))) (.cons (.loc 2) .nil)))) (.exp (.lm .append (.loc 1) (.cons (.loc 2) .nil)) .nil) .nil .nil) (.ret (.loc 1))))
noncomputable def n_unlike_neighbours:List Str:=["spots","found","spot"]
noncomputable def m_unlike_neighbours:List Str:=["found","return"]
noncomputable def i_is_flat:IS:=(.forS [2] true (.op (.slc (some 1) (some (-1))) (.cons (.loc 0) .nil)) (.ifS (.not .bad) (.ret (.cst (.bool false))) .nil .nil) (.ret (.cst (.bool true))))
noncomputable def n_is_flat:List Str:=["spots","bound","spot"]
noncomputable def m_is_flat:List Str:=[]
noncomputable def i_flat_spots:IS:=(.unp [3,4] (.op .tup (.cons (.op .mls .nil) (.cons (.op .mls (.cons (.op .tup (.cons (.op (.bi .tuple) (.cons (.loc 0) .nil)) (.cons (.cst (.int 0)) .nil))) .nil)) .nil))) (.whl (.op (.cmp .NotEq) (.cons (.loc 4) (.cons (.op .lst .nil) .nil))) (.unp [5,6] (.lm .pop (.loc 4) .nil) (.ifS (.or (.op (.cmp .GtE) (.cons (.loc 6) (.cons (.loc 2) .nil))) (.op (.call 488) (.cons (.loc 5) (.cons (.loc 1) .nil)))) (.exp (.lm .append (.loc 3) (.cons (.op .item (.cons (.loc 5) (.cons (.op .neg (.cons (.cst (.int 1)) .nil)) .nil))) .nil)) .nil) (.unp [7,8] .bad (.exp (.lm .append (.loc 4) (.cons (.op .tup (.cons (.loc 8) (.cons (.op (.bin .Add) (.cons (.loc 6) (.cons (.cst (.int 1)) .nil))) .nil))) .nil)) (.exp (.lm .append (.loc 4) (.cons (.op .tup (.cons (.loc 7) (.cons (.op (.bin .Add) (.cons (.loc 6) (.cons (.cst (.int 1)) .nil))) .nil))) .nil)) .nil))) .nil)) (.ret (.loc 3))))
noncomputable def n_flat_spots:List Str:=["spots","bound","most","found","left","here","depth","first","second"]
noncomputable def m_flat_spots:List Str:=["found","left"]
noncomputable def Rnd (F:Int):Int:=(2 * F+256).fdiv (2 * 256)
noncomputable def RndP (q:Int × Int):Int × Int:=(Rnd q.1,Rnd q.2)
theorem eq_or_last {α:Type}(l:List α):l=[]∨∃ i x,l=i++[x]:=by
 rcases List.eq_nil_or_concat l with h | ⟨i,x,h⟩
 ·exact .inl h
 ·exact .inr ⟨i,x,by simpa using h⟩
theorem isNil_snoc {α:Type}{f:α→SV}{l:List α}{x:α}:isNil ((l++[x]).map f)=false:=by
 cases l <;> rfl
theorem last_map {α:Type}{f:α→SV}{l:List α}{x:α}:idx ((l++[x]).map f) (-1)=some (f x):=by
 show List.getLast? _=_
 simp
theorem sp_plain {l:List (Int × Int)}:∀ v∈l.map spS,plainV 3 v:=fun v hv=>by
 obtain ⟨q,_,rfl⟩:=iM hv;exact (by first | exact plainI | exact plain2 plainI plainI | exact plain2 (plain2 plainI plainI) plainI | exact plain2 (plain2 plainI plainI) (plain2 plainI plainI))
section
variable (X:Pw)
theorem rounded_spot_fn (q:Int × Int):FnV X 514 [spS q,.int 256] 2 (spS (RndP q)):=by
 refine' FnG.of_body n_rounded_spot m_rounded_spot i_rounded_spot [] ?kc ?ki ⟨[],fun _ _=>rfl,?kb⟩ ?kk ?kl ⟨_,_,.nil,?_⟩
 walk_at "vin"
 walk_at "v"
 ·exact IntMulOk.of_left (by decide)
 ·exact IntMulOk.of_left (by decide)
 ·exact IntMulOk.of_left (by decide)
 ·exact IntMulOk.of_left (by decide)
theorem unlike_fn (qs:List (Int × Int))(hl:qs.length≤20):Fn X 521 [.lst (qs.map spS)] [] 12 fun r l=>∃ (rs:List (Int × Int)) (a:Addr),r=.ref a∧l=[(a,.lst (rs.map spS))]∧(∀ q,q∈rs↔q∈qs)∧rs.length≤qs.length:=by
 refine' FnG.of_body n_unlike_neighbours m_unlike_neighbours i_unlike_neighbours [] ?kc ?ki ⟨[],fun _ _=>rfl,?kb⟩ ?kk ?kl ⟨_,_,.nil,?_⟩
 walk_at "vin"
 walk_at "v"
 intro a
 walk_at "v"
 ·simp;walk_at "o"
 refine forL_ind (f:=spS) (fun r sl led=>∃ (o:Option SV) (rs p:List (Int × Int)),sl=[some (.lst (qs.map spS)),some (.ref a),o]∧(qs=p++r∧(∀ q,q∈rs↔q∈p)∧rs.length≤p.length)∧led=[(a,.lst (rs.map spS))]) ?_ ?_ qs _ _ ⟨_,[],[],rfl,⟨rfl,by simp,Nat.le_refl _⟩,rfl⟩
 ·intro sl led hh
  apply invL3_e hh
  intro o rs p hA
  have hp:qs=p:=by have h:=hA.1;rw [List.append_nil] at h;exact h
  walk_at "v"
  exact ⟨_,_,.nil,rs,a,rfl,rfl,hp▸hA.2⟩
 ·intro q r sl led hh ih
  apply invL3_e hh
  intro o rs p hA
  clear hh
  refine el0a3 hA fun hp hm hn=>?_
  clear hA
  have hz:p.length+(r.length+1)=qs.length:=by rw [hp];simp
  have next:∀ o,forL0 _ _ _ _ _:=fun o=>ih [some (.lst (qs.map spS)),some (.ref a),o] [(a,.lst ((rs++[q]).map spS))] ⟨o,rs++[q],p++[q],rfl,⟨by rw [hp];simp,fun x=>by simp [hm],by simp;walk_at "o"⟩,rfl⟩
  walk_at "v"
  refine nilEq_i (.mu (.head _)) sp_plain ?_
  rcases eq_or_last rs with rfl | ⟨ri,rl,rfl⟩
  ·walk_at "v"
   exact next _
  ·walk_at "v"
   refine ifB_ff isNil_snoc ?_
   walk_at "v"
   refine ex1_i _ last_map ⟨by simp at hn ⊢;walk_at "o",?_⟩
   walk_at "v"
   ·simp at hn ⊢;walk_at "o"
   ·have:=next (some (spS q))
    rw [List.map_append] at this
    exact this
   ·refine ih _ _ ⟨_,ri++[rl],p++[q],rfl,⟨by rw [hp];simp,fun x=>?_,by simp at hn ⊢;walk_at "o"⟩,rfl⟩
    have e:rl=q:=Prod.ext h.1 h.2
    rw [List.mem_append (s:=p),← hm,List.mem_singleton]
    exact ⟨.inl,fun k=>k.elim id fun k=>by rw [k,← e];simp⟩
theorem is_flat_fn (p q b:SV):FnV X 488 [.tup [p,q],b] 2 (.bool true):=by
 refine' FnG.of_body n_is_flat m_is_flat i_is_flat [] ?kc ?ki ⟨[],fun _ _=>rfl,?kb⟩ ?kk ?kl ⟨_,_,.nil,?_⟩
 walk_at "vin"
 walk_at "v"
 refine forL.mk ?_
 walk_at "v"
theorem flat_spots_fn (p q:Int × Int)(b:SV):FnV X 507 [.lst [spS p,spS q],b,.int 8] 12 (.lst [spS q]):=by
 refine' FnG.of_body n_flat_spots m_flat_spots i_flat_spots [] ?kc ?ki ⟨[],fun _ _=>rfl,?kb⟩ ?kk ?kl ⟨_,_,.nil,?_⟩
 walk_at "vin"
 walk_at "v"
 intro a
 walk_at "v"
 refine ex1_i _ .fr ⟨iE rfl,?_⟩
 walk_at "v"
 intro c
 walk_at "v"
 refine ⟨1,fun n sl led=>(n=1∧sl=[some (.lst [spS p,spS q]),some b,some (.int 8),some (.ref a),some (.ref c),none,none,none,none]∧led=[(c,.lst [.tup [.tup [spS p,spS q],.int 0]]),(a,.lst [])]) ∨
  (n=0∧∃ o5 o6,sl=[some (.lst [spS p,spS q]),some b,some (.int 8),some (.ref a),some (.ref c),o5,o6,none,none]∧led=[(c,.lst []),(a,.lst [spS q])]),.inl ⟨rfl,rfl,rfl⟩,fun n sl led h=>?_⟩
 rcases h with ⟨rfl,rfl,rfl⟩ | ⟨rfl,o5,o6,rfl,rfl⟩
 ·walk_at "v"
  refine nilEq_i (.mu (.head _)) (fun v hv=>by rw [iS hv];exact plain2 (plain2 (plain2 plainI plainI) (plain2 plainI plainI)) plainI) ?_
  walk_at "v"
  refine ex3_i [] _ _ .here ⟨by decide,?_⟩
  walk_at "v"
  refine callV (is_flat_fn _ _ _ _) (Eq.refl true) ?_
  walk_at "v"
  exact ⟨0,by decide,.inr ⟨rfl,_,_,rfl,rfl⟩⟩
 ·walk_at "v"
  refine nilEq_i (.mu (.head _)) (fun v hv=>(by cases hv)) ?_
  walk_at "v"
  exact ⟨_,_,.one (.right (.left .nil)) FzM.refl (.swap .nil) (.one (.left .nil) FzM.refl (.keep .nil) .nil),rfl,rfl⟩
end
end
section
noncomputable def i_Flattener___init:IS:=(.sAttr 10 (.loc 0) (.loc 1) (.sAttr 11 (.loc 0) (.loc 4) (.sAttr 12 (.loc 0) (.op (.bin .Pow) (.cons (.cst (.int 2)) (.cons (.loc 4) .nil))) (.sAttr 13 (.loc 0) (.op (.bin .Mult) (.cons (.loc 2) (.cons (.op (.attr 12) (.cons (.loc 0) .nil)) .nil))) (.sAttr 14 (.loc 0) (.op (.bin .Mult) (.cons (.loc 3) (.cons (.op (.attr 12) (.cons (.loc 0) .nil)) .nil))) (.sAttr 15 (.loc 0) (.op .mls .nil) (.sAttr 16 (.loc 0) (.cst .none) (.sAttr 17 (.loc 0) (.cst .none) (.sAttr 18 (.loc 0) (.op .mls .nil) .nil)))))))))
noncomputable def n_Flattener___init:List Str:=["self","matrix","grain","bound","most"]
noncomputable def m_Flattener___init:List Str:=[]
noncomputable def i_Flattener_fine:IS:=(.ret (.op (.call 474) (.cons (.op (.attr 10) (.cons (.loc 0) .nil)) (.cons (.loc 1) (.cons (.op (.attr 13) (.cons (.loc 0) .nil)) .nil)))))
noncomputable def n_Flattener_fine:List Str:=["self","p"]
noncomputable def m_Flattener_fine:List Str:=[]
noncomputable def i_Flattener_begin:IS:=(.exp (.meth 554 6 (.loc 0) (.cons (.cst (.bool false)) .nil)) (.sAttr 16 (.loc 0) (.loc 1) (.sAttr 17 (.loc 0) (.loc 1) (.sAttr 18 (.loc 0) (.op .mls (.cons (.meth 542 4 (.loc 0) (.cons (.loc 1) .nil)) .nil)) .nil))))
noncomputable def n_Flattener_begin:List Str:=["self","p"]
noncomputable def m_Flattener_begin:List Str:=[]
noncomputable def i_Flattener_end:IS:=(.asg 2 (.op (.call 521) (.cons (.comp (.op (.attr 18) (.cons (.loc 0) .nil)) (.op (.call 514) (.cons (.loc 3) (.cons (.op (.attr 12) (.cons (.loc 0) .nil)) .nil)))) .nil)) (.ifS (.and (.loc 1) (.and (.op (.cmp .Gt) (.cons (.op (.bi .len) (.cons (.loc 2) .nil)) (.cons (.cst (.int 1)) .nil))) (.op (.cmp .Eq) (.cons (.op .item (.cons (.loc 2) (.cons (.cst (.int 0)) .nil))) (.cons (.op .item (.cons (.loc 2) (.cons (.op .neg (.cons (.cst (.int 1)) .nil)) .nil))) .nil))))) (.exp (.lm .pop (.loc 2) .nil) .nil) .nil (.ifS (.or (.op (.cmp .Gt) (.cons (.op (.bi .len) (.cons (.op (.attr 18) (.cons (.loc 0) .nil)) .nil)) (.cons (.cst (.int 1)) .nil))) (.and (.loc 1) (.op (.cmp .NotEq) (.cons (.op (.attr 18) (.cons (.loc 0) .nil)) (.cons (.op .lst .nil) .nil))))) (.exp (.lm .append (.op (.attr 15) (.cons (.loc 0) .nil)) (.cons (.op .tup (.cons (.op (.bi .tuple) (.cons (.loc 2) .nil)) (.cons (.loc 1) .nil))) .nil)) .nil) .nil (.sAttr 18 (.loc 0) (.op .mls .nil) .nil))))
noncomputable def n_Flattener_end:List Str:=["self","is_closed","spots"]
noncomputable def m_Flattener_end:List Str:=["spots","return"]
noncomputable def i_Flattener_go:IS:=(.ifS (.op (.cmp .Is) (.cons (.op (.attr 17) (.cons (.loc 0) .nil)) (.cons (.cst .none) .nil))) .bad .nil (.ifS (.op (.cmp .Eq) (.cons (.op (.attr 18) (.cons (.loc 0) .nil)) (.cons (.op .lst .nil) .nil))) (.sAttr 18 (.loc 0) (.op .mls (.cons (.meth 542 4 (.loc 0) (.cons (.op (.attr 17) (.cons (.loc 0) .nil)) .nil)) .nil)) .nil) .nil (.asgU 2 (.loc 1) (.meth 542 4 (.loc 0) (.cons (.loc 3) .nil)) (.exp (.lm .extend (.op (.attr 18) (.cons (.loc 0) .nil)) (.cons (.op (.call 507) (.cons (.op (.bin .Add) (.cons (.op .lst (.cons (.op .item (.cons (.op (.attr 18) (.cons (.loc 0) .nil)) (.cons (.op .neg (.cons (.cst (.int 1)) .nil)) .nil))) .nil)) (.cons (.loc 2) .nil))) (.cons (.op (.attr 14) (.cons (.loc 0) .nil)) (.cons (.op (.attr 11) (.cons (.loc 0) .nil)) .nil)))) .nil)) (.sAttr 17 (.loc 0) (.op .item (.cons (.loc 1) (.cons (.op .neg (.cons (.cst (.int 1)) .nil)) .nil))) .nil)))))
noncomputable def n_Flattener_go:List Str:=["self","points","fine"]
noncomputable def m_Flattener_go:List Str:=[]
noncomputable def i_Flattener_close:IS:=(.ifS (.op (.cmp .Is) (.cons (.op (.attr 17) (.cons (.loc 0) .nil)) (.cons (.cst .none) .nil))) .bad .nil (.ifS (.op (.cmp .Eq) (.cons (.op (.attr 18) (.cons (.loc 0) .nil)) (.cons (.op .lst .nil) .nil))) (.sAttr 18 (.loc 0) (.op .mls (.cons (.meth 542 4 (.loc 0) (.cons (.op (.attr 17) (.cons (.loc 0) .nil)) .nil)) .nil)) .nil) .nil (.exp (.meth 554 6 (.loc 0) (.cons (.cst (.bool true)) .nil)) (.sAttr 17 (.loc 0) (.op (.attr 16) (.cons (.loc 0) .nil)) .nil))))
noncomputable def n_Flattener_close:List Str:=["self"]
noncomputable def m_Flattener_close:List Str:=[]
noncomputable def i_Flattener_take:IS:=(.asg 2 (.op .item (.cons (.loc 1) (.cons (.cst (.int 0)) .nil))) (.ifS (.op (.cmp .Eq) (.cons (.loc 2) (.cons (.cst (.str "move")) .nil))) (.exp (.meth 549 5 (.loc 0) (.cons (.op .item (.cons (.loc 1) (.cons (.cst (.int 1)) .nil))) .nil)) .nil) (.ifS (.op (.cmp .Eq) (.cons (.loc 2) (.cons (.cst (.str "close")) .nil))) (.exp (.meth 566 8 (.loc 0) .nil) .nil) (.ifS (.op (.cmp .Eq) (.cons (.loc 2) (.cons (.cst (.str "arc")) .nil))) (.exp .bad .nil) (.exp (.meth 559 7 (.loc 0) (.cons (.op (.bi .list) (.cons (.op (.slc (some 1) none) (.cons (.loc 1) .nil)) .nil)) .nil)) .nil) .nil) .nil) .nil))
noncomputable def n_Flattener_take:List Str:=["self","segment","word"]
noncomputable def m_Flattener_take:List Str:=[]
noncomputable abbrev FL (G:Int)(cn:Addr)(st he sp:SV):MO:=.inst 583 [10,11,12,13,14,15,16,17,18] [IdM,.int 8,.int 256,.int G,.int 256,.ref cn,st,he,sp]
noncomputable abbrev SameP (rs qs:List (Int × Int)):Prop:=(∀ q,q∈rs↔q∈qs)∧rs.length≤20
theorem drop_last_mem {α:Type}{ri:List α}{rl r0:α}(h:(ri++[rl])[0]? = some r0)(hne:0 < ri.length)(e:r0=rl)(q:α):q∈ri↔q∈ri++[rl]:=by
 subst e
 cases ri with
 | nil=>simp at hne
 | cons z r =>
  simp only [List.cons_append,List.getElem?_cons_zero,Option.some.injEq] at h
  subst h
  simp only [List.mem_append,List.mem_cons,List.cons_append,List.not_mem_nil,or_false]
  exact ⟨fun h=>h.elim .inl (fun h=>.inr (.inl h)),fun h=>h.elim .inl (fun h=>h.elim .inr .inl)⟩
section
variable (X:Pw){b:Int}
theorem flattener_init (x:Addr)(g:Int):Fn X 535 [.ref x,IdM,.int g,.int 1,.int 8] [(x,.inst 583 [] [])] 2 fun r l=>r=.none∧∃ cn sp,l=[(sp,.lst []),(cn,.lst []),(x,FL (g * 256) cn .none .none (.ref sp))]:=by
 refine' FnG.of_body n_Flattener___init m_Flattener___init i_Flattener___init [] ?kc ?ki ⟨[],fun _ _=>rfl,?kb⟩ ?kk ?kl ⟨_,_,.nil,?_⟩
 walk_at "vin"
 walk_at "v"
 ·decide
 ·decide
 ·exact IntMulOk.of_right (by decide)
 ·exact IntMulOk.of_left (by decide)
 intro cn
 walk_at "v"
 intro sp
 walk_at "v"
 exact ⟨_,_,.nil,rfl,cn,sp,rfl⟩
theorem fine_fn {x cn:Addr}{G:Int}{st he sp:SV}{q:Int × Int}{led:MLd}(hm:(x,FL G cn st he sp)∈led)(hb:0 < b)(hb2:b < 2 ^ 61)(hU:-10000000000 < q.1∧q.1 < 10000000000)(hV:-10000000000 < q.2∧q.2 < 10000000000) :
  Fn X 542 [.ref x,ptS b q] led 26 fun r l=>r=spS (FineP b G q)∧l=led:=by
 refine' FnG.of_body n_Flattener_fine m_Flattener_fine i_Flattener_fine [] ?kc ?ki ⟨[],fun _ _=>rfl,?kb⟩ ?kk ?kl ⟨_,_,.nil,?_⟩
 walk_at "vin"
 walk_at "v"
 refine ex3_i _ _ _ hm ?_
 walk_at "v"
 refine ex3_i _ _ _ hm ?_
 walk_at "v"
 refine callV (spot_of_fn _ hb hb2 hU hV) (Eq.refl true) ?_
 walk_at "v"
theorem end_nil {x cn sp:Addr}{G:Int}{st he:SV}{C:List SV}:Fn X 554 [.ref x,.bool false] [(sp,.lst []),(cn,.lst C),(x,FL G cn st he (.ref sp))] 16 fun r l=>r=.none∧∃ sp',l=[(sp',.lst []),(cn,.lst C),(x,FL G cn st he (.ref sp'))]:=by
 refine' (FnG.of_body n_Flattener_end m_Flattener_end i_Flattener_end [] ?kc ?ki ⟨[],fun _ _=>rfl,?kb⟩ ?kk ?kl ⟨[.ref x,.bool false],[(cn,.lst C),(x,FL G cn st he (.lst []))],.one (.left .allR) (.keep (.inst (.keep (.keep (.keep (.keep (.keep (.keep (.keep (.keep (.swap .nil))))))))) .nil)) (.keep (.keep .nil)) .nil,?_⟩)
 case kc=>kernel_rfl
 case ki=>kernel_rfl
 case kk=>kernel_rfl
 case kl=>kernel_rfl
 case kb=>walk_at "kb"
 walk_at "v"
 refine compL.mk ?_
 walk_at "v"
 refine callY2 (unlike_fn _ [] (Nat.zero_le _)) (Eq.refl true) .allR fun rs a hA=>?_
 walk_at "v"
 intro sp'
 walk_at "v"
 exact ⟨_,_,.one (.right (.left .allR)) FzM.refl (.keep .nil) .nil,rfl,sp',rfl⟩
theorem end_some {x cn sp:Addr}{G:Int}{st he:SV}{c:Bool}{qs:List (Int × Int)}(hl:2≤qs.length)(hl2:qs.length≤20) :
  Fn X 554 [.ref x,.bool c] [(sp,.lst (qs.map spS)),(cn,.lst []),(x,FL G cn st he (.ref sp))] 16 fun r l=>r=.none∧∃ sp' rs,l=[(sp',.lst []),(cn,.lst [.tup [.tup (rs.map spS),.bool c]]),(x,FL G cn st he (.ref sp'))]∧SameP rs (qs.map RndP):=by
 have hq:1 < ((qs.map spS).length:Int):=by rw [List.length_map];walk_at "o"
 refine' (FnG.of_body n_Flattener_end m_Flattener_end i_Flattener_end [] ?kc ?ki ⟨[],fun _ _=>rfl,?kb⟩ ?kk ?kl ⟨[.ref x,.bool c],[(cn,.lst []),(x,FL G cn st he (.lst (qs.map spS)))],.one (.left .allR) (.keep (.inst (.keep (.keep (.keep (.keep (.keep (.keep (.keep (.keep (.swap .nil))))))))) .nil)) (.keep (.keep .nil)) .nil,?_⟩)
 case kc=>kernel_rfl
 case ki=>kernel_rfl
 case kk=>kernel_rfl
 case kl=>kernel_rfl
 case kb=>walk_at "kb"
 walk_at "v"
 ·rw [List.length_map];walk_at "o"
 refine compL_to (f:=spS) (g:=fun q=>spS (RndP q)) ((qs.map RndP).map spS) (by simp) (fun q _ k2 h=>?_) ?_
 ·walk_at "v"
  refine callV (rounded_spot_fn _ q) (Eq.refl true) ?_
  walk_at "v"
  exact h
 walk_at "v"
 refine callY2 (unlike_fn _ (qs.map RndP) (by simpa using hl2)) (Eq.refl true) .allR fun rs a hA=>?_
 have hm:=hA.1
 have hn:rs.length≤20:=by have hn:=hA.2;rw [List.length_map] at hn;walk_at "o"
 clear hA
 cases c with
 | false =>
  walk_at "v"
  ·rw [List.length_map];walk_at "o"
  ·refine ex1_i _ (.mu (.head _)) ⟨by rw [List.length_map];walk_at "o",?_⟩
   walk_at "v"
   intro sp'
   walk_at "v"
   exact ⟨_,_,.one (.right (.left .allR)) FzM.refl (.keep .nil) .nil,rfl,sp',rs,rfl,hm,hn⟩
  ·exact absurd hq h
 | true =>
  walk_at "v"
  ·rw [List.length_map];walk_at "o"
  ·have hf:∃ r0 ri rl,rs=r0::(ri++[rl]):=by
    cases rs with
    | nil=>simp at h
    | cons r0 t =>
     rcases eq_or_last t with rfl | ⟨ri,rl,rfl⟩
     ·simp at h
     ·exact ⟨r0,ri,rl,rfl⟩
   refine el3a1 hf fun r0 ri rl e1q=>?_
   clear hf
   subst e1q
   refine ex1_i _ (show _=some (spS r0) from rfl) ⟨by rw [List.length_map];walk_at "o",?_⟩
   walk_at "v"
   refine ex1_i (spS rl) (by exact last_map (l:=r0::ri)) ⟨by rw [List.length_map];walk_at "o",?_⟩
   walk_at "v"
   ·rename _∧_=>he
    refine ex3_i ((r0::ri).map spS) (spS rl) _ (by rw [show r0::(ri++[rl])=(r0::ri)++[rl] from rfl,List.map_append];exact .here) ⟨by rw [List.length_map];simp at hn ⊢;walk_at "o",?_⟩
    have hm2:∀ q,q∈r0::ri↔q∈qs.map RndP:=fun q=>(drop_last_mem (ri:=r0::ri) rfl (Nat.succ_pos _) (Prod.ext he.1 he.2) q).trans (hm q)
    replace hn:(r0::ri).length≤20:=by simp at hn ⊢;walk_at "o"
    walk_at "v"
    ·rw [List.length_map];walk_at "o"
    ·refine ex1_i _ (.mu (.head _)) ⟨by rw [List.length_map];walk_at "o",?_⟩
     walk_at "v"
     intro sp'
     walk_at "v"
     exact ⟨_,_,.one (.right (.left .allR)) FzM.refl (.keep .nil) .nil,rfl,sp',r0::ri,rfl,hm2,hn⟩
    ·exact absurd hq (by assumption)
   ·rw [List.length_map];walk_at "o"
   ·refine ex1_i _ (.mu (.head _)) ⟨by rw [List.length_map];walk_at "o",?_⟩
    walk_at "v"
    intro sp'
    walk_at "v"
    exact ⟨_,_,.one (.right (.left .allR)) FzM.refl (.keep .nil) .nil,rfl,sp',_,rfl,hm,hn⟩
   ·exact absurd hq (by assumption)
  ·rw [List.length_map];walk_at "o"
  ·refine ex1_i _ (.mu (.head _)) ⟨by rw [List.length_map];walk_at "o",?_⟩
   walk_at "v"
   intro sp'
   walk_at "v"
   exact ⟨_,_,.one (.right (.left .allR)) FzM.refl (.keep .nil) .nil,rfl,sp',_,rfl,hm,hn⟩
  ·exact absurd hq (by assumption)
theorem nil_pos {qs:List (Int × Int)}(h:2≤qs.length):isNil (qs.map spS)=false:=by
 cases qs with
 | nil=>simp at h
 | cons=>rfl
theorem begin_fn {x cn sp:Addr}{G:Int}{st he:SV}{C:List SV}{q:Int × Int}(hb:0 < b)(hb2:b < 2 ^ 61)(hU:-10000000000 < q.1∧q.1 < 10000000000)(hV:-10000000000 < q.2∧q.2 < 10000000000) :
  Fn X 549 [.ref x,ptS b q] [(sp,.lst []),(cn,.lst C),(x,FL G cn st he (.ref sp))] 30 fun r l=>r=.none∧∃ sp',l=[(sp',.lst [spS (FineP b G q)]),(cn,.lst C),(x,FL G cn (ptS b q) (ptS b q) (.ref sp'))]:=by
 refine' FnG.of_body n_Flattener_begin m_Flattener_begin i_Flattener_begin [] ?kc ?ki ⟨[],fun _ _=>rfl,?kb⟩ ?kk ?kl ⟨_,_,.nil,?_⟩
 walk_at "vin"
 walk_at "v"
 refine callN1 (end_nil X) (Eq.refl true) .allL fun sp'=>?_
 walk_at "v"
 refine callE (fine_fn _ (.tail _ (.tail _ (.head _))) hb hb2 hU hV) (Eq.refl true) .allL ?_
 walk_at "v"
 intro sp2
 walk_at "v"
 exact ⟨_,_,.one (.right (.left .allR)) FzM.refl (.keep .nil) .nil,rfl,sp2,rfl⟩
theorem go_fn {x cn sp:Addr}{G:Int}{st:SV}{C:List SV}{h0 q q0:Int × Int}{qs:List (Int × Int)}(hl:qs.length≤20)(hb:0 < b)(hb2:b < 2 ^ 61)(hU:-10000000000 < q.1∧q.1 < 10000000000)(hV:-10000000000 < q.2∧q.2 < 10000000000) :
  Fn X 559 [.ref x,.lst [ptS b q]] [(sp,.lst ((qs++[q0]).map spS)),(cn,.lst C),(x,FL G cn st (ptS b h0) (.ref sp))] 30 fun r l=>r=.none∧l=[(sp,.lst ((qs++[q0]++[FineP b G q]).map spS)),(cn,.lst C),(x,FL G cn st (ptS b q) (.ref sp))]:=by
 refine' FnG.of_body n_Flattener_go m_Flattener_go i_Flattener_go [] ?kc ?ki ⟨[],fun _ _=>rfl,?kb⟩ ?kk ?kl ⟨_,_,.nil,?_⟩
 walk_at "vin"
 walk_at "v"
 refine nilEq_i (.mu (.head _)) sp_plain ?_
 walk_at "v"
 refine ifB_ff isNil_snoc ?_
 walk_at "v"
 refine compL.mk ?_
 walk_at "v"
 refine callE (fine_fn _ (.tail _ (.tail _ (.head _))) hb hb2 hU hV) (Eq.refl true) .allL ?_
 walk_at "v"
 refine ex1_i _ last_map ⟨by simp;walk_at "o",?_⟩
 walk_at "v"
 refine callV (flat_spots_fn _ _ _ _) (Eq.refl true) ?_
 walk_at "v"
 ·simp;walk_at "o"
 exact ⟨_,_,.nil,rfl,by rw [List.map_append (l₁:=qs++[q0])];rfl⟩
theorem close_fn {x cn sp:Addr}{G:Int}{h0 s0:Int × Int}{qs:List (Int × Int)}(hl:2≤qs.length)(hl2:qs.length≤20) :
  Fn X 566 [.ref x] [(sp,.lst (qs.map spS)),(cn,.lst []),(x,FL G cn (ptS b s0) (ptS b h0) (.ref sp))] 30 fun r l=>r=.none∧∃ sp' rs,l=[(sp',.lst []),(cn,.lst [.tup [.tup (rs.map spS),.bool true]]),(x,FL G cn (ptS b s0) (ptS b s0) (.ref sp'))]∧SameP rs (qs.map RndP):=by
 refine' FnG.of_body n_Flattener_close m_Flattener_close i_Flattener_close [] ?kc ?ki ⟨[],fun _ _=>rfl,?kb⟩ ?kk ?kl ⟨_,_,.nil,?_⟩
 walk_at "vin"
 walk_at "v"
 refine nilEq_i (.mu (.head _)) sp_plain ?_
 walk_at "v"
 refine ifB_ff (nil_pos hl) ?_
 walk_at "v"
 refine callN2 (end_some X hl hl2) (Eq.refl true) .allL fun sp' rs hs=>?_
 walk_at "v"
 exact ⟨_,_,.nil,rfl,sp',rs,rfl,hs⟩
theorem take_mv {x cn sp:Addr}{G:Int}{st he:SV}{C:List SV}{q:Int × Int}(hb:0 < b)(hb2:b < 2 ^ 61)(hU:-10000000000 < q.1∧q.1 < 10000000000)(hV:-10000000000 < q.2∧q.2 < 10000000000) :
  Fn X 573 [.ref x,segS b (.mv q)] [(sp,.lst []),(cn,.lst C),(x,FL G cn st he (.ref sp))] 32 fun r l=>r=.none∧∃ sp',l=[(sp',.lst [spS (FineP b G q)]),(cn,.lst C),(x,FL G cn (ptS b q) (ptS b q) (.ref sp'))]:=by
 refine' FnG.of_body n_Flattener_take m_Flattener_take i_Flattener_take [] ?kc ?ki ⟨[],fun _ _=>rfl,?kb⟩ ?kk ?kl ⟨_,_,.nil,?_⟩
 walk_at "vin"
 walk_at "v"
 refine callN1 (begin_fn _ hb hb2 hU hV) (Eq.refl true) .allL fun sp'=>?_
 walk_at "v"
 exact ⟨_,_,.nil,rfl,sp',rfl⟩
theorem take_ln {x cn sp:Addr}{G:Int}{st:SV}{C:List SV}{h0 q q0:Int × Int}{qs:List (Int × Int)}(hl:qs.length≤20)(hb:0 < b)(hb2:b < 2 ^ 61)(hU:-10000000000 < q.1∧q.1 < 10000000000)(hV:-10000000000 < q.2∧q.2 < 10000000000) :
  Fn X 573 [.ref x,segS b (.ln q)] [(sp,.lst ((qs++[q0]).map spS)),(cn,.lst C),(x,FL G cn st (ptS b h0) (.ref sp))] 32 fun r l=>r=.none∧l=[(sp,.lst ((qs++[q0]++[FineP b G q]).map spS)),(cn,.lst C),(x,FL G cn st (ptS b q) (.ref sp))]:=by
 refine' FnG.of_body n_Flattener_take m_Flattener_take i_Flattener_take [] ?kc ?ki ⟨[],fun _ _=>rfl,?kb⟩ ?kk ?kl ⟨_,_,.nil,?_⟩
 walk_at "vin"
 walk_at "v"
 refine callE (go_fn _ hl hb hb2 hU hV) (Eq.refl true) .allL ?_
 walk_at "v"
theorem take_cl {x cn sp:Addr}{G:Int}{h0 s0:Int × Int}{qs:List (Int × Int)}(hl:2≤qs.length)(hl2:qs.length≤20) :
  Fn X 573 [.ref x,segS b .cl] [(sp,.lst (qs.map spS)),(cn,.lst []),(x,FL G cn (ptS b s0) (ptS b h0) (.ref sp))] 32 fun r l=>r=.none∧∃ sp' rs,l=[(sp',.lst []),(cn,.lst [.tup [.tup (rs.map spS),.bool true]]),(x,FL G cn (ptS b s0) (ptS b s0) (.ref sp'))]∧SameP rs (qs.map RndP):=by
 refine' FnG.of_body n_Flattener_take m_Flattener_take i_Flattener_take [] ?kc ?ki ⟨[],fun _ _=>rfl,?kb⟩ ?kk ?kl ⟨_,_,.nil,?_⟩
 walk_at "vin"
 walk_at "v"
 refine callN2 (close_fn _ hl hl2) (Eq.refl true) .allL fun sp' rs hs=>?_
 walk_at "v"
 exact ⟨_,_,.nil,rfl,sp',rs,rfl,hs⟩
end
end
section
noncomputable def i_flattened:IS:=(.asg 5 (.op (.new 583) (.cons (.loc 1) (.cons (.loc 2) (.cons (.loc 3) (.cons (.loc 4) .nil))))) (.forS [6] true (.loc 0) (.exp (.meth 573 9 (.loc 5) (.cons (.loc 6) .nil)) .nil) (.exp (.meth 554 6 (.loc 5) (.cons (.cst (.bool false)) .nil)) (.ret (.op (.attr 15) (.cons (.loc 5) .nil))))))
noncomputable def n_flattened:List Str:=["segments","matrix","grain","bound","most","flattener","segment"]
noncomputable def m_flattened:List Str:=[]
noncomputable def i_box_of:IS:=(.asgW 1 (.loc 0) (.op .item (.cons (.loc 4) (.cons (.cst (.int 0)) .nil))) (.ifS (.op (.cmp .Eq) (.cons (.loc 1) (.cons (.op .lst .nil) .nil))) (.ret (.cst .none)) .nil (.unp [2,3] (.op .tup (.cons (.comp (.loc 1) (.op .item (.cons (.loc 4) (.cons (.cst (.int 0)) .nil)))) (.cons (.comp (.loc 1) (.op .item (.cons (.loc 4) (.cons (.cst (.int 1)) .nil)))) .nil))) (.ret (.op .tup (.cons (.op (.bi .min) (.cons (.loc 2) .nil)) (.cons (.op (.bi .min) (.cons (.loc 3) .nil)) (.cons (.op (.bi .max) (.cons (.loc 2) .nil)) (.cons (.op (.bi .max) (.cons (.loc 3) .nil)) .nil)))))))))
noncomputable def n_box_of:List Str:=["contours","spots","across","upright"]
noncomputable def m_box_of:List Str:=[]
noncomputable def i_ShapeBox___init:IS:=(.sAttr 6 (.loc 0) (.loc 1) (.sAttr 7 (.loc 0) (.loc 2) (.sAttr 8 (.loc 0) (.loc 3) (.sAttr 9 (.loc 0) (.loc 4) .nil))))
noncomputable def n_ShapeBox___init:List Str:=["self","x","y","width","height"]
noncomputable def m_ShapeBox___init:List Str:=[]
noncomputable def i_ShapeBox_is_flat:IS:=(.ret (.or (.op (.cmp .Eq) (.cons (.op .item (.cons (.op (.attr 8) (.cons (.loc 0) .nil)) (.cons (.cst (.int 0)) .nil))) (.cons (.cst (.int 0)) .nil))) (.op (.cmp .Eq) (.cons (.op .item (.cons (.op (.attr 9) (.cons (.loc 0) .nil)) (.cons (.cst (.int 0)) .nil))) (.cons (.cst (.int 0)) .nil)))))
noncomputable def n_ShapeBox_is_flat:List Str:=["self"]
noncomputable def m_ShapeBox_is_flat:List Str:=[]
noncomputable def i_shape_box:IS:=(.asg 1 (.op (.call 713) (.cons (.loc 0) .nil)) (.asg 2 (.op (.call 280) (.cons (.op (.call 595) (.cons (.loc 0) (.cons (.op (.call 665) .nil) (.cons (.loc 1) .nil)))) .nil)) (.ifS (.op (.cmp .Is) (.cons (.loc 2) (.cons (.cst .none) .nil))) (.ret (.cst .none)) .nil (.unp [3,4,5,6] (.loc 2) (.ret (.op (.new 697) (.cons (.op (.call 113) (.cons (.loc 3) (.cons (.loc 1) .nil))) (.cons (.op (.call 113) (.cons (.loc 4) (.cons (.loc 1) .nil))) (.cons (.op (.call 113) (.cons (.op (.bin .Sub) (.cons (.loc 5) (.cons (.loc 3) .nil))) (.cons (.loc 1) .nil))) (.cons (.op (.call 113) (.cons (.op (.bin .Sub) (.cons (.loc 6) (.cons (.loc 4) .nil))) (.cons (.loc 1) .nil))) .nil))))))))))
noncomputable def n_shape_box:List Str:=["segments","grain","told","left","top","right","bottom"]
noncomputable def m_shape_box:List Str:=[]
section
variable (X:Pw){b:Int}
theorem forL_cons {B:SV→Sl→MLd→(SFl→Sl→MLd→Prop)→Prop}{K:FK}{x:SV}{r:List SV}{sl:Sl}{led:MLd}(h:B x sl led (forK B r K)):forL0 B (x::r) sl led K:=h
theorem forL_pre {α:Type}{B:SV→Sl→MLd→(SFl→Sl→MLd→Prop)→Prop}{K:FK}{f:α→SV}{rest:List SV}(I:List α→Sl→MLd→Prop)(h0:∀ sl led,I [] sl led→forL0 B rest sl led K)
  (hs:∀ x r sl led,I (x::r) sl led→(∀ sl led,I r sl led→forL0 B (r.map f++rest) sl led K)→B (f x) sl led (forK B (r.map f++rest) K)):∀ (l:List α) sl led,I l sl led→forL0 B (l.map f++rest) sl led K
 | [],sl,led,h=>h0 sl led h
 | x::r,sl,led,h=>hs x r sl led h fun sl led h=>forL_pre I h0 hs r sl led h
noncomputable abbrev sgs (b:Int)(c:Bool)(q0:Int × Int)(ps:List (Int × Int)):List SV:=segS b (.mv q0)::(ps.map (fun q=>segS b (.ln q))++(if c then [segS b .cl] else []))
theorem sgs_len {c:Bool}{q0:Int × Int}{ps:List (Int × Int)}:(sgs b c q0 ps).length≤ps.length+2:=by
 cases c <;> simp [sgs]
theorem flattened_fn {c:Bool}{g:Int}{q0:Int × Int}{ps:List (Int × Int)}(hb:0 < b)(hb2:b < 2 ^ 61)(hn:1≤ps.length)(hn2:ps.length≤8)(hbd:∀ q∈q0::ps,-10000000000 < q.1∧q.1 < 10000000000∧-1000 < q.2∧q.2 < 1000) :
  Fn X 595 [.lst (sgs b c q0 ps),IdM,.int g] [] 40 fun r l=>l=[]∧∃ rs,r=.lst [.tup [.tup (rs.map spS),.bool c]]∧SameP rs (((q0::ps).map (FineP b (g * 256))).map RndP):=by
 have hQ:∀ q∈q0::ps,(-10000000000 < q.1∧q.1 < 10000000000)∧(-10000000000 < q.2∧q.2 < 10000000000):=fun q hq=>by have:=hbd q hq;walk_at "o"
 refine' (FnG.of_body n_flattened m_flattened i_flattened [.int 1,.int 8] ?kc ?ki ⟨[.int 1 1038,.int 8 1039],fun _ _=>⟨_,_,rfl,⟨_,rfl⟩,_,_,rfl,⟨_,rfl⟩,rfl⟩,?kb⟩ ?kk ?kl ⟨_,_,.nil,?_⟩)
 case kc=>kernel_rfl
 case ki=>kernel_rfl
 case kk=>kernel_rfl
 case kl=>kernel_rfl
 case kb=>walk_at "kb"
 walk_at "v"
 refine newU2 (fI:=535) (k1:=2) (Eq.refl true) (Eq.refl true) (fun x=>flattener_init _ x g) fun x cn sp=>?_
 walk_at "v"
 ·have:=sgs_len (b:=b) (c:=c) (q0:=q0) (ps:=ps);walk_at "o"
 refine forL.mk ?_
 walk_at "v"
 refine callN1 (take_mv X hb hb2 (hQ q0 (.head _)).1 (hQ q0 (.head _)).2) (Eq.refl true) .allL fun sp1=>?_
 walk_at "v"
 refine forL_pre (f:=fun q=>segS b (.ln q)) (fun r sl led=>∃ (o:Option SV) (pi:List (Int × Int)) (pl:Int × Int),sl=[some (.lst (sgs b c q0 ps)),some IdM,some (.int g),some (.int 1),some (.int 8),some (.ref x),o]∧q0::ps=pi++[pl]++r ∧
  led=[(sp1,.lst ((pi.map (FineP b (g * 256))++[FineP b (g * 256) pl]).map spS)),(cn,.lst []),(x,FL (g * 256) cn (ptS b q0) (ptS b pl) (.ref sp1))]) ?_ ?_ ps _ _ ⟨_,[],q0,rfl,rfl,rfl⟩
 ·intro sl led hh
  apply invL3_e hh
  intro o pi pl hp
  clear hh
  rw [List.append_nil] at hp
  have hl:2≤(pi.map (FineP b (g * 256))++[FineP b (g * 256) pl]).length∧(pi.map (FineP b (g * 256))++[FineP b (g * 256) pl]).length≤20:=by
   have:=congrArg List.length hp
   simp at this ⊢
   walk_at "o"
  have hE:(q0::ps).map (FineP b (g * 256))=pi.map (FineP b (g * 256))++[FineP b (g * 256) pl]:=by rw [hp];simp
  cases c with
  | false =>
   walk_at "v"
   refine callN2 (end_some X hl.1 hl.2) (Eq.refl true) .allL fun sp2 rs hs=>?_
   walk_at "v"
   exact ⟨_,_,.one (.left .allR) FzM.refl (.keep .nil) (.one (.right (.left .nil)) FzM.refl (.keep .nil) (.one (.left .nil) .nil (.swap .nil) .nil)),rfl,rs,rfl,hE▸hs⟩
  | true =>
   walk_at "v"
   refine callN2 (take_cl X hl.1 hl.2) (Eq.refl true) .allL fun sp2 rs hs=>?_
   walk_at "v"
   refine callN1 (end_nil X) (Eq.refl true) .allL fun sp3=>?_
   walk_at "v"
   exact ⟨_,_,.one (.left .allR) FzM.refl (.keep .nil) (.one (.right (.left .nil)) FzM.refl (.keep .nil) (.one (.left .nil) .nil (.swap .nil) .nil)),rfl,rs,rfl,hE▸hs⟩
 ·intro q r sl led hh ih
  apply invL3_e hh
  intro o pi pl hp
  clear hh
  have hq:=hQ q (by rw [hp];simp)
  have hz:pi.length≤20:=by
   have:=congrArg List.length hp
   simp at this
   walk_at "o"
  walk_at "v"
  refine callE (take_ln X (by simpa using hz) hb hb2 hq.1 hq.2) (Eq.refl true) .allL ?_
  walk_at "v"
  exact ih _ _ ⟨_,pi++[pl],q,rfl,by rw [hp];simp,by simp⟩
theorem nil_ne {rs:List (Int × Int)}(h:rs≠[]):isNil (rs.map spS)=false:=by
 cases rs with
 | nil=>exact absurd rfl h
 | cons=>rfl
theorem box_of_fn {rs:List (Int × Int)}{c:SV}(hn:rs≠[])(hn2:rs.length≤20) :
  Fn X 280 [.lst [.tup [.tup (rs.map spS),c]]] [] 12 fun r l=>l=[]∧∃ x0 y0 x1 y1,r=.tup [.int x0,.int y0,.int x1,.int y1]∧LeastOf x0 (rs.map (·.1))∧LeastOf y0 (rs.map (·.2))∧MostOf x1 (rs.map (·.1))∧MostOf y1 (rs.map (·.2)):=by
 have h1:rs.map (·.1)≠[]:=by simpa using hn
 have h2:rs.map (·.2)≠[]:=by simpa using hn
 have z1:(rs.map (·.1)).length≤100:=by rw [List.length_map];walk_at "o"
 have z2:(rs.map (·.2)).length≤100:=by rw [List.length_map];walk_at "o"
 have z:(rs.map spS).length≤1000:=by rw [List.length_map];walk_at "o"
 refine' FnG.of_body n_box_of m_box_of i_box_of [] ?kc ?ki ⟨[],fun _ _=>rfl,?kb⟩ ?kk ?kl ⟨_,_,.nil,?_⟩
 walk_at "vin"
 walk_at "v"
 refine compW.mk ?_
 walk_at "v"
 ·exact z
 refine nilEq_i .fr sp_plain ?_
 walk_at "v"
 refine ifB_ff (nil_ne hn) ?_
 walk_at "v"
 ·exact z
 refine compL_to (f:=spS) (g:=fun q=>.int q.1) ((rs.map (·.1)).map .int) (by simp) (fun q _ k2 h=>?_) ?_
 ·walk_at "v"
  exact h
 walk_at "v"
 ·exact z
 refine compL_to (f:=spS) (g:=fun q=>.int q.2) ((rs.map (·.2)).map .int) (by simp) (fun q _ k2 h=>?_) ?_
 ·walk_at "v"
  exact h
 walk_at "v"
 refine extr_i rfl z1 h1 fun x0 m0 k0=>?_
 walk_at "v"
 refine extr_i rfl z2 h2 fun y0 m1 k1=>?_
 walk_at "v"
 refine extr_i rfl z1 h1 fun x1 m2 k2=>?_
 walk_at "v"
 refine extr_i rfl z2 h2 fun y1 m3 k3=>?_
 walk_at "v"
 exact ⟨_,_,.nil,rfl,x0,y0,x1,y1,rfl,⟨m0,k0⟩,⟨m1,k1⟩,⟨m2,k2⟩,m3,k3⟩
theorem shapebox_init (x:Addr)(a b c d:SV):Fn X 680 [.ref x,a,b,c,d] [(x,.inst 697 [] [])] 2 fun r l=>r=.none∧l=[(x,.inst 697 [6,7,8,9] [a,b,c,d])]:=by
 refine' FnG.of_body n_ShapeBox___init m_ShapeBox___init i_ShapeBox___init [] ?kc ?ki ⟨[],fun _ _=>rfl,?kb⟩ ?kk ?kl ⟨_,_,.nil,?_⟩
 walk_at "vin"
 walk_at "v"
noncomputable abbrev Box (a b c d:SV):SV:=.obj 697 [6,7,8,9] [a,b,c,d]
theorem box_flat_fn {x y:SV}{w w' h h':Int}:FnV X 687 [Box x y (.tup [.int w,.int w']) (.tup [.int h,.int h'])] 2 (.bool (decide (w=0) || decide (h=0))):=by
 refine' FnG.of_body n_ShapeBox_is_flat m_ShapeBox_is_flat i_ShapeBox_is_flat [] ?kc ?ki ⟨[],fun _ _=>rfl,?kb⟩ ?kk ?kl ⟨_,_,.nil,?_⟩
 walk_at "vin"
 walk_at "v"
 ·exact ⟨_,_,.nil,by rw [decide_eq_true h];exact ⟨rfl,rfl⟩⟩
 ·exact ⟨_,_,.nil,by rw [decide_eq_false h];exact ⟨rfl,rfl⟩⟩
noncomputable abbrev RR (b g U:Int):Int:=Rnd (Fine b (g * 256) U)
theorem fdiv_mono {a b c:Int}(hc:0 < c)(h:a≤b):a.fdiv c≤b.fdiv c:=by
 rw [Int.fdiv_eq_ediv_of_nonneg _ (Int.le_of_lt hc),Int.fdiv_eq_ediv_of_nonneg _ (Int.le_of_lt hc)]
 exact Int.ediv_le_ediv hc h
theorem RR_mono {b g U V:Int}(hb:0 < b)(hg:0 < g)(h:U≤V):RR b g U≤RR b g V:=by
 have h1:U * (g * 256)≤V * (g * 256):=Int.mul_le_mul_of_nonneg_right h (by walk_at "o")
 have h2:Fine b (g * 256) U≤Fine b (g * 256) V:=fdiv_mono (by walk_at "o") (by walk_at "o")
 exact fdiv_mono (by walk_at "o") (by walk_at "o")
theorem least_RR {b g:Int}(hb:0 < b)(hg:0 < g){l:List Int}{x y:Int}(h:LeastOf x l)(k:LeastOf y (l.map (RR b g))):y=RR b g x:=by
 refine el1a2 (iM k.1) fun z hz e=>?_
 have h1:=RR_mono hb hg (h.2 z hz)
 have h2:=k.2 _ (List.mem_map_of_mem h.1)
 walk_at "o"
theorem most_RR {b g:Int}(hb:0 < b)(hg:0 < g){l:List Int}{x y:Int}(h:MostOf x l)(k:MostOf y (l.map (RR b g))):y=RR b g x:=by
 refine el1a2 (iM k.1) fun z hz e=>?_
 have h1:=RR_mono hb hg (h.2 z hz)
 have h2:=k.2 _ (List.mem_map_of_mem h.1)
 walk_at "o"
theorem LeastOf.congr {l m:List Int}(h:∀ x,x∈l↔x∈m){x:Int}(k:LeastOf x l):LeastOf x m:=⟨(h x).mp k.1,fun y hy=>k.2 y ((h y).mpr hy)⟩
theorem MostOf.congr {l m:List Int}(h:∀ x,x∈l↔x∈m){x:Int}(k:MostOf x l):MostOf x m:=⟨(h x).mp k.1,fun y hy=>k.2 y ((h y).mpr hy)⟩
theorem same_map {rs qs:List (Int × Int)}(h:∀ q,q∈rs↔q∈qs)(f:Int × Int→Int)(x:Int):x∈rs.map f↔x∈qs.map f:=by simp only [List.mem_map,h]
noncomputable def GrainOk (b sx sy g:Int):Prop:=(g % 64=0∧64≤g∧g≤2048 * b)∧(0 < sx→1024 * b≤sx * g)∧(0 < sy→1024 * b≤sy * g)
noncomputable abbrev BoxR (b g x0 y0 x1 y1:Int):SV:=Box (frS (RR b g x0) g) (frS (RR b g y0) g) (frS (RR b g x1 - RR b g x0) g) (frS (RR b g y1 - RR b g y0) g)
noncomputable def sgL (c:Bool)(q0:Int × Int)(ps:List (Int × Int)):List Sg:=.mv q0::(ps.map .ln++if c then [.cl] else [])
theorem sgL_map {c:Bool}{q0:Int × Int}{ps:List (Int × Int)}:(sgL c q0 ps).map (segS b)=sgs b c q0 ps:=by
 cases c <;> simp [sgL,sgs]
theorem sgL_pts {c:Bool}{q0:Int × Int}{ps:List (Int × Int)}:(sgL c q0 ps).flatMap ptOf=q0::ps:=by
 have:∀ l:List (Int × Int),l.flatMap (fun q=>ptOf (.ln q))=l:=fun l=>by induction l with
  | nil=>rfl
  | cons x l ih=>simp only [List.flatMap_cons,ih];rfl
 cases c <;> simp [sgL,List.flatMap_append,List.flatMap_map,this,ptOf]
theorem shape_box_fn {c:Bool}{q0:Int × Int}{ps:List (Int × Int)}(hb:0 < b)(hb2:b≤3000000000)(hn:1≤ps.length)(hn2:ps.length≤6)(hbd:∀ q∈q0::ps,-10000000000 < q.1∧q.1 < 10000000000∧-1000 < q.2∧q.2 < 1000) :
  Fn X 720 [.lst (sgs b c q0 ps)] [] 60 fun r l=>l=[]∧∃ g x0 y0 x1 y1,r=BoxR b g x0 y0 x1 y1∧GrainOk b (x1 - x0) (y1 - y0) g∧LeastOf x0 ((q0::ps).map (·.1))∧LeastOf y0 ((q0::ps).map (·.2))∧MostOf x1 ((q0::ps).map (·.1))∧MostOf y1 ((q0::ps).map (·.2)):=by
 refine' FnG.of_body n_shape_box m_shape_box i_shape_box [] ?kc ?ki ⟨[],fun _ _=>rfl,?kb⟩ ?kk ?kl ⟨_,_,.nil,?_⟩
 walk_at "vin"
 walk_at "v"
 have hG:=box_grain_fn (X.on False) hb hb2 (sgs:=sgL c q0 ps) (by cases c <;> simp [sgL] <;> walk_at "o") sgL_pts hbd
 rw [sgL_map] at hG
 refine callX5 hG (Eq.refl true) .allR fun g x0 y0 x1 y1 hqq=>?_
 refine el0a7 hqq fun k0 k1 k2 k3 hg gx gy=>?_
 clear hqq hG
 have hgp:0 < g:=by walk_at "o"
 have hg2:g < 2 ^ 200:=by walk_at "o"
 walk_at "v"
 refine callV (identity_fn _) (Eq.refl true) ?_
 walk_at "v"
 refine callX1 (flattened_fn _ hb (by walk_at "o") hn (by walk_at "o") hbd) (Eq.refl true) .allR fun rs hs=>?_
 have hm:=hs.1
 have hr:rs≠[]:=by
  rintro rfl
  have:=(hm (RndP (FineP b (g * 256) q0))).mpr (by simp)
  cases this
 walk_at "v"
 refine callW (.tup [.int (RR b g x0),.int (RR b g y0),.int (RR b g x1),.int (RR b g y1)]) [] (box_of_fn _ hr hs.2) (Eq.refl true) .allR (fun r l hqq=>?_) ?_
 ·refine ⟨?_,hqq.1⟩
  refine el4a5 hqq.2 fun X0 Y0 X1 Y1 e m0 m1 m2 m3=>?_
  have e1:((((q0::ps).map (FineP b (g * 256))).map RndP).map (·.1))=((q0::ps).map (·.1)).map (RR b g):=by rw [List.map_map,List.map_map,List.map_map];rfl
  have e2:((((q0::ps).map (FineP b (g * 256))).map RndP).map (·.2))=((q0::ps).map (·.2)).map (RR b g):=by rw [List.map_map,List.map_map,List.map_map];rfl
  rw [e,least_RR (y:=X0) hb hgp k0 (e1▸m0.congr (same_map hm _)),least_RR (y:=Y0) hb hgp k1 (e2▸m1.congr (same_map hm _)),most_RR (y:=X1) hb hgp k2 (e1▸m2.congr (same_map hm _)),most_RR (y:=Y1) hb hgp k3 (e2▸m3.congr (same_map hm _))]
 clear hr hs hm
 walk_at "v"
 refine callV (fraction_fn _ _ _ hgp hg2) (Eq.refl true) ?_
 walk_at "v"
 refine callV (fraction_fn _ _ _ hgp hg2) (Eq.refl true) ?_
 walk_at "v"
 refine callV (fraction_fn _ _ _ hgp hg2) (Eq.refl true) ?_
 walk_at "v"
 refine callV (fraction_fn _ _ _ hgp hg2) (Eq.refl true) ?_
 walk_at "v"
 refine newF (fI:=680) (k1:=2) (Eq.refl true) (Eq.refl true) (fun x=>shapebox_init _ x _ _ _ _) ?_
 walk_at "v"
 exact ⟨_,_,.nil,rfl,g,x0,y0,x1,y1,rfl,⟨hg,gx,gy⟩,k0,k1,k2,k3⟩
end
end
section
theorem RR_near {b g X:Int}(hb:0 < b)(hg:0 < g):-(257 * b)≤512 * (RR b g X * b - X * g)∧512 * (RR b g X * b - X * g)≤257 * b:=by
 unfold RR Rnd Fine
 obtain ⟨h1,h2⟩:=fdiv_le (n:=2 * (X * (g * 256))+b) (f:=2 * b) (by walk_at "o")
 generalize (2 * (X * (g * 256))+b).fdiv (2 * b)=F at *
 obtain ⟨h3,h4⟩:=fdiv_le (n:=2 * F+256) (f:=2 * 256) (by walk_at "o")
 generalize (2 * F+256).fdiv (2 * 256)=R at *
 have e1:X * (g * 256)=256 * (X * g):=by rw [← Int.mul_assoc,Int.mul_comm]
 rw [e1] at h1 h2
 generalize X * g=Z at *
 have m1:b * (2 * 256 * R)≤b * (2 * F+256):=Int.mul_le_mul_of_nonneg_left h3 (by walk_at "o")
 have m2:b * (2 * F+256)≤b * (2 * 256 * R+2 * 256):=Int.mul_le_mul_of_nonneg_left (by walk_at "o") (by walk_at "o")
 have e2:b * (2 * 256 * R)=512 * (R * b):=by grind
 have e3:b * (2 * F+256)=2 * b * F+256 * b:=by grind
 have e4:b * (2 * 256 * R+2 * 256)=512 * (R * b)+512 * b:=by grind
 rw [e2] at m1
 rw [e4] at m2
 rw [e3] at m1 m2
 generalize R * b=RB at *
 generalize 2 * b * F=BF at *
 walk_at "o"
theorem RR_exact {b g X:Int}(hb:0 < b)(hg:g % 64=0)(h64:(64:Int).fmod b=0):RR b g X * b=X * g:=by
 have hd:b ∣ 64:=by
  rw [Int.fmod_eq_emod_of_nonneg _ (Int.le_of_lt hb)] at h64
  exact Int.dvd_of_emod_eq_zero h64
 obtain ⟨k,hk⟩:=Int.dvd_trans hd (Int.dvd_of_emod_eq_zero hg)
 subst hk
 have e1:2 * (X * (b * k * 256))+b=b * (2 * (X * k * 256)+1):=by grind
 have f1:Fine b (b * k * 256) X=X * k * 256:=by
  unfold Fine
  rw [e1,show 2 * b=b * 2 by walk_at "o",fdiv_scale hb (by walk_at "o")]
  rw [Int.fdiv_eq_ediv_of_nonneg _ (by walk_at "o")]
  walk_at "o"
 unfold RR
 rw [f1]
 unfold Rnd
 have f2:(2 * (X * k * 256)+256).fdiv (2 * 256)=X * k:=by
  rw [Int.fdiv_eq_ediv_of_nonneg _ (by walk_at "o")]
  walk_at "o"
 rw [f2]
 grind
theorem RR_gap {b g X Y:Int}(hb:0 < b)(hg:0 < g)(h:1024 * b≤(Y - X) * g):0 < RR b g Y - RR b g X:=by
 have h1:=RR_near (X:=X) hb hg
 have h2:=RR_near (X:=Y) hb hg
 have e:(Y - X) * g=Y * g - X * g:=Int.sub_mul ..
 rw [e] at h
 have:0 < (RR b g Y - RR b g X) * b:=by rw [Int.sub_mul];walk_at "o"
 exact Int.pos_of_mul_pos_left this (by walk_at "o")
theorem nT_zero {P q:Int}(hq:0 < q):nT P q=0↔P=0:=by
 have h:=nT_mul (p:=P) (q:=q)
 have g:=gcd_pos (p:=P) hq
 constructor
 ·intro e;rw [e,Int.mul_zero] at h;exact h.symm
 ·intro e
  subst e
  rcases Int.mul_eq_zero.mp h with h | h
  ·walk_at "o"
  ·exact h
theorem flat_side {b g X Y:Int}(hb:0 < b)(hg:0 < g)(hXY:X≤Y)(h:0 < Y - X→1024 * b≤(Y - X) * g):nT (RR b g Y - RR b g X) g=0↔0=Y - X:=by
 rw [nT_zero hg]
 constructor
 ·intro e
  rcases Int.lt_or_le 0 (Y - X) with h0 | h0
  ·have:=RR_gap hb hg (h h0);walk_at "o"
  ·walk_at "o"
 ·intro e
  have:Y=X:=by walk_at "o"
  rw [this];walk_at "o"
noncomputable def RowOk (b g sx sy p q number many:Int):Prop:=0 < q∧q < 2 ^ 61∧(-(2 ^ 61) < p∧p < 2 ^ 61)∧(-(2 ^ 61) < number∧number < 2 ^ 61)∧(many=2000∨many=1000∨many=127)∧((64:Int).fmod b=0→p * b=number * q) ∧
 (∀ M,(M=sx∨M=sy)→0 < M→(if p * b - number * q < 0 then -(p * b - number * q) else p * b - number * q) * many≤M * q)∧(sx=0→sy=0→(if p * b - number * q < 0 then -(p * b - number * q) else p * b - number * q) * 127≤b * q)
theorem row_core {b g P n many:Int}(hb:0 < b)(hg:0 < g)(hP:-(2 ^ 60) < P∧P < 2 ^ 60):∀ (M:Int),0≤many→(P * b - n * g) * many≤M * g→(-(P * b - n * g)) * many≤M * g →
  (if nT P g * b - n * nB P g < 0 then -(nT P g * b - n * nB P g) else nT P g * b - n * nB P g) * many≤M * nB P g:=by
 intro M hm h1 h2
 have hx:=nT_cross (p:=P) (q:=g)
 have hq:=nB_pos (p:=P) hg
 generalize nT P g=p at *
 generalize nB P g=q at *
 have key:∀ D:Int,D * g=(P * b - n * g) * q→(D * many≤M * q)∧(-D * many≤M * q):=by
  intro D hD
  constructor
  ·refine Int.le_of_mul_le_mul_right (a:=g) ?_ hg
   have e1:D * many * g=(P * b - n * g) * many * q:=by
    have:D * many * g=D * g * many:=by rw [Int.mul_right_comm]
    rw [this,hD,Int.mul_right_comm]
   have e2:M * q * g=M * g * q:=Int.mul_right_comm ..
   rw [e1,e2]
   exact Int.mul_le_mul_of_nonneg_right h1 (Int.le_of_lt hq)
  ·refine Int.le_of_mul_le_mul_right (a:=g) ?_ hg
   have e1:-D * many * g=-(P * b - n * g) * many * q:=by
    have:-D * many * g=-(D * g) * many:=by rw [Int.mul_right_comm,Int.neg_mul]
    rw [this,hD,← Int.neg_mul,Int.mul_right_comm]
   have e2:M * q * g=M * g * q:=Int.mul_right_comm ..
   rw [e1,e2]
   exact Int.mul_le_mul_of_nonneg_right h2 (Int.le_of_lt hq)
 have hD:(p * b - n * q) * g=(P * b - n * g) * q:=by
  have:p * b * g=P * b * q:=by
   rw [Int.mul_right_comm p b g,hx,Int.mul_right_comm]
  rw [Int.sub_mul,Int.sub_mul,this,Int.mul_right_comm n q g]
 split
 ·exact (key _ hD).2
 ·exact (key _ hD).1
theorem RR_bnd {b g X:Int}(hb:0 < b)(hg:0 < g)(hg2:g≤2048 * b)(hX:-10000000000 < X∧X < 10000000000):-(2 ^ 46) < RR b g X∧RR b g X < 2 ^ 46:=by
 have h1:=RR_near (X:=X) hb hg
 have e1:X * g≤10000000000 * g:=Int.mul_le_mul_of_nonneg_right (by walk_at "o") (by walk_at "o")
 have e2:-10000000000 * g≤X * g:=Int.mul_le_mul_of_nonneg_right (by walk_at "o") (by walk_at "o")
 constructor
 ·refine Int.lt_of_not_ge fun hc=>?_
  have:RR b g X * b≤-(2 ^ 46) * b:=Int.mul_le_mul_of_nonneg_right hc (by walk_at "o")
  walk_at "o"
 ·refine Int.lt_of_not_ge fun hc=>?_
  have:2 ^ 46 * b≤RR b g X * b:=Int.mul_le_mul_of_nonneg_right hc (by walk_at "o")
  walk_at "o"
theorem row_place {b g sx sy X:Int}(hb:0 < b)(hb2:b≤3000000000)(hG:GrainOk b sx sy g)(hX:-10000000000 < X∧X < 10000000000):RowOk b g sx sy (nT (RR b g X) g) (nB (RR b g X) g) X 2000:=by
 obtain ⟨⟨g1,g2,g3⟩,hx,hy⟩:=hG
 have hg:0 < g:=by walk_at "o"
 have hn:=RR_near (X:=X) hb hg
 have hr:=RR_bnd hb hg g3 hX
 have ht:=nT_lt (p:=RR b g X) (q:=g) (M:=2 ^ 46) hg hr.1 hr.2
 have hq:=nB_pos (p:=RR b g X) hg
 have hq2:=nB_le (p:=RR b g X) hg
 refine ⟨hq,by walk_at "o",by walk_at "o",by walk_at "o",.inl rfl,fun h64=>?_,fun M hM h0=>?_,fun e1 e2=>?_⟩
 ·have e:=RR_exact (X:=X) hb g1 h64
  have hc:=nT_cross (p:=RR b g X) (q:=g)
  have:nT (RR b g X) g * b * g=X * nB (RR b g X) g * g:=by
   rw [Int.mul_right_comm,hc,Int.mul_right_comm,e,Int.mul_right_comm]
  exact Int.eq_of_mul_eq_mul_right (by walk_at "o") this
 ·have hM2:1024 * b≤M * g:=by
   rcases hM with rfl | rfl
   ·exact hx h0
   ·exact hy h0
  exact row_core hb hg (by walk_at "o") M (by walk_at "o") (by walk_at "o") (by walk_at "o")
 ·have hgb:64 * b≤b * g:=by rw [Int.mul_comm 64 b];exact Int.mul_le_mul_of_nonneg_left g2 (by walk_at "o")
  exact row_core hb hg (by walk_at "o") b (by walk_at "o") (by walk_at "o") (by walk_at "o")
theorem row_side {b g sx sy X Y:Int}(hb:0 < b)(hb2:b≤3000000000)(hG:GrainOk b sx sy g)(hX:-10000000000 < X∧X < 10000000000)(hY:-10000000000 < Y∧Y < 10000000000)(hs:Y - X=sx∨Y - X=sy) :
  RowOk b g sx sy (nT (RR b g Y - RR b g X) g) (nB (RR b g Y - RR b g X) g) (Y - X) 1000:=by
 obtain ⟨⟨g1,g2,g3⟩,hx,hy⟩:=hG
 have hg:0 < g:=by walk_at "o"
 have hn:=RR_near (X:=X) hb hg
 have hn2:=RR_near (X:=Y) hb hg
 have hr:=RR_bnd hb hg g3 hX
 have hr2:=RR_bnd hb hg g3 hY
 have ht:=nT_lt (p:=RR b g Y - RR b g X) (q:=g) (M:=2 ^ 47) hg (by walk_at "o") (by walk_at "o")
 have hq:=nB_pos (p:=RR b g Y - RR b g X) hg
 have hq2:=nB_le (p:=RR b g Y - RR b g X) hg
 have e0:(RR b g Y - RR b g X) * b - (Y - X) * g=(RR b g Y * b - Y * g) - (RR b g X * b - X * g):=by
  rw [Int.sub_mul,Int.sub_mul];walk_at "o"
 refine ⟨hq,by walk_at "o",by walk_at "o",by walk_at "o",.inr (.inl rfl),fun h64=>?_,fun M hM h0=>?_,fun e1 e2=>?_⟩
 ·have e:=RR_exact (X:=X) hb g1 h64
  have e':=RR_exact (X:=Y) hb g1 h64
  have hc:=nT_cross (p:=RR b g Y - RR b g X) (q:=g)
  have e2:(RR b g Y - RR b g X) * b=(Y - X) * g:=by walk_at "o"
  have:nT (RR b g Y - RR b g X) g * b * g=(Y - X) * nB (RR b g Y - RR b g X) g * g:=by
   rw [Int.mul_right_comm,hc,Int.mul_right_comm,e2,Int.mul_right_comm]
  exact Int.eq_of_mul_eq_mul_right (by walk_at "o") this
 ·have hM2:1024 * b≤M * g:=by
   rcases hM with rfl | rfl
   ·exact hx h0
   ·exact hy h0
  exact row_core hb hg (by walk_at "o") M (by walk_at "o") (by walk_at "o") (by walk_at "o")
 ·have e3:Y=X:=by walk_at "o"
  subst e3
  have:(RR b g Y - RR b g Y) * b - (Y - Y) * g=0:=by simp
  exact row_core hb hg (by walk_at "o") b (by walk_at "o") (by rw [this];have:=Int.mul_pos hb hg;walk_at "o") (by rw [this];have:=Int.mul_pos hb hg;walk_at "o")
end
section
noncomputable def i_law_box_right:IS:=(.asgP 3 (.loc 0) (.op .tup (.cons (.op (.call 880) (.cons (.loc 14) (.cons (.loc 1) .nil))) (.cons (.op (.call 880) (.cons (.loc 15) (.cons (.loc 1) .nil))) .nil))) (.asg 4 (.op (.bin .Add) (.cons (.op (.bin .Add) (.cons (.op .lst (.cons (.op .tup (.cons (.cst (.str "move")) (.cons (.op .item (.cons (.loc 3) (.cons (.cst (.int 0)) .nil))) .nil))) .nil)) (.cons (.comp (.op (.slc (some 1) none) (.cons (.loc 3) .nil)) (.op .tup (.cons (.cst (.str "line")) (.cons (.loc 14) .nil)))) .nil))) (.cons (.op (.bin .Mult) (.cons (.op .lst (.cons (.op .tup (.cons (.cst (.str "close")) .nil)) .nil)) (.cons (.op (.bi .int) (.cons (.loc 2) .nil)) .nil))) .nil))) (.asg 5 (.op (.call 720) (.cons (.loc 4) .nil)) (.unp [6,7] (.op .tup (.cons (.compP (.loc 0) (.loc 14)) (.cons (.compP (.loc 0) (.loc 15)) .nil))) (.asg 8 (.op .lst (.cons (.op (.bin .Sub) (.cons (.op (.bi .max) (.cons (.loc 6) .nil)) (.cons (.op (.bi .min) (.cons (.loc 6) .nil)) .nil))) (.cons (.op (.bin .Sub) (.cons (.op (.bi .max) (.cons (.loc 7) .nil)) (.cons (.op (.bi .min) (.cons (.loc 7) .nil)) .nil))) .nil))) (.ifS (.op (.cmp .NotEq) (.cons (.meth 687 3 (.loc 5) .nil) (.cons (.op (.cmp .In) (.cons (.cst (.int 0)) (.cons (.loc 8) .nil))) .nil))) (.ret (.cst (.bool false))) .nil (.asg 9 (.op .lst (.cons (.op .tup (.cons (.op (.attr 6) (.cons (.loc 5) .nil)) (.cons (.op (.bi .min) (.cons (.loc 6) .nil)) (.cons (.cst (.int 2000)) .nil)))) (.cons (.op .tup (.cons (.op (.attr 7) (.cons (.loc 5) .nil)) (.cons (.op (.bi .min) (.cons (.loc 7) .nil)) (.cons (.cst (.int 2000)) .nil)))) .nil))) (.asg 9 (.op (.bin .Add) (.cons (.loc 9) (.cons (.op .lst (.cons (.op .tup (.cons (.op (.attr 8) (.cons (.loc 5) .nil)) (.cons (.op .item (.cons (.loc 8) (.cons (.cst (.int 0)) .nil))) (.cons (.cst (.int 1000)) .nil)))) (.cons (.op .tup (.cons (.op (.attr 9) (.cons (.loc 5) .nil)) (.cons (.op .item (.cons (.loc 8) (.cons (.cst (.int 1)) .nil))) (.cons (.cst (.int 1000)) .nil)))) .nil))) .nil))) (.asgT 10 (.loc 8) (.op (.cmp .Gt) (.cons (.loc 14) (.cons (.cst (.int 0)) .nil))) (.loc 14) (.forS [11,12,13] false (.loc 9) (.ifS (.and (.op (.cmp .Eq) (.cons (.op (.bin .Mod) (.cons (.cst (.int 64)) (.cons (.loc 1) .nil))) (.cons (.cst (.int 0)) .nil))) (.op (.cmp .NotEq) (.cons (.op (.bin .Mult) (.cons (.op .item (.cons (.loc 11) (.cons (.cst (.int 0)) .nil))) (.cons (.loc 1) .nil))) (.cons (.op (.bin .Mult) (.cons (.loc 12) (.cons (.op .item (.cons (.loc 11) (.cons (.cst (.int 1)) .nil))) .nil))) .nil)))) (.ret (.cst (.bool false))) .nil (.ifS (.and (.op (.cmp .NotEq) (.cons (.loc 10) (.cons (.op .lst .nil) .nil))) (.not (.op (.call 887) (.cons (.loc 11) (.cons (.loc 12) (.cons (.loc 1) (.cons (.op (.bi .min) (.cons (.loc 10) .nil)) (.cons (.loc 13) .nil)))))))) (.ret (.cst (.bool false))) .nil (.ifS (.and (.op (.cmp .Eq) (.cons (.loc 10) (.cons (.op .lst .nil) .nil))) (.not (.op (.call 887) (.cons (.loc 11) (.cons (.loc 12) (.cons (.loc 1) (.cons (.loc 1) (.cons (.cst (.int 127)) .nil)))))))) (.ret (.cst (.bool false))) .nil .nil))) (.ret (.cst (.bool true)))))))))))))
noncomputable def n_law_box_right:List Str:=["places","bottom","is_closed","points","segments","box","across","down","sides","rows","some","told","number","many"]
noncomputable def m_law_box_right:List Str:=[]
theorem compT_map0 {α:Type}{F:SV→MLd→(Bool→MLd→Prop)→Prop}{G:SV→MLd→(SV→MLd→Prop)→Prop}{k:List SV→MLd→Prop}{led:MLd}{f g:α→SV}(p:α→Bool):∀ (l:List α) (acc:List SV),
  (∀ x∈l,∀ k2:Bool→MLd→Prop,k2 (p x) led→F (f x) led k2)→(∀ x∈l,∀ k2:SV→MLd→Prop,k2 (g x) led→G (f x) led k2)→k (acc++(l.filter p).map g) led→compT0 F G (l.map f) acc led k
 | [],acc,_,_,c=>by simpa [compT0] using c
 | x::r,acc,h1,h2,c=>h1 x (.head _) _ (by
  rw [List.filter_cons] at c
  constructor
  ·intro e
   rw [e] at c
   exact h2 x (.head _) _ (snocK_i (compT_map0 p r (acc++[g x]) (fun y hy=>h1 y (.tail _ hy)) (fun y hy=>h2 y (.tail _ hy)) (by simpa using c)))
  ·intro e
   rw [e] at c
   exact compT_map0 p r acc (fun y hy=>h1 y (.tail _ hy)) (fun y hy=>h2 y (.tail _ hy)) (by simpa using c))
theorem compT_map {α:Type}{F:SV→MLd→(Bool→MLd→Prop)→Prop}{G:SV→MLd→(SV→MLd→Prop)→Prop}{k:List SV→MLd→Prop}{led:MLd}{f g:α→SV}(p:α→Bool)(l:List α)(acc:List SV)
  (h1:∀ x∈l,∀ k2:Bool→MLd→Prop,k2 (p x) led→F (f x) led k2) (h2:∀ x∈l,∀ k2:SV→MLd→Prop,k2 (g x) led→G (f x) led k2) (c:k (acc++(l.filter p).map g) led):compT F G (l.map f) acc led k:=⟨compT_map0 p l acc h1 h2 c⟩
theorem mulL_c {c:Bool}{x:SV}:(if c=true then (1:Int) else 0)=0∧(if c=true then [x] else [])=[]∨(if c=true then (1:Int) else 0)=1∧(if c=true then [x] else [])=[x]:=by
 cases c
 ·exact .inl ⟨rfl,rfl⟩
 ·exact .inr ⟨rfl,rfl⟩
theorem most_is {x M:Int}{l:List Int}(h:MostOf x l)(h1:M∈l)(h2:∀ y∈l,y≤M):x=M:=Int.le_antisymm (h2 _ h.1) (h.2 _ h1)
theorem least_is {x M:Int}{l:List Int}(h:LeastOf x l)(h1:M∈l)(h2:∀ y∈l,M≤y):x=M:=Int.le_antisymm (h.2 _ h1) (h2 _ h.1)
theorem int_plain {l:List Int}:∀ v∈l.map SV.int,plainV 3 v:=fun v hv=>by
 obtain ⟨q,_,rfl⟩:=iM hv;exact (by first | exact plainI | exact plain2 plainI plainI | exact plain2 (plain2 plainI plainI) plainI | exact plain2 (plain2 plainI plainI) (plain2 plainI plainI))
theorem ifB_false {c:Bool}{p q:Prop}(h:c=false)(k:q):ifB c p q:=h▸ifB_f k
structure Row where
 p:Int
 q:Int
 n:Int
 m:Int
noncomputable abbrev rowS (r:Row):SV:=.tup [.tup [.int r.p,.int r.q],.int r.n,.int r.m]
theorem most_i {l:List Int}{x:Int}{l':List SV}{Q:Int→Prop}(m:MostOf x l)(e:l'=l.map SV.int)(z:l.length≤100)(n:l≠[])(q:Q x):ex1 (fun ns:List Int=>l'=ns.map SV.int) fun ns=>ns.length≤100∧ns≠[]∧∀ M,M∈ns→(∀ x∈ns,x≤M)→Q M:=⟨l,e,z,n,fun M h1 h2=>most_is m h1 h2▸q⟩
theorem least_i {l:List Int}{x:Int}{l':List SV}{Q:Int→Prop}(m:LeastOf x l)(e:l'=l.map SV.int)(z:l.length≤100)(n:l≠[])(q:Q x):ex1 (fun ns:List Int=>l'=ns.map SV.int) fun ns=>ns.length≤100∧ns≠[]∧∀ M,M∈ns→(∀ x∈ns,M≤x)→Q M:=⟨l,e,z,n,fun M h1 h2=>least_is m h1 h2▸q⟩
noncomputable def SlR (b:Int)(sm:List Int)(sl:Sl):Prop:=∃ (a0 a2 a3 a4 a5 a6 a7 a8 a9:SV) (o1 o2 o3:Option SV),sl=[some a0,some (.int b),some a2,some a3,some a4,some a5,some a6,some a7,some a8,some a9,some (.lst (sm.map .int)),o1,o2,o3]
theorem SlR.i {b:Int}{sm:List Int}{a0 a2 a3 a4 a5 a6 a7 a8 a9:SV}{o1 o2 o3:Option SV}:SlR b sm [some a0,some (.int b),some a2,some a3,some a4,some a5,some a6,some a7,some a8,some a9,some (.lst (sm.map .int)),o1,o2,o3]:=⟨_,_,_,_,_,_,_,_,_,_,_,_,rfl⟩
theorem SlR.e {C:Sl→MLd→Prop}{b:Int}{sm:List Int}{sl:Sl}{led:MLd}{p:Prop}(h:led=[]∧p∧SlR b sm sl)(k:p→∀ (a0 a2 a3 a4 a5 a6 a7 a8 a9:SV) (o1 o2 o3:Option SV),C [some a0,some (.int b),some a2,some a3,some a4,some a5,some a6,some a7,some a8,some a9,some (.lst (sm.map .int)),o1,o2,o3] []):C sl led:=by
 obtain ⟨rfl,hp,h⟩:=h
 refine el12a1 h fun _ _ _ _ _ _ _ _ _ _ _ _ e=>?_
 exact e▸k hp _ _ _ _ _ _ _ _ _ _ _ _
section
variable (X:Pw){b:Int}
theorem box_right_fn {c:Bool}{q0:Int × Int}{ps:List (Int × Int)}(hb:0 < b)(hb2:b≤3000000000)(hn:1≤ps.length)(hn2:ps.length≤6)(hbd:∀ q∈q0::ps,-10000000000 < q.1∧q.1 < 10000000000∧-1000 < q.2∧q.2 < 1000) :
  FnV X 892 [.lst ((q0::ps).map spS),.int b,.bool c] 80 (.bool true):=by
 have zz:∀ {f:Int × Int→SV},((q0::ps).map f).length≤7:=by simp;walk_at "o"
 refine' FnG.of_body n_law_box_right m_law_box_right i_law_box_right [] ?kc ?ki ⟨[],fun _ _=>rfl,?kb⟩ ?kk ?kl ⟨_,_,.nil,?_⟩
 walk_at "vin"
 walk_at "v"
 ·exact Nat.le_trans zz (by decide)
 refine compL_to (f:=spS) (g:=ptS b) ((q0::ps).map (ptS b)) rfl (fun q _ k2 h=>?_) ?_
 ·walk_at "v"
  refine callV (law_share_fn _ q.1 b hb (by walk_at "o")) (Eq.refl true) ?_
  walk_at "v"
  refine callV (law_share_fn _ q.2 b hb (by walk_at "o")) (Eq.refl true) ?_
  walk_at "v"
  exact h
 walk_at "v"
 refine ex1_i (ptS b q0) rfl ⟨Nat.le_trans zz (by decide),?_⟩
 walk_at "v"
 ·exact Nat.le_trans zz (by decide)
 ·simp;walk_at "o"
 refine compL_to (f:=ptS b) (g:=fun q=>segS b (.ln q)) (l:=ps) (ps.map fun q=>segS b (.ln q)) rfl (fun q _ k2 h=>?_) ?_
 ·walk_at "v"
  exact h
 walk_at "v"
 ·rw [List.length_map];walk_at "o"
 refine ex1_i _ mulL_c ?_
 walk_at "v"
 ·simp;walk_at "o"
 ·split <;> simp
 refine callX (shape_box_fn _ (c:=c) hb hb2 hn hn2 hbd) (Eq.refl true) .allR ?_
 intro r hqq
 refine el5a6 hqq fun g x0 y0 x1 y1 e1q hG m0 m1 m2 m3=>?_
 clear hqq
 subst e1q
 walk_at "v"
 ·exact Nat.le_trans zz (by decide)
 refine compL_to (f:=spS) (g:=fun q=>.int q.1) (((q0::ps).map (·.1)).map .int) (by rw [List.map_map];rfl) (fun q _ k2 h=>?_) ?_
 ·walk_at "v"
  exact h
 walk_at "v"
 ·exact Nat.le_trans zz (by decide)
 refine compL_to (f:=spS) (g:=fun q=>.int q.2) (((q0::ps).map (·.2)).map .int) (by rw [List.map_map];rfl) (fun q _ k2 h=>?_) ?_
 ·walk_at "v"
  exact h
 have z1:((q0::ps).map (·.1)).length≤100:=by simp;walk_at "o"
 have z2:((q0::ps).map (·.2)).length≤100:=by simp;walk_at "o"
 have n1:(q0::ps).map (·.1)≠[]:=fun h=>by cases h
 have n2:(q0::ps).map (·.2)≠[]:=fun h=>by cases h
 have bx:∀ {x:Int},x∈(q0::ps).map (·.1)→-10000000000 < x∧x < 10000000000:=fun h=>by obtain ⟨q,hq,rfl⟩:=iM h;exact ⟨(hbd q hq).1,(hbd q hq).2.1⟩
 have by':∀ {x:Int},x∈(q0::ps).map (·.2)→-10000000000 < x∧x < 10000000000:=fun h=>by obtain ⟨q,hq,rfl⟩:=iM h;have:=hbd q hq;walk_at "o"
 walk_at "v"
 refine most_i m2 rfl z1 n1 ?_
 walk_at "v"
 refine least_i m0 rfl z1 n1 ?_
 walk_at "v"
 refine most_i m3 rfl z2 n2 ?_
 walk_at "v"
 refine least_i m1 rfl z2 n2 ?_
 have hx:=m0.2 _ m2.1
 have hy:=m1.2 _ m3.1
 have hg:0 < g:=by have:=hG.1;walk_at "o"
 walk_at "v"
 refine callV (box_flat_fn _) (Eq.refl true) ?_
 walk_at "v"
 refine ex1_i [x1 - x0,y1 - y0] rfl ?_
 have hfl:(decide (nT (RR b g x1 - RR b g x0) g=0) || decide (nT (RR b g y1 - RR b g y0) g=0))=[x1 - x0,y1 - y0].any fun y=>y==0:=by
  have e1:=flat_side hb hg hx hG.2.1
  have e2:=flat_side hb hg hy hG.2.2
  rw [Bool.eq_iff_iff]
  simp only [e1,e2,beq_iff_eq,List.any_cons,List.any_nil,Bool.or_false,Bool.or_eq_true,decide_eq_true_eq]
  walk_at "o"
 walk_at "v"
 refine ifB_false (by rw [hfl];simp) ?_
 clear hfl
 walk_at "v"
 refine least_i m0 rfl z1 n1 ?_
 walk_at "v"
 refine least_i m1 rfl z2 n2 ?_
 walk_at "v"
 refine compT_map (f:=.int) (g:=.int) (fun z=>decide (0 < z)) [x1 - x0,y1 - y0] [] (fun z _ k2 h=>?_) (fun z _ k2 h=>?_) ?_
 ·walk_at "v"
  exact h
 ·walk_at "v"
  exact h
 rw [List.nil_append]
 have hM:∀ M,M∈[x1 - x0,y1 - y0].filter (fun z=>decide (0 < z))→(M=x1 - x0∨M=y1 - y0)∧0 < M:=fun M h=>by simpa using h
 have hM0:[x1 - x0,y1 - y0].filter (fun z=>decide (0 < z))=[]→x1 - x0=0∧y1 - y0=0:=fun h=>by
  have:=List.filter_eq_nil_iff.mp h
  simp at this
  walk_at "o"
 have hMl:([x1 - x0,y1 - y0].filter (fun z=>decide (0 < z))).length≤100:=Nat.le_trans (List.length_filter_le _ _) (iE rfl)
 generalize [x1 - x0,y1 - y0].filter (fun z=>decide (0 < z))=sm at hM hM0 hMl ⊢
 have hR:∀ r∈[Row.mk (nT (RR b g x0) g) (nB (RR b g x0) g) x0 2000,⟨nT (RR b g y0) g,nB (RR b g y0) g,y0,2000⟩,⟨nT (RR b g x1 - RR b g x0) g,nB (RR b g x1 - RR b g x0) g,x1 - x0,1000⟩,⟨nT (RR b g y1 - RR b g y0) g,nB (RR b g y1 - RR b g y0) g,y1 - y0,1000⟩],
   RowOk b g (x1 - x0) (y1 - y0) r.p r.q r.n r.m:=List.forall_mem_cons.mpr ⟨row_place hb hb2 hG (bx m0.1),List.forall_mem_cons.mpr ⟨row_place hb hb2 hG (by' m1.1),List.forall_mem_cons.mpr ⟨row_side hb hb2 hG (bx m0.1) (bx m2.1) (.inl rfl),List.forall_mem_cons.mpr ⟨row_side hb hb2 hG (by' m1.1) (by' m3.1) (.inr rfl),List.forall_mem_nil _⟩⟩⟩⟩
 have c0:=bx m0.1
 have c1:=by' m1.1
 have c2:=bx m2.1
 have c3:=by' m3.1
 clear m0 m1 m2 m3 z1 z2 n1 n2 bx by' hbd hG zz hx hy
 walk_at "v"
 refine forL_ind (f:=rowS) (fun r sl led=>led=[]∧(∀ x∈r,RowOk b g (x1 - x0) (y1 - y0) x.p x.q x.n x.m)∧SlR b sm sl) ?_ ?_
  [Row.mk (nT (RR b g x0) g) (nB (RR b g x0) g) x0 2000,⟨nT (RR b g y0) g,nB (RR b g y0) g,y0,2000⟩,⟨nT (RR b g x1 - RR b g x0) g,nB (RR b g x1 - RR b g x0) g,x1 - x0,1000⟩,⟨nT (RR b g y1 - RR b g y0) g,nB (RR b g y1 - RR b g y0) g,y1 - y0,1000⟩] _ _ ⟨rfl,hR,SlR.i⟩
 ·intro sl led hh
  apply SlR.e hh
  intro _ a0 a2 a3 a4 a5 a6 a7 a8 a9 o1 o2 o3
  walk_at "v"
 ·intro x r sl led hh ih
  apply SlR.e hh
  intro hr a0 a2 a3 a4 a5 a6 a7 a8 a9 o1 o2 o3
  clear hh
  have hx:=hr x (.head _)
  replace hr:=fun y hy=>hr y (.tail _ hy)
  clear hR hg
  obtain ⟨p,q,n,m⟩:=x
  refine el0a8 hx fun hq0 hq1 hp1 hn1 hmany w1 w2 w3=>?_
  clear hx
  walk_at "v"
  ·walk_at "o"
  ·exact mulOk (by walk_at "o") (by walk_at "o")
  ·exact mulOk (by walk_at "o") (by walk_at "o")
  ·exact absurd (w1 (by assumption)) (by assumption)
  all_goals
   refine nilEq_i .fr int_plain ?_
   rcases sm with _ | ⟨z0,zr⟩
   ·walk_at "v"
    refine nilEq_i .fr int_plain ?_
    walk_at "v"
    have wz:=w3 (hM0 rfl).1 (hM0 rfl).2
    refine callV (law_is_near_fn _ (mulOk (by walk_at "o") (by walk_at "o")) (mulOk (by walk_at "o") (by walk_at "o")) (mulOk (by walk_at "o") (by walk_at "o")) (.inr (.inr rfl))) (Eq.refl true) ?_
    walk_at "v"
    ·exact absurd wz (by assumption)
    ·exact ih _ _ ⟨rfl,hr,SlR.i⟩
   ·walk_at "v"
    refine ⟨z0::zr,rfl,hMl,fun h=>(by cases h),fun M h1 h2=>?_⟩
    have hz:=hM M h1
    have wz:=w2 M hz.1 hz.2
    walk_at "v"
    refine callV (law_is_near_fn _ (mulOk (by walk_at "o") (by walk_at "o")) (mulOk (by walk_at "o") (by walk_at "o")) (mulOk (by walk_at "o") (by walk_at "o")) hmany) (Eq.refl true) ?_
    walk_at "v"
    ·exact absurd wz (by assumption)
    refine nilEq_i .fr int_plain ?_
    walk_at "v"
    exact ih _ _ ⟨rfl,hr,SlR.i⟩
end
end
section
noncomputable def i_whole_of:IS:=(.asg 1 (.cst (.int 0)) (.forS [2] true (.loc 0) (.asg 1 (.op (.bin .Add) (.cons (.op (.bin .Mult) (.cons (.loc 1) (.cons (.cst (.int 10)) .nil))) (.cons (.sm .index (.glo 4) (.cons (.loc 2) .nil)) .nil))) .nil) (.ret (.loc 1))))
noncomputable def n_whole_of:List Str:=["digits","number","digit"]
noncomputable def m_whole_of:List Str:=[]
noncomputable def i_unit_of:IS:=(.asg 0 (.sm .strip (.loc 0) .nil) (.forS [1] true (.op .tup (.cons (.cst (.str "px")) (.cons (.cst (.str "pt")) (.cons (.cst (.str "pc")) (.cons (.cst (.str "mm")) (.cons (.cst (.str "cm")) (.cons (.cst (.str "in")) (.cons (.cst (.str "em")) (.cons (.cst (.str "%")) .nil))))))))) (.ifS (.sm .endswith (.loc 0) (.cons (.loc 1) .nil)) (.ret (.op .tup (.cons (.sm .strip .bad .nil) (.cons (.loc 1) .nil)))) .nil .nil) (.ret (.op .tup (.cons (.loc 0) (.cons (.cst (.str "")) .nil))))))
noncomputable def n_unit_of:List Str:=["text","unit"]
noncomputable def m_unit_of:List Str:=[]
noncomputable def i_NumberText___init:IS:=(.sAttr 22 (.loc 0) (.loc 1) (.sAttr 25 (.loc 0) (.cst (.int 0)) .nil))
noncomputable def n_NumberText___init:List Str:=["self","text"]
noncomputable def m_NumberText___init:List Str:=[]
noncomputable def i_NumberText_is_one_of:IS:=(.ret (.and (.op (.cmp .Lt) (.cons (.op (.attr 25) (.cons (.loc 0) .nil)) (.cons (.op (.bi .len) (.cons (.op (.attr 22) (.cons (.loc 0) .nil)) .nil)) .nil))) (.op (.cmp .In) (.cons (.op .item (.cons (.op (.attr 22) (.cons (.loc 0) .nil)) (.cons (.op (.attr 25) (.cons (.loc 0) .nil)) .nil))) (.cons (.loc 1) .nil)))))
noncomputable def n_NumberText_is_one_of:List Str:=["self","signs"]
noncomputable def m_NumberText_is_one_of:List Str:=[]
noncomputable def i_NumberText_skip:IS:=(.ifS (.not (.meth 225 10 (.loc 0) (.cons (.loc 1) .nil))) (.ret (.cst (.str ""))) .nil (.aAttr 25 (.loc 0) (.cst (.int 1)) (.ret (.op .item (.cons (.op (.attr 22) (.cons (.loc 0) .nil)) (.cons (.op (.bin .Sub) (.cons (.op (.attr 25) (.cons (.loc 0) .nil)) (.cons (.cst (.int 1)) .nil))) .nil))))))
noncomputable def n_NumberText_skip:List Str:=["self","signs"]
noncomputable def m_NumberText_skip:List Str:=[]
noncomputable def i_NumberText_digits:IS:=(.asg 1 (.op (.attr 25) (.cons (.loc 0) .nil)) (.whl (.meth 225 10 (.loc 0) (.cons (.glo 4) .nil)) (.aAttr 25 (.loc 0) (.cst (.int 1)) .nil) (.ret (.op .sls (.cons (.op (.attr 22) (.cons (.loc 0) .nil)) (.cons (.loc 1) (.cons (.op (.attr 25) (.cons (.loc 0) .nil)) .nil)))))))
noncomputable def n_NumberText_digits:List Str:=["self","begin"]
noncomputable def m_NumberText_digits:List Str:=[]
noncomputable def i_Element_get:IS:=(.ret (.sm .get (.op (.attr 20) (.cons (.loc 0) .nil)) (.cons (.loc 1) (.cons (.loc 2) .nil))))
noncomputable def n_Element_get:List Str:=["self","name","other"]
noncomputable def m_Element_get:List Str:=[]
noncomputable def i_framed:IS:=(.ifS (.op (.cmp .NotIn) (.cons (.op (.attr 19) (.cons (.loc 1) .nil)) (.cons (.op .tup (.cons (.cst (.str "symbol")) (.cons (.cst (.str "svg")) .nil))) .nil))) (.ret (.loc 1)) .nil (.asg 2 .bad (.forS [3] true (.op .tup (.cons (.cst (.str "width")) (.cons (.cst (.str "height")) .nil))) (.ifS (.op (.cmp .In) (.cons (.loc 3) (.cons (.op (.attr 20) (.cons (.loc 0) .nil)) .nil))) (.sItem (.loc 2) (.loc 3) (.op .item (.cons (.op (.attr 20) (.cons (.loc 0) .nil)) (.cons (.loc 3) .nil))) .nil) (.ifS (.op (.cmp .Eq) (.cons (.op (.attr 19) (.cons (.loc 1) .nil)) (.cons (.cst (.str "symbol")) .nil))) (.sItem (.loc 2) (.loc 3) (.cst (.str "100%")) .nil) .nil .nil) .nil) (.ret (.op (.call 788) (.cons (.cst (.str "svg")) (.cons (.loc 2) (.cons (.op (.attr 21) (.cons (.loc 1) .nil)) (.cons (.op (.attr 22) (.cons (.loc 1) .nil)) .nil)))))))))
noncomputable def n_framed:List Str:=["element","target","words","name"]
noncomputable def m_framed:List Str:=["words"]
noncomputable def i_link_of:IS:=(.forS [1] true (.op .tup (.cons (.cst (.str "href")) (.cons (.cst (.str "xlink:href")) .nil))) (.asg 2 (.sm .get (.op (.attr 20) (.cons (.loc 0) .nil)) (.cons (.loc 1) .nil)) (.ifS (.and (.op (.cmp .IsNot) (.cons (.loc 2) (.cons (.cst .none) .nil))) (.op (.cmp .Eq) (.cons (.op (.slc none (some 1)) (.cons (.loc 2) .nil)) (.cons (.cst (.str "#")) .nil)))) (.ret (.op (.slc (some 1) none) (.cons (.loc 2) .nil))) .nil .nil)) (.ret (.cst .none)))
noncomputable def n_link_of:List Str:=["element","name","told"]
noncomputable def m_link_of:List Str:=[]
section
variable (X:Pw)
theorem whole_of_fn:FnV X 253 [.str "0"] 6 (.int 0):=by
 refine' FnG.of_body n_whole_of m_whole_of i_whole_of [] ?kc ?ki ⟨[],fun _ _=>rfl,?kb⟩ ?kk ?kl ⟨_,_,.nil,?_⟩
 walk_at "vin"
 walk_at "v"
 refine forL.mk ?_
 walk_at "v"
 ·exact IntMulOk.of_right (intBits_le_64 (by decide) (by decide))
 refine ⟨0,[],by kernel_rfl,?_⟩
 walk_at "v"
theorem unit_of_fn:FnV X 771 [.str "0"] 6 (.tup [.str "0",.str ""]):=by
 refine' FnG.of_body n_unit_of m_unit_of i_unit_of [] ?kc ?ki ⟨[],fun _ _=>rfl,?kb⟩ ?kk ?kl ⟨_,_,.nil,?_⟩
 walk_at "vin"
 walk_at "v"
 refine forL.mk ?_
 walk_at "v"
theorem link_of_fn (a b c:SV):FnV X 763 [.obj 752 [19,20,21,22] [a,.dct X.w ["href"] [.str "#t"],b,c]] 6 (.str "t"):=by
 refine' FnG.of_body n_link_of m_link_of i_link_of [] ?kc ?ki ⟨[],fun _ _=>rfl,?kb⟩ ?kk ?kl ⟨_,_,.nil,?_⟩
 walk_at "vin"
 walk_at "v"
 refine forL.mk ?_
 walk_at "v"
noncomputable abbrev nText (n:Int):MO:=.inst 242 [22,25] [.str "0",.int n]
theorem number_init (x:Addr):Fn X 218 [.ref x,.str "0"] [(x,.inst 242 [] [])] 2 fun r l=>r=.none∧l=[(x,nText 0)]:=by
 refine' FnG.of_body n_NumberText___init m_NumberText___init i_NumberText___init [] ?kc ?ki ⟨[],fun _ _=>rfl,?kb⟩ ?kk ?kl ⟨_,_,.nil,?_⟩
 walk_at "vin"
 walk_at "v"
theorem is_one_of_fn (x:Addr)(n:Int)(s:Str)(b:Bool)(h:(n=0∧Txt.contains s "0"=b)∨(n=1∧b=false)):Fn X 225 [.ref x,.str s] [(x,nText n)] 2 fun r l=>r=.bool b∧l=[(x,nText n)]:=by
 rcases h with ⟨rfl,h⟩ | ⟨rfl,rfl⟩
 ·refine' FnG.of_body n_NumberText_is_one_of m_NumberText_is_one_of i_NumberText_is_one_of [] ?kc ?ki ⟨[],fun _ _=>rfl,?kb⟩ ?kk ?kl ⟨_,_,.nil,?_⟩
  walk_at "vin"
  walk_at "v"
  exact ⟨_,_,.nil,congrArg SV.bool h,rfl⟩
 ·refine' FnG.of_body n_NumberText_is_one_of m_NumberText_is_one_of i_NumberText_is_one_of [] ?kc ?ki ⟨[],fun _ _=>rfl,?kb⟩ ?kk ?kl ⟨_,_,.nil,?_⟩
  walk_at "vin"
  walk_at "v"
theorem skip_fn (x:Addr)(n:Int)(s:Str)(h:(n=0∧Txt.contains s "0"=false)∨(n=1∧false=false)):Fn X 232 [.ref x,.str s] [(x,nText n)] 6 fun r l=>r=.str ""∧l=[(x,nText n)]:=by
 refine' FnG.of_body n_NumberText_skip m_NumberText_skip i_NumberText_skip [] ?kc ?ki ⟨[],fun _ _=>rfl,?kb⟩ ?kk ?kl ⟨_,_,.nil,?_⟩
 walk_at "vin"
 walk_at "v"
 refine callP (is_one_of_fn _ x n s false h) (Eq.refl true) .allL ?_
 rintro _ _ ⟨rfl,rfl⟩
 walk_at "v"
theorem digits_fn (x:Addr):Fn X 239 [.ref x] [(x,nText 0)] 6 fun r l=>r=.str "0"∧l=[(x,nText 1)]:=by
 refine' FnG.of_body n_NumberText_digits m_NumberText_digits i_NumberText_digits [] ?kc ?ki ⟨[],fun _ _=>rfl,?kb⟩ ?kk ?kl ⟨_,_,.nil,?_⟩
 walk_at "vin"
 walk_at "v"
 refine ⟨1,fun N sl led=>sl=[some (.ref x),some (.int 0)]∧((N=1∧led=[(x,nText 0)])∨(N=0∧led=[(x,nText 1)])),⟨rfl,.inl ⟨rfl,rfl⟩⟩,?_⟩
 rintro N sl led ⟨rfl,⟨rfl,rfl⟩ | ⟨rfl,rfl⟩⟩
 ·walk_at "v"
  refine callP (is_one_of_fn _ x 0 "0123456789" true (.inl ⟨rfl,by kernel_rfl⟩)) (Eq.refl true) .allL ?_
  rintro _ _ ⟨rfl,rfl⟩
  walk_at "v"
  exact ⟨0,Nat.zero_lt_one,rfl,.inr ⟨rfl,rfl⟩⟩
 ·walk_at "v"
  refine callP (is_one_of_fn _ x 1 "0123456789" false (.inr ⟨rfl,rfl⟩)) (Eq.refl true) .allL ?_
  rintro _ _ ⟨rfl,rfl⟩
  walk_at "v"
end
end
section
noncomputable def i_read_exponent:IS:=(.ifS (.op (.cmp .Eq) (.cons (.meth 232 11 (.loc 0) (.cons (.cst (.str "eE")) .nil)) (.cons (.cst (.str "")) .nil))) (.ret (.cst (.int 0))) .nil (.unp [1,2] (.op .tup (.cons (.meth 232 11 (.loc 0) (.cons (.cst (.str "+-")) .nil)) (.cons (.meth 239 12 (.loc 0) .nil) .nil))) (.ifS (.or (.op (.cmp .Eq) (.cons (.loc 2) (.cons (.cst (.str "")) .nil))) (.or (.op (.cmp .Gt) (.cons (.op (.bi .len) (.cons (.loc 2) .nil)) (.cons (.cst (.int 9)) .nil))) (.op (.cmp .Gt) (.cons (.op (.call 253) (.cons (.loc 2) .nil)) (.cons .bad .nil))))) .bad .nil (.ret (.ite (.op (.cmp .Eq) (.cons (.loc 1) (.cons (.cst (.str "-")) .nil))) (.op .neg (.cons (.op (.call 253) (.cons (.loc 2) .nil)) .nil)) (.op (.call 253) (.cons (.loc 2) .nil)))))))
noncomputable def n_read_exponent:List Str:=["reader","sign","digits"]
noncomputable def m_read_exponent:List Str:=[]
noncomputable def i_read_decimal:IS:=(.asg 1 (.op (.new 242) (.cons (.loc 0) .nil)) (.unp [2,3,4] (.op .tup (.cons (.meth 232 11 (.loc 1) (.cons (.cst (.str "+-")) .nil)) (.cons (.meth 239 12 (.loc 1) .nil) (.cons (.cst (.str "")) .nil)))) (.ifS (.op (.cmp .NotEq) (.cons (.meth 232 11 (.loc 1) (.cons (.cst (.str ".")) .nil)) (.cons (.cst (.str "")) .nil))) (.asg 4 (.meth 239 12 (.loc 1) .nil) .nil) .nil (.ifS (.op (.cmp .Eq) (.cons (.op (.bin .Add) (.cons (.loc 3) (.cons (.loc 4) .nil))) (.cons (.cst (.str "")) .nil))) .bad .nil (.ifS (.op (.cmp .Gt) (.cons (.op (.bi .len) (.cons (.op (.bin .Add) (.cons (.loc 3) (.cons (.loc 4) .nil))) .nil)) (.cons (.glo 5) .nil))) .bad .nil (.asg 5 (.op (.bin .Sub) (.cons (.op (.call 260) (.cons (.loc 1) .nil)) (.cons (.op (.bi .len) (.cons (.loc 4) .nil)) .nil))) (.ifS (.op (.cmp .Lt) (.cons (.op (.attr 25) (.cons (.loc 1) .nil)) (.cons (.op (.bi .len) (.cons (.loc 0) .nil)) .nil))) .bad .nil (.unp [6,7] (.op .tup (.cons (.op (.bin .Mult) (.cons (.op (.call 253) (.cons (.op (.bin .Add) (.cons (.loc 3) (.cons (.loc 4) .nil))) .nil)) (.cons (.op (.bin .Pow) (.cons (.cst (.int 10)) (.cons (.op (.bi .max) (.cons (.cst (.int 0)) (.cons (.loc 5) .nil))) .nil))) .nil))) (.cons (.op (.bin .Pow) (.cons (.cst (.int 10)) (.cons (.op (.bi .max) (.cons (.cst (.int 0)) (.cons (.op .neg (.cons (.loc 5) .nil)) .nil))) .nil))) .nil))) (.ifS (.or (.op (.cmp .GtE) (.cons (.loc 6) (.cons (.op (.bin .Mult) (.cons (.glo 6) (.cons (.loc 7) .nil))) .nil))) (.chn .Lt .Lt (.cst (.int 0)) (.op (.bin .Mult) (.cons (.loc 6) (.cons (.glo 6) .nil))) (.loc 7))) .bad .nil (.ret (.op (.call 113) (.cons (.ite (.op (.cmp .Eq) (.cons (.loc 2) (.cons (.cst (.str "-")) .nil))) (.op .neg (.cons (.loc 6) .nil)) (.loc 6)) (.cons (.loc 7) .nil)))))))))))))
noncomputable def n_read_decimal:List Str:=["text","reader","sign","whole","parts","exponent","top","bottom"]
noncomputable def m_read_decimal:List Str:=[]
noncomputable def i_write_decimal:IS:=(.asg 2 (.op (.bin .Pow) (.cons (.cst (.int 10)) (.cons (.loc 1) .nil))) (.asg 3 (.op (.bin .FloorDiv) (.cons (.op (.bin .Add) (.cons (.op (.bin .Mult) (.cons (.op (.bin .Mult) (.cons (.cst (.int 2)) (.cons (.op (.bi .abs) (.cons (.op .item (.cons (.loc 0) (.cons (.cst (.int 0)) .nil))) .nil)) .nil))) (.cons (.loc 2) .nil))) (.cons (.op .item (.cons (.loc 0) (.cons (.cst (.int 1)) .nil))) .nil))) (.cons (.op (.bin .Mult) (.cons (.cst (.int 2)) (.cons (.op .item (.cons (.loc 0) (.cons (.cst (.int 1)) .nil))) .nil))) .nil))) (.ifS (.op (.cmp .GtE) (.cons (.loc 3) (.cons (.op (.bin .Mult) (.cons (.glo 7) (.cons (.loc 2) .nil))) .nil))) .bad .nil (.unp [4,5] (.op .tup (.cons (.op (.bi .str) (.cons (.op (.bin .FloorDiv) (.cons (.loc 3) (.cons (.loc 2) .nil))) .nil)) (.cons (.op (.bin .Mod) (.cons (.loc 3) (.cons (.loc 2) .nil))) .nil))) (.ifS (.op (.cmp .Gt) (.cons (.loc 5) (.cons (.cst (.int 0)) .nil))) (.asg 6 (.op (.slc (some 1) none) (.cons (.op (.bi .str) (.cons (.op (.bin .Add) (.cons (.loc 2) (.cons (.loc 5) .nil))) .nil)) .nil)) (.whl (.op (.cmp .Eq) (.cons (.op .item (.cons (.loc 6) (.cons (.op .neg (.cons (.cst (.int 1)) .nil)) .nil))) (.cons (.cst (.str "0")) .nil))) (.asg 6 (.op (.slc none (some (-1))) (.cons (.loc 6) .nil)) .nil) (.asg 4 (.op (.bin .Add) (.cons (.op (.bin .Add) (.cons (.loc 4) (.cons (.cst (.str ".")) .nil))) (.cons (.loc 6) .nil))) .nil))) .nil (.ret (.ite (.and (.op (.cmp .Lt) (.cons (.op .item (.cons (.loc 0) (.cons (.cst (.int 0)) .nil))) (.cons (.cst (.int 0)) .nil))) (.op (.cmp .Gt) (.cons (.loc 3) (.cons (.cst (.int 0)) .nil)))) (.op (.bin .Add) (.cons (.cst (.str "-")) (.cons (.loc 4) .nil))) (.loc 4))))))))
noncomputable def n_write_decimal:List Str:=["a","places","scale","scaled","told","rest","parts"]
noncomputable def m_write_decimal:List Str:=[]
noncomputable def i_place_told:IS:=(.asg 2 (.meth 749 13 (.loc 0) (.cons (.loc 1) (.cons (.cst (.str "0")) .nil))) (.ifS (.op (.cmp .Eq) (.cons (.op (.slc (some (-1)) none) (.cons (.sm .strip (.loc 2) .nil) .nil)) (.cons (.cst (.str "%")) .nil))) .bad .nil (.ret (.op (.call 275) (.cons (.op (.call 780) (.cons (.loc 2) (.cons (.glo 0) .nil))) (.cons (.glo 8) .nil))))))
noncomputable def n_place_told:List Str:=["element","name","told"]
noncomputable def m_place_told:List Str:=[]
section
variable (X:Pw)
theorem read_exp_fn (x:Addr):Fn X 260 [.ref x] [(x,nText 1)] 8 fun r l=>r=.int 0∧l=[(x,nText 1)]:=by
 refine' FnG.of_body n_read_exponent m_read_exponent i_read_exponent [] ?kc ?ki ⟨[],fun _ _=>rfl,?kb⟩ ?kk ?kl ⟨_,_,.nil,?_⟩
 walk_at "vin"
 walk_at "v"
 refine callE (skip_fn _ x 1 "eE" (.inr ⟨rfl,rfl⟩)) (Eq.refl true) .allL ?_
 walk_at "v"
theorem read_decimal_fn:FnV X 267 [.str "0"] 20 (.tup [.int 0,.int 1]):=by
 refine' FnG.of_body n_read_decimal m_read_decimal i_read_decimal [] ?kc ?ki ⟨[],fun _ _=>rfl,?kb⟩ ?kk ?kl ⟨_,_,.nil,?_⟩
 walk_at "vin"
 walk_at "v"
 refine newU (fI:=218) (k1:=2) (Eq.refl true) (Eq.refl true) (fun x=>number_init _ x) fun x=>?_
 walk_at "v"
 refine callE (skip_fn _ x 0 "+-" (.inl ⟨rfl,by kernel_rfl⟩)) (Eq.refl true) .allL ?_
 walk_at "v"
 refine callE (digits_fn _ x) (Eq.refl true) .allL ?_
 walk_at "v"
 refine callE (skip_fn _ x 1 "." (.inr ⟨rfl,rfl⟩)) (Eq.refl true) .allL ?_
 walk_at "v"
 refine callE (read_exp_fn _ x) (Eq.refl true) .allL ?_
 walk_at "v"
 rw [show (Str.ofString "0"++Str.ofString "":Str)="0" from by kernel_rfl]
 refine callV (whole_of_fn _) (Eq.refl true) ?_
 walk_at "v"
 all_goals first
  | decide +kernel
  | (unfold IntMulOk;decide +kernel)
  | skip
 refine callV (fraction_fn _ 0 1 (by decide) (by decide)) (Eq.refl true) ?_
 exact ⟨_,_,.one (.left .nil) .nil (.keep .nil) .nil,rfl,rfl⟩
theorem write_decimal_fn:FnV X 275 [.tup [.int 0,.int 1],.int 20] 6 (.str "0"):=by
 refine' FnG.of_body n_write_decimal m_write_decimal i_write_decimal [] ?kc ?ki ⟨[],fun _ _=>rfl,?kb⟩ ?kk ?kl ⟨_,_,.nil,?_⟩
 walk_at "vin"
 walk_at "v"
 all_goals first
  | decide +kernel
  | (unfold IntMulOk;decide +kernel)
  | skip
noncomputable abbrev useS (w:World)(a b c:SV):SV:=.obj 752 [19,20,21,22] [a,.dct w ["href"] [.str "#t"],b,c]
theorem get_x (a b c d:SV):FnV X 749 [useS X.w a b c,.str "x",d] 4 d:=by
 refine' FnG.of_body n_Element_get m_Element_get i_Element_get [] ?kc ?ki ⟨[],fun _ _=>rfl,?kb⟩ ?kk ?kl ⟨_,_,.nil,?_⟩
 walk_at "vin"
 walk_at "v"
theorem get_y (a b c d:SV):FnV X 749 [useS X.w a b c,.str "y",d] 4 d:=by
 refine' FnG.of_body n_Element_get m_Element_get i_Element_get [] ?kc ?ki ⟨[],fun _ _=>rfl,?kb⟩ ?kk ?kl ⟨_,_,.nil,?_⟩
 walk_at "vin"
 walk_at "v"
theorem get_t (a b c d:SV):FnV X 749 [useS X.w a b c,.str "transform",d] 4 d:=by
 refine' FnG.of_body n_Element_get m_Element_get i_Element_get [] ?kc ?ki ⟨[],fun _ _=>rfl,?kb⟩ ?kk ?kl ⟨_,_,.nil,?_⟩
 walk_at "vin"
 walk_at "v"
end
end
section
noncomputable def i_length:IS:=(.unp [3,4] (.op (.call 771) (.cons (.loc 0) .nil)) (.asg 5 (.op (.call 267) (.cons (.loc 3) .nil)) (.ifS (.op (.cmp .Eq) (.cons (.loc 4) (.cons (.cst (.str "%")) .nil))) (.ret .bad) .nil (.ifS (.op (.cmp .Eq) (.cons (.loc 4) (.cons (.cst (.str "em")) .nil))) (.ret (.op (.call 134) (.cons (.loc 5) (.cons (.loc 2) .nil)))) .nil (.asg 6 (.op (.dsp ["","px","pt","pc","mm","cm","in"]) (.cons (.op .tup (.cons (.cst (.int 1)) (.cons (.cst (.int 1)) .nil))) (.cons (.op .tup (.cons (.cst (.int 1)) (.cons (.cst (.int 1)) .nil))) (.cons (.op .tup (.cons (.cst (.int 4)) (.cons (.cst (.int 3)) .nil))) (.cons (.op .tup (.cons (.cst (.int 16)) (.cons (.cst (.int 1)) .nil))) (.cons (.op .tup (.cons (.cst (.int 480)) (.cons (.cst (.int 127)) .nil))) (.cons (.op .tup (.cons (.cst (.int 4800)) (.cons (.cst (.int 127)) .nil))) (.cons (.op .tup (.cons (.cst (.int 96)) (.cons (.cst (.int 1)) .nil))) .nil)))))))) (.ret (.op (.call 134) (.cons (.loc 5) (.cons (.op .item (.cons (.loc 6) (.cons (.loc 4) .nil))) .nil)))))))))
noncomputable def n_length:List Str:=["text","whole","font_size","number","unit","told","sizes"]
noncomputable def m_length:List Str:=[]
noncomputable def i_group_words:IS:=(.asg 1 (.op .mdc .nil) (.forS [2] true (.op (.attr 20) (.cons (.loc 0) .nil)) (.ifS (.op (.cmp .NotIn) (.cons (.loc 2) (.cons (.glo 9) .nil))) (.sItem (.loc 1) (.loc 2) (.op .item (.cons (.op (.attr 20) (.cons (.loc 0) .nil)) (.cons (.loc 2) .nil))) .nil) .nil .nil) (.asg 3 (.op (.bin .Add) (.cons (.op (.bin .Add) (.cons (.op (.bin .Add) (.cons (.op (.bin .Add) (.cons (.cst (.str "translate(")) (.cons (.op (.call 838) (.cons (.loc 0) (.cons (.cst (.str "x")) .nil))) .nil))) (.cons (.cst (.str " ")) .nil))) (.cons (.op (.call 838) (.cons (.loc 0) (.cons (.cst (.str "y")) .nil))) .nil))) (.cons (.cst (.str ")")) .nil))) (.sItem (.loc 1) (.cst (.str "transform")) (.sm .strip (.op (.bin .Add) (.cons (.op (.bin .Add) (.cons (.meth 749 13 (.loc 0) (.cons (.cst (.str "transform")) (.cons (.cst (.str "")) .nil))) (.cons (.cst (.str " ")) .nil))) (.cons (.loc 3) .nil))) .nil) (.ret (.loc 1))))))
noncomputable def n_group_words:List Str:=["element","found","name","place"]
noncomputable def m_group_words:List Str:=["found"]
noncomputable def i_Element___init:IS:=(.sAttr 19 (.loc 0) (.loc 1) (.sAttr 20 (.loc 0) (.loc 2) (.sAttr 21 (.loc 0) (.op .mls .nil) (.sAttr 22 (.loc 0) (.cst (.str "")) .nil))))
noncomputable def n_Element___init:List Str:=["self","name","attributes"]
noncomputable def m_Element___init:List Str:=[]
noncomputable def i_element_of:IS:=(.asg 4 (.op (.new 752) (.cons (.loc 0) (.cons (.loc 1) .nil))) (.sAttr 21 (.loc 4) (.loc 2) (.sAttr 22 (.loc 4) (.loc 3) (.ret (.loc 4)))))
noncomputable def n_element_of:List Str:=["name","attributes","children","text","found"]
noncomputable def m_element_of:List Str:=[]
noncomputable def i_Uses___init:IS:=(.sAttr 23 (.loc 0) (.loc 1) (.sAttr 11 (.loc 0) (.loc 2) (.sAttr 24 (.loc 0) (.cst (.int 0)) .nil)))
noncomputable def n_Uses___init:List Str:=["self","ids","most"]
noncomputable def m_Uses___init:List Str:=[]
noncomputable def i_law_within:IS:=(.forS [2] true (.op (.bi .range) (.cons (.loc 0) .nil)) (.asg 3 (.op (.new 752) (.cons (.cst (.str "g")) (.cons (.op (.dsp []) .nil) .nil))) (.sAttr 21 (.loc 3) (.op .mls (.cons (.loc 1) .nil)) (.asg 1 (.loc 3) .nil))) (.ret (.loc 1)))
noncomputable def n_law_within:List Str:=["many","innermost","turn","around"]
noncomputable def m_law_within:List Str:=[]
section
variable (X:Pw)
theorem length_fn:FnV X 780 [.str "0",.tup [.int 0,.int 1]] 30 (.tup [.int 0,.int 1]):=by
 refine' FnG.of_body n_length m_length i_length [.val (.ref 772)] ?kc ?ki ⟨[.ref 772],fun _ _=>⟨_,_,rfl,rfl,rfl⟩,?kb⟩ ?kk ?kl ⟨_,_,.nil,?_⟩
 case kc=>kernel_rfl
 case ki=>kernel_rfl
 case kk=>kernel_rfl
 case kl=>kernel_rfl
 case kb=>walk_at "kb"
 walk_at "v"
 refine callV (unit_of_fn _) (Eq.refl true) ?_
 walk_at "v"
 refine callV (read_decimal_fn _) (Eq.refl true) ?_
 walk_at "v"
 refine callV (times_fn _ (a0:=0) (a1:=1) (b0:=1) (b1:=1) (by decide) (by decide) (by decide) (by decide) (IntMulOk.of_left (by decide))) (Eq.refl true) ?_
 walk_at "v"
noncomputable abbrev elS (w:World)(nm:Str)(ks:List Str)(l kids:List SV):SV:=.obj 752 [19,20,21,22] [.str nm,.dct w ks l,.lst kids,.str ""]
theorem place_fn (a b c:SV)(x:Str)(hx:x="x"∨x="y"):FnV X 838 [useS X.w a b c,.str x] 36 (.str "0"):=by
 refine' FnG.of_body n_place_told m_place_told i_place_told [] ?kc ?ki ⟨[],fun _ _=>rfl,?kb⟩ ?kk ?kl ⟨_,_,.nil,?_⟩
 walk_at "vin"
 walk_at "v"
 rcases hx with rfl | rfl
 ·refine callV (get_x _ _ _ _ _) (Eq.refl true) ?_
  walk_at "v"
  refine callV (length_fn _) (Eq.refl true) ?_
  walk_at "v"
  refine callV (write_decimal_fn _) (Eq.refl true) ?_
  walk_at "v"
 ·refine callV (get_y _ _ _ _ _) (Eq.refl true) ?_
  walk_at "v"
  refine callV (length_fn _) (Eq.refl true) ?_
  walk_at "v"
  refine callV (write_decimal_fn _) (Eq.refl true) ?_
  walk_at "v"
theorem group_words_fn (a b c:SV):Fn X 831 [useS X.w a b c] [] 40 fun r l=>l=[]:=by
 refine' FnG.of_body n_group_words m_group_words i_group_words [] ?kc ?ki ⟨[],fun _ _=>rfl,?kb⟩ ?kk ?kl ⟨_,_,.nil,?_⟩
 walk_at "vin"
 walk_at "v"
 intro a
 walk_at "v"
 refine forL.mk ?_
 walk_at "v"
 refine callV (place_fn _ _ _ _ _ (.inl rfl)) (Eq.refl true) ?_
 walk_at "v"
 refine callV (place_fn _ _ _ _ _ (.inr rfl)) (Eq.refl true) ?_
 walk_at "v"
 refine callV (get_t _ _ _ _ _) (Eq.refl true) ?_
 walk_at "v"
 refine ⟨_,.left .nil,?_⟩
 walk_at "v"
 exact ⟨_,_,.nil,rfl⟩
theorem framed_fn (u at_ kids tx:SV)(nm:Str)(hn:nm="g"∨nm="rect"):FnV X 845 [u,.obj 752 [19,20,21,22] [.str nm,at_,kids,tx]] 4 (.obj 752 [19,20,21,22] [.str nm,at_,kids,tx]):=by
 rcases hn with rfl | rfl
 ·refine' FnG.of_body n_framed m_framed i_framed [] ?kc ?ki ⟨[],fun _ _=>rfl,?kb⟩ ?kk ?kl ⟨_,_,.nil,?_⟩
  walk_at "vin"
  walk_at "v"
 ·refine' FnG.of_body n_framed m_framed i_framed [] ?kc ?ki ⟨[],fun _ _=>rfl,?kb⟩ ?kk ?kl ⟨_,_,.nil,?_⟩
  walk_at "vin"
  walk_at "v"
theorem element_init (x:Addr)(nm ats:SV):Fn X 741 [.ref x,nm,ats] [(x,.inst 752 [] [])] 2 fun r l=>r=.none∧∃ c,l=[(c,.lst []),(x,.inst 752 [19,20,21,22] [nm,ats,.ref c,.str ""])]:=by
 refine' FnG.of_body n_Element___init m_Element___init i_Element___init [] ?kc ?ki ⟨[],fun _ _=>rfl,?kb⟩ ?kk ?kl ⟨_,_,.nil,?_⟩
 walk_at "vin"
 walk_at "v"
 intro c
 walk_at "v"
 exact ⟨_,_,.nil,rfl,_,rfl⟩
theorem uses_init (x:Addr)(ids:SV):Fn X 803 [.ref x,ids] [(x,.inst 820 [] [])] 2 fun r l=>r=.none∧l=[(x,.inst 820 [23,11,24] [ids,.int 20000,.int 0])]:=by
 refine' FnG.of_body n_Uses___init m_Uses___init i_Uses___init [.int 20000] ?kc ?ki ⟨[.int 20000 1337],fun _ _=>⟨_,_,rfl,⟨_,rfl⟩,rfl⟩,?kb⟩ ?kk ?kl ⟨_,_,.nil,?_⟩
 case kc=>kernel_rfl
 case ki=>kernel_rfl
 case kk=>kernel_rfl
 case kl=>kernel_rfl
 case kb=>walk_at "kb"
 walk_at "v"
end
end
section
noncomputable def i_Uses_put_out:IS:=(.sAttr 24 (.loc 0) (.op (.bin .Add) (.cons (.op (.attr 24) (.cons (.loc 0) .nil)) (.cons (.cst (.int 1)) .nil))) (.ifS (.op (.cmp .Gt) (.cons (.op (.attr 24) (.cons (.loc 0) .nil)) (.cons (.op (.attr 11) (.cons (.loc 0) .nil)) .nil))) .rse .nil (.ifS (.op (.cmp .Gt) (.cons (.loc 3) (.cons (.glo 10) .nil))) .rse .nil (.ifS (.op (.cmp .Eq) (.cons (.op (.attr 19) (.cons (.loc 1) .nil)) (.cons (.cst (.str "use")) .nil))) (.mtR none 817 15 (.loc 0) (.cons (.loc 1) (.cons (.loc 2) (.cons (.loc 3) .nil))) .nil) .nil (.asgR 4 (.op (.attr 21) (.cons (.loc 1) .nil)) 810 14 (.loc 0) (.cons (.loc 5) (.cons (.loc 2) (.cons (.op (.bin .Add) (.cons (.loc 3) (.cons (.cst (.int 1)) .nil))) .nil))) (.ret (.op (.call 788) (.cons (.op (.attr 19) (.cons (.loc 1) .nil)) (.cons (.op (.attr 20) (.cons (.loc 1) .nil)) (.cons (.loc 4) (.cons (.op (.attr 22) (.cons (.loc 1) .nil)) .nil)))))))))))
noncomputable def n_Uses_put_out:List Str:=["self","element","names","deep","children"]
noncomputable def m_Uses_put_out:List Str:=[]
noncomputable def i_Uses_group_of:IS:=(.asg 4 (.op (.call 763) (.cons (.loc 1) .nil)) (.ifS (.or (.op (.cmp .Is) (.cons (.loc 4) (.cons (.cst .none) .nil))) (.op (.cmp .NotIn) (.cons (.loc 4) (.cons (.op (.attr 23) (.cons (.loc 0) .nil)) .nil)))) .bad .nil (.ifS (.or (.op (.cmp .In) (.cons (.loc 4) (.cons (.loc 2) .nil))) (.op (.cmp .GtE) (.cons (.op (.bi .len) (.cons (.loc 2) .nil)) (.cons (.glo 11) .nil)))) .rse .nil (.mtR (some 5) 810 14 (.loc 0) (.cons (.op (.call 845) (.cons (.loc 1) (.cons (.op .item (.cons (.op (.attr 23) (.cons (.loc 0) .nil)) (.cons (.loc 4) .nil))) .nil))) (.cons (.op (.bin .Add) (.cons (.loc 2) (.cons (.op .tup (.cons (.loc 4) .nil)) .nil))) (.cons (.op (.bin .Add) (.cons (.loc 3) (.cons (.cst (.int 1)) .nil))) .nil))) (.ret (.op (.call 788) (.cons (.cst (.str "g")) (.cons (.op (.call 831) (.cons (.loc 1) .nil)) (.cons (.op .lst (.cons (.loc 5) .nil)) (.cons (.cst (.str "")) .nil))))))))))
noncomputable def n_Uses_group_of:List Str:=["self","element","names","deep","name","inner"]
noncomputable def m_Uses_group_of:List Str:=[]
section
variable (X:Pw)
noncomputable abbrev houseO (ids:SV)(made:Int):MO:=.inst 820 [23,11,24] [ids,.int 20000,.int made]
noncomputable abbrev elO (w:World)(nm:Str)(l:List SV):SV:=.obj 752 [19,20,21,22] [.str nm,.dct w [] [],.lst l,.str ""]
theorem element_of_fn (nm at_ kids tx:SV):Fn X 788 [nm,at_,kids,tx] [] 6 fun r l=>l=[]:=by
 refine' FnG.of_body n_element_of m_element_of i_element_of [] ?kc ?ki ⟨[],fun _ _=>rfl,?kb⟩ ?kk ?kl ⟨_,_,.nil,?_⟩
 walk_at "vin"
 walk_at "v"
 refine newU1 (fI:=741) (k1:=2) (Eq.refl true) (Eq.refl true) (fun x=>element_init _ x _ _) (fun _ _=>.nil) fun x c=>?_
 walk_at "v"
 exact ⟨_,_,.one (.right (.left .nil)) (.keep .nil) (.swap .nil) (.one (.left .nil) .nil (.keep .nil) .nil),rfl⟩
noncomputable abbrev putP (hx:Addr)(ids:SV)(made:Int)(c:Prop):SV→MLd→Prop:=fun r l=>c∧l=[(hx,houseO ids made)]
theorem condK_i {c:Bool}{p:Prop}(h:c=true)(k:p):condK c p:=by rw [h];exact k
theorem ifB_no {c:Bool}{p q:Prop}(h:c=false)(k:q):ifB c p q:=h▸ifB_f k
theorem put_vc {hx:Addr}{ids names:SV}{made dep:Int}{nm:Str}{l:List SV}{z c:Prop}{K:Int}{kk:Nat}(hn:nm="g"∨nm="rect")(hm:0≤made∧made < 10000)(hk:9≤kk)(hz:60 < dep→z)
  (h0:l=[]∧(dep≤60→c)∧K=1∨∃ x k1,l=[x]∧k1 < kk∧FnG (X.on z) 810 [.ref hx,x,names,.int (dep+1)] [(hx,houseO ids (made+1))] k1 (putP hx ids (made+K) c) z False) :
  vcS (X.on z) kk i_Uses_put_out (slots0 [.ref hx,elO X.w nm l,names,.int dep] n_Uses_put_out) [(hx,houseO ids made)] (endK (putP hx ids (made+K) c)):=by
 have hb:Nat.ble 9 kk=true:=Nat.ble_eq.mpr hk
 have hb6:Nat.blt 6 kk=true:=Nat.ble_eq.mpr (by walk_at "o")
 refine slots_i (Eq.refl true) ?_
 walk_at "v"
 ·exfalso;walk_at "o"
 ·exact condK_i hb (hz h)
 refine ifB_no (by rcases hn with rfl | rfl <;> rfl) ?_
 walk_at "v"
 rcases h0 with ⟨rfl,hc,rfl⟩ | ⟨x,k1,rfl,h1,hF⟩
 ·refine .inl ?_
  walk_at "v"
  refine compL.mk ?_
  walk_at "v"
  refine callL (element_of_fn _ _ _ _ _) hb6 .allR fun r=>?_
  walk_at "v"
  exact ⟨_,_,.nil,hc (by walk_at "o"),rfl⟩
 ·refine .inr ?_
  walk_at "v"
  refine callRP hF id (Nat.ble_eq.mpr h1) (.left .nil) fun r hc=>?_
  walk_at "v"
  refine callL (element_of_fn _ _ _ _ _) hb6 .allR fun r=>?_
  walk_at "v"
  exact ⟨_,_,.nil,hc,rfl⟩
theorem chain_step {hx:Addr}{ids names:SV}{made dep:Int}{nm:Str}{l:List SV}{z c:Prop}{K:Int}{kk:Nat}(hn:nm="g"∨nm="rect")(hm:0≤made∧made < 10000)(hk:9≤kk)(hz:60 < dep→z)
  (h0:l=[]∧(dep≤60→c)∧K=1∨∃ x k1,l=[x]∧k1 < kk∧FnG (X.on z) 810 [.ref hx,x,names,.int (dep+1)] [(hx,houseO ids (made+1))] k1 (putP hx ids (made+K) c) z False) :
  FnG X 810 [.ref hx,elO X.w nm l,names,.int dep] [(hx,houseO ids made)] kk (putP hx ids (made+K) c) z False:=by
 refine' FnG.of_body n_Uses_put_out m_Uses_put_out i_Uses_put_out [] ?kc ?ki ⟨[],fun _ _=>rfl,?kb⟩ ?kk ?kl ⟨_,_,.nil,put_vc X hn hm hk hz h0⟩
 case kc=>kernel_rfl
 case ki=>kernel_rfl
 case kk=>exact Nat.ble_eq.mpr (by walk_at "o")
 case kl=>kernel_rfl
 case kb=>walk_at "kb"
end
noncomputable def chainS (w:World)(e:SV):Nat→SV
 | 0=>e
 | n+1=>elO w "g" [chainS w e n]
theorem chain_fn {hx:Addr}{ids names e:SV}{M D K c:Int}{k0:Nat}{w:World}(hk:9≤k0)(hM:M≤1000)(hc:0≤c)
  (leaf:∀ X:Pw,X.w=w→∀ made dep:Int,0≤made→made < M→dep≤D→FnG X 810 [.ref hx,e,names,.int dep] [(hx,houseO ids made)] k0 (putP hx ids (made+K) (dep+c≤60)) (60 < dep+c) False) :
  ∀ (n:Nat) (X:Pw),X.w=w→∀ made dep:Int,0≤made→made+n < M→dep+n≤D→FnG X 810 [.ref hx,chainS w e n,names,.int dep] [(hx,houseO ids made)] (k0+n) (putP hx ids (made+n+K) (dep+n+c≤60)) (60 < dep+n+c) False
 | 0,X,hw,made,dep,h1,h2,h3=>by
  rw [show made+(0:Nat)+K=made+K by walk_at "o",show dep+(0:Nat)+c=dep+c by walk_at "o"]
  exact leaf X hw made dep h1 (by walk_at "o") (by walk_at "o")
 | n+1,X,hw,made,dep,h1,h2,h3=>by
  subst hw
  have ih:=chain_fn hk hM hc leaf n (X.on (60 < dep+(n+1:Nat)+c)) rfl (made+1) (dep+1) (by walk_at "o") (by walk_at "o") (by walk_at "o")
  rw [show dep+1+n+c=dep+(n+1:Nat)+c by walk_at "o",show made+1+n+K=made+((n+1:Nat)+K) by walk_at "o"] at ih
  rw [show made+(n+1:Nat)+K=made+((n+1:Nat)+K) by walk_at "o"]
  exact chain_step X (.inl rfl) ⟨h1,by walk_at "o"⟩ (by walk_at "o") (fun h=>by walk_at "o") (.inr ⟨_,_,rfl,by walk_at "o",ih⟩)
section
variable (X:Pw)
noncomputable abbrev useE (w:World):SV:=useS w (.str "use") (.lst []) (.str "")
noncomputable abbrev tgE (nm:Str)(at_ kids tx:SV):SV:=.obj 752 [19,20,21,22] [.str nm,at_,kids,tx]
theorem group_fn {hx:Addr}{nm:Str}{at_ kids tx:SV}{made made' dep:Int}{z c:Prop}{kk k1:Nat}(hn:nm="g"∨nm="rect")(hk:50≤kk)(hk1:k1 < kk)
  (hF:FnG (X.on z) 810 [.ref hx,tgE nm at_ kids tx,.tup [.str "t"],.int (dep+1)] [(hx,houseO (.dct X.w ["t"] [tgE nm at_ kids tx]) made)] k1 (putP hx (.dct X.w ["t"] [tgE nm at_ kids tx]) made' c) z False) :
  FnG X 817 [.ref hx,useE X.w,.tup [],.int dep] [(hx,houseO (.dct X.w ["t"] [tgE nm at_ kids tx]) made)] kk (putP hx (.dct X.w ["t"] [tgE nm at_ kids tx]) made' c) z False:=by
 refine' FnG.of_body n_Uses_group_of m_Uses_group_of i_Uses_group_of [] ?kc ?ki ⟨[],fun _ _=>rfl,?kb⟩ ?kk ?kl ⟨_,_,.nil,?_⟩
 case kc=>kernel_rfl
 case ki=>kernel_rfl
 case kk=>exact Nat.ble_eq.mpr (by walk_at "o")
 case kl=>kernel_rfl
 case kb=>walk_at "kb"
 walk_at "v"
 refine callV (link_of_fn _ _ _ _) (Nat.ble_eq.mpr (by walk_at "o")) ?_
 walk_at "v"
 refine callV (framed_fn _ _ _ _ _ nm hn) (Nat.ble_eq.mpr (by walk_at "o")) ?_
 walk_at "v"
 refine callRP (k1:=k1) hF id (Nat.ble_eq.mpr hk1) (.left .nil) fun r hc=>?_
 walk_at "v"
 refine callL (group_words_fn _ _ _ _) (Nat.ble_eq.mpr (by walk_at "o")) .allR fun r2=>?_
 walk_at "v"
 refine callL (element_of_fn _ _ _ _ _) (Nat.ble_eq.mpr (by walk_at "o")) .allR fun r3=>?_
 walk_at "v"
 exact ⟨_,_,.nil,hc,rfl⟩
theorem use_vc {hx:Addr}{nm:Str}{at_ kids tx:SV}{made made' dep:Int}{z c:Prop}{kk k1:Nat}(hn:nm="g"∨nm="rect")(hk:52≤kk)(hk1:k1+1 < kk)(hm:0≤made∧made < 10000)(hz:60 < dep→z)
  (hF:FnG ((X.on z).on z) 810 [.ref hx,tgE nm at_ kids tx,.tup [.str "t"],.int (dep+1)] [(hx,houseO (.dct X.w ["t"] [tgE nm at_ kids tx]) (made+1))] k1 (putP hx (.dct X.w ["t"] [tgE nm at_ kids tx]) made' c) z False) :
  vcS (X.on z) kk i_Uses_put_out (slots0 [.ref hx,useE X.w,.tup [],.int dep] n_Uses_put_out) [(hx,houseO (.dct X.w ["t"] [tgE nm at_ kids tx]) made)] (endK (putP hx (.dct X.w ["t"] [tgE nm at_ kids tx]) made' c)):=by
 have hb:Nat.ble 9 kk=true:=Nat.ble_eq.mpr (by walk_at "o")
 refine slots_i (Eq.refl true) ?_
 walk_at "v"
 ·exfalso;walk_at "o"
 ·exact condK_i hb (hz h)
 refine callRP (group_fn (X.on z) hn (show 50≤kk - 1 by walk_at "o") (show k1 < kk - 1 by walk_at "o") hF) id (Nat.ble_eq.mpr (by walk_at "o")) (.left .nil) fun r hc=>?_
 walk_at "v"
 exact ⟨_,_,.nil,hc,rfl⟩
theorem slots_use {hx:Addr}{e:SV}{kk:Nat}{led:MLd}{P:SV→MLd→Prop}{z:Prop}(hk:0 < kk)(h:vcS (X.on z) kk i_Uses_put_out (slots0 [.ref hx,e,.tup [],.int 0] n_Uses_put_out) led (endK P)):FnG X 810 [.ref hx,e] led kk P z False:=by
 refine' FnG.of_body n_Uses_put_out m_Uses_put_out i_Uses_put_out [.tup [],.int 0] ?kc ?ki ⟨[.ref 804,.int 0 1382],fun K0 hK=>⟨_,_,rfl,⟨804,_,[],rfl,hK 804 _ rfl,⟨rfl,_,rfl⟩,rfl⟩,_,_,rfl,⟨_,rfl⟩,rfl⟩,?kb⟩ ?kk ?kl ⟨_,_,.nil,h⟩
 case kc=>kernel_rfl
 case ki=>kernel_rfl
 case kk=>exact Nat.ble_eq.mpr hk
 case kl=>kernel_rfl
 case kb=>walk_at "kb"
theorem inner_fn {hx:Addr}{ids names:SV}(n:Nat){made dep:Int}(h1:0≤made)(h2:made+n < 900)(h3:dep+n≤900):FnG X 810 [.ref hx,chainS X.w (elO X.w "rect" []) n,names,.int dep] [(hx,houseO ids made)] (9+n) (putP hx ids (made+n+1) (dep+n+0≤60)) (60 < dep+n+0) False :=
 chain_fn (M:=900) (D:=900) (K:=1) (c:=0) (Nat.le_refl 9) (by decide) (Int.le_refl 0) (fun X hw made dep h1 h2 h3=>by rw [← hw];exact chain_step X (.inr rfl) ⟨h1,by walk_at "o"⟩ (Nat.le_refl 9) (fun h=>by walk_at "o") (.inl ⟨rfl,fun h=>by walk_at "o",rfl⟩)) n X rfl made dep h1 h2 h3
noncomputable def headN (n:Nat):Str:=Nat.casesOn (motive:=fun _=>Str) n "rect" fun _=>"g"
theorem chain_head (w:World)(n:Nat):(headN n="g"∨headN n="rect")∧∃ a b c,chainS w (elO w "rect" []) n=tgE (headN n) a b c:=by
 cases n with
 | zero=>exact ⟨.inr rfl,_,_,_,rfl⟩
 | succ n=>exact ⟨.inl rfl,_,_,_,rfl⟩
noncomputable abbrev idsE (w:World)(n:Nat):SV:=.dct w ["t"] [chainS w (elO w "rect" []) n]
theorem mid_vc {hx:Addr}(n:Nat){made dep:Int}(h1:0≤made)(h2:made+n < 800)(h3:dep+n≤800):vcS (X.on (60 < dep+(1+n))) (60+n) i_Uses_put_out (slots0 [.ref hx,useE X.w,.tup [],.int dep] n_Uses_put_out) [(hx,houseO (idsE X.w n) made)] (endK (putP hx (idsE X.w n) (made+(2+n)) (dep+(1+n)≤60))):=by
 obtain ⟨hn,a,b,c,e⟩:=chain_head X.w n
 have hi:=fun z=>inner_fn ((X.on z).on z) (hx:=hx) (ids:=idsE X.w n) (names:=.tup [.str "t"]) n (made:=made+1) (dep:=dep+1) (by walk_at "o") (by walk_at "o") (by walk_at "o")
 rw [show made+1+(n:Int)+1=made+(2+n) by walk_at "o",show dep+1+(n:Int)+0=dep+(1+n) by walk_at "o"] at hi
 unfold idsE at hi ⊢
 dsimp only [Pw.on] at hi
 rw [e] at hi ⊢
 exact use_vc X hn (by walk_at "o") (by walk_at "o") ⟨h1,by walk_at "o"⟩ (fun h=>by walk_at "o") (hi _)
theorem mid_fn {hx:Addr}(n:Nat){made dep:Int}(h1:0≤made)(h2:made+n < 800)(h3:dep+n≤800):FnG X 810 [.ref hx,useE X.w,.tup [],.int dep] [(hx,houseO (idsE X.w n) made)] (60+n) (putP hx (idsE X.w n) (made+(2+n)) (dep+(1+n)≤60)) (60 < dep+(1+n)) False:=by
 refine' FnG.of_body n_Uses_put_out m_Uses_put_out i_Uses_put_out [] ?kc ?ki ⟨[],fun _ _=>rfl,?kb⟩ ?kk ?kl ⟨_,_,.nil,mid_vc X n h1 h2 h3⟩
 case kc=>kernel_rfl
 case ki=>kernel_rfl
 case kk=>exact Nat.ble_eq.mpr (by walk_at "o")
 case kl=>kernel_rfl
 case kb=>walk_at "kb"
theorem put_fn {hx:Addr}(m n:Nat)(hm:m≤60)(hn:n≤61):FnG X 810 [.ref hx,chainS X.w (useE X.w) m] [(hx,houseO (idsE X.w n) 0)] (200+m) (putP hx (idsE X.w n) (m+(2+n)) ((m:Int)+(1+n)≤60)) (60 < (m:Int)+(1+n)) False:=by
 cases m with
 | zero =>
  rw [show ((0:Nat):Int)+(2+n)=0+(2+n) by walk_at "o",show ((0:Nat):Int)+(1+n)=0+(1+n) by walk_at "o"]
  exact FnG.more (slots_use X (by walk_at "o") (mid_vc X n (by walk_at "o") (by walk_at "o") (by walk_at "o"))) (by walk_at "o")
 | succ m =>
  have ih:=chain_fn (hx:=hx) (ids:=idsE X.w n) (names:=.tup []) (e:=useE X.w) (w:=X.w) (M:=200) (D:=200) (K:=2+n) (c:=1+n) (k0:=60+n) (by walk_at "o") (by decide) (by walk_at "o") (fun Y hw made dep h1 h2 h3=>by rw [← hw];exact mid_fn Y n h1 (by walk_at "o") (by walk_at "o")) m (X.on (60 < ((m+1:Nat):Int)+(1+n))) rfl 1 1 (by walk_at "o") (by walk_at "o") (by walk_at "o")
  rw [show (1:Int)+m+(1+n)=((m+1:Nat):Int)+(1+n) by walk_at "o",show (1:Int)+m+(2+n)=0+(((m+1:Nat):Int)+(2+n)) by walk_at "o"] at ih
  rw [show ((m+1:Nat):Int)+(2+n)=0+(((m+1:Nat):Int)+(2+n)) by walk_at "o"]
  exact slots_use X (by walk_at "o") (put_vc X (.inl rfl) ⟨Int.le_refl 0,by decide⟩ (by walk_at "o") (fun h=>by walk_at "o") (.inr ⟨_,_,rfl,by walk_at "o",ih⟩))
end
end
section
section
variable (X:Pw)
theorem fz_chain {l a:Addr}{C:Addr}{ns:List Nat}{p q t:SV}{vs ws:List SV}{led led2:MLd}(h:Fz vs led ws led2):led2=[]→Fz [.ref a] ((l,.lst vs)::(a,.inst C ns [p,q,.ref l,t])::led) [.obj C ns [p,q,.lst ws,t]] []:=by
 induction h with
 | nil=>rintro rfl;exact .one (.left (.right .nil)) (.inst (.keep (.keep (.swap (.keep .nil)))) .nil) (.keep .nil) (.one (.left .nil) .nil (.swap .nil) .nil)
 | one sp fm fl _ ih=>exact fun e=>.one (.right (.right sp)) (.lst fl (.keep fm)) (.keep .nil) (ih e)
theorem within_fn (n:Nat)(e:SV)(hn:n≤1000):Fn X 904 [.int n,e] [] 10 fun r l=>r=chainS X.w e n∧l=[]:=by
 refine' FnG.of_body n_law_within m_law_within i_law_within [] ?kc ?ki ⟨[],fun _ _=>rfl,?kb⟩ ?kk ?kl ⟨_,_,.nil,?_⟩
 walk_at "vin"
 walk_at "v"
 ·walk_at "o"
 ·walk_at "o"
 ·exact hn
 show forL _ ((List.range n).map fun (i:Nat)=>SV.int (i:Int)) _ _ _
 refine forL_ind (fun l sl led=>∃ v t a,sl=[some (.int n),some v,t,a]∧l.length≤n∧Fz [v] led [chainS X.w e (n - l.length)] []) ?_ ?_ (List.range n) _ _ ⟨e,none,none,rfl,by rw [List.length_range];exact Nat.le_refl _,by rw [List.length_range,Nat.sub_self];exact .nil⟩
 ·intro sl led hh
  apply invS3_e hh
  intro v t a hA
  walk_at "v"
  exact ⟨_,_,hA.2,rfl,rfl⟩
 ·intro x r sl led hh go
  apply invS3_e hh
  intro v t a hA
  have hl:=hA.1
  have h:=hA.2
  clear hh hA
  walk_at "v"
  refine newU1 (fI:=741) (k1:=2) (Eq.refl true) (Eq.refl true) (fun x=>element_init _ x _ _) (fun _ _=>.one (.left .allR) (.inst (.keep (.keep (.swap (.keep .nil)))) FzM.refl) (.keep .nil) .nil) fun x c=>?_
  walk_at "v"
  intro b
  walk_at "v"
  refine go _ _ ⟨.ref x,_,_,rfl,by simp at hl;walk_at "o",?_⟩
  have:=fz_chain (l:=b) (a:=x) (C:=752) (ns:=[19,20,21,22]) (p:=.str "g") (q:=.dct X.w [] []) (t:=.str "") h rfl
  rw [show n - r.length=(n - (x::r).length)+1 by simp at hl ⊢;walk_at "o"]
  exact this
end
end
section
noncomputable def i_d12:IS:=(.asg 2 (.op (.call 904) (.cons (.loc 1) (.cons (.op (.new 752) (.cons (.cst (.str "rect")) (.cons (.op (.dsp []) .nil) .nil))) .nil))) (.asg 3 (.op (.new 820) (.cons (.op (.dsp ["t"]) (.cons (.loc 2) .nil)) .nil)) .nil))
noncomputable def i_d4:IS:=(.ret (.and (.op (.cmp .LtE) (.cons (.op (.bin .Add) (.cons (.op (.bin .Add) (.cons (.loc 0) (.cons (.cst (.int 1)) .nil))) (.cons (.loc 1) .nil))) (.cons (.cst (.int 60)) .nil))) (.op (.cmp .Eq) (.cons (.op (.attr 24) (.cons (.loc 3) .nil)) (.cons (.op (.bin .Add) (.cons (.op (.bin .Add) (.cons (.loc 0) (.cons (.cst (.int 2)) .nil))) (.cons (.loc 1) .nil))) .nil)))))
noncomputable def q_d:MR:=⟨810,14,(.loc 3),(.cons (.op (.call 904) (.cons (.loc 0) (.cons (.op (.new 752) (.cons (.cst (.str "use")) (.cons (.op (.dsp ["href"]) (.cons (.cst (.str "#t")) .nil)) .nil))) .nil))) .nil)⟩
section
variable (X:Pw)
theorem newE {kk:Nat}{led:MLd}{nm ats:SV}{k:SV→MLd→Prop}(hk:Nat.blt 3 kk=true)(c:k (.obj 752 [19,20,21,22] [nm,ats,.lst [],.str ""]) led):newK X kk 752 [nm,ats] led k :=
 ⟨741,2,[],led,_,Eq.refl true,hk,.allR,fun x=>element_init X x _ _,fun x r l ⟨h1,c',h2⟩=>⟨h1,_,_,by rw [h2];exact .one (.left .allR) (.inst (.keep (.keep (.swap (.keep .nil)))) FzM.refl) (.keep .nil) (.one (.left .allR) FzM.refl (.swap .nil) .nil),c⟩⟩
theorem depth_fn (o i:Nat)(ho:o≤60)(hi:i≤61):FnG X 911 [.int o,.int i] [] 330 (fun r l=>r=.bool true∧l=[]) False True:=by
 refine FnG.of_try (nm:=["outer","inner","used","house"]) (mt:=[]) (nm':=["used","house"]) (zz:=60 < (o:Int)+(1+i)) (ir12:=i_d12) (ir4:=i_d4) (q:=q_d) rfl (by kernel_rfl) (fun s a b=>BindsTo.of_eq rfl) rfl (by kernel_rfl) (by kernel_rfl) (by kernel_rfl) (by kernel_rfl) (by kernel_rfl) (by kernel_rfl) (by kernel_rfl) (by kernel_rfl) (by kernel_rfl) (by kernel_rfl) (by kernel_rfl) (by decide) (fun h=>by walk_at "o") ?_
 refine slots_i (Eq.refl true) ?_
 walk_at "v"
 refine newE _ (Eq.refl true) ?_
 walk_at "v"
 refine callE (within_fn _ i (elO X.w "rect" []) (by walk_at "o")) (Eq.refl true) .allR ?_
 walk_at "v"
 refine newU (fI:=803) (k1:=2) (Eq.refl true) (Eq.refl true) (fun x=>uses_init _ x _) fun hx=>?_
 walk_at "v"
 ·exact ⟨_,rfl⟩
 refine newE _ (Eq.refl true) ?_
 walk_at "v"
 refine callE (within_fn _ o (useE X.w) (by walk_at "o")) (Eq.refl true) .allR ?_
 walk_at "v"
 refine callRP (put_fn _ o i ho hi) id (Nat.ble_eq.mpr (by walk_at "o")) (.left .nil) fun r hc=>?_
 walk_at "v"
 ·exact ⟨_,_,.one (.left .nil) .nil (.keep .nil) .nil,congrArg SV.bool (beq_iff_eq.mpr (by walk_at "o")),rfl⟩
 ·exfalso;walk_at "o"
end
end
section
noncomputable def i_law:IS:=(.ifS (.not (.op (.call 892) (.cons (.op .lst (.cons (.op .tup (.cons (.cst (.int 110)) (.cons (.cst (.int 100)) .nil))) (.cons (.op .tup (.cons (.cst (.int 117)) (.cons (.cst (.int 100)) .nil))) (.cons (.op .tup (.cons (.cst (.int 117)) (.cons (.cst (.int 600)) .nil))) .nil)))) (.cons (.cst (.int 1000)) (.cons (.cst (.bool true)) .nil))))) (.ret (.cst (.bool false))) .nil (.ifS (.not (.op (.call 897) (.cons (.op .lst (.cons (.cst (.int 200)) (.cons (.cst (.int 0)) (.cons (.cst (.int 0)) (.cons (.cst (.int 1)) (.cons (.cst (.int 0)) (.cons (.cst (.int 0)) .nil))))))) (.cons (.cst (.int 1)) (.cons (.cst (.int 0)) .nil))))) (.ret (.cst (.bool false))) .nil (.ifS (.or (.not (.op (.call 911) (.cons (.cst (.int 3)) (.cons (.cst (.int 56)) .nil)))) (.not (.op (.call 911) (.cons (.cst (.int 40)) (.cons (.cst (.int 20)) .nil))))) (.ret (.cst (.bool false))) .nil (.forS [1] true (.op (.bi .range) (.cons (.op (.bi .max) (.cons (.cst (.int 1)) (.cons (.op (.bi .min) (.cons (.cst (.int 2)) (.cons (.op (.bi .len) (.cons (.loc 0) .nil)) .nil))) .nil))) .nil)) (.asg 2 (.op (.call 852) (.cons (.loc 0) (.cons (.loc 1) .nil))) (.unp [3,4] (.op .tup (.cons (.op (.call 866) (.cons (.loc 2) (.cons (.op .lst (.cons (.cst (.int 1)) (.cons (.cst (.int 64)) (.cons (.cst (.int 7)) (.cons (.op (.bin .Pow) (.cons (.cst (.int 10)) (.cons (.cst (.int 6)) .nil))) (.cons (.op (.bin .Mult) (.cons (.cst (.int 3)) (.cons (.op (.bin .Pow) (.cons (.cst (.int 10)) (.cons (.cst (.int 9)) .nil))) .nil))) .nil)))))) .nil))) (.cons (.op (.bin .Sub) (.cons (.op (.call 859) (.cons (.loc 2) (.cons (.cst (.int 5)) .nil))) (.cons (.cst (.int 2)) .nil))) .nil))) (.asg 5 (.op (.bin .Add) (.cons (.cst (.int 2)) (.cons (.op (.call 859) (.cons (.loc 2) (.cons (.cst (.int 3)) .nil))) .nil))) (.asgU 6 (.op (.bi .range) (.cons (.loc 5) .nil)) (.op .tup (.cons (.op (.bin .Add) (.cons (.op (.bin .Mult) (.cons (.loc 4) (.cons (.loc 3) .nil))) (.cons (.op (.call 859) (.cons (.loc 2) (.cons (.cst (.int 9)) .nil))) .nil))) (.cons (.op (.bin .Sub) (.cons (.op (.call 859) (.cons (.loc 2) (.cons (.cst (.int 9)) .nil))) (.cons (.cst (.int 4)) .nil))) .nil))) (.ifS (.not (.op (.call 892) (.cons (.loc 6) (.cons (.loc 3) (.cons (.op (.cmp .Eq) (.cons (.op (.call 859) (.cons (.loc 2) (.cons (.cst (.int 2)) .nil))) (.cons (.cst (.int 0)) .nil))) .nil))))) (.ret (.cst (.bool false))) .nil (.asgU 7 (.op (.bi .range) (.cons (.cst (.int 6)) .nil)) (.op (.bin .Sub) (.cons (.op (.call 859) (.cons (.loc 2) (.cons (.cst (.int 41)) .nil))) (.cons (.cst (.int 20)) .nil))) (.ifS (.not (.op (.call 897) (.cons (.loc 7) (.cons (.op (.bin .Sub) (.cons (.op (.call 859) (.cons (.loc 2) (.cons (.cst (.int 9)) .nil))) (.cons (.cst (.int 4)) .nil))) (.cons (.op (.bin .Sub) (.cons (.op (.call 859) (.cons (.loc 2) (.cons (.cst (.int 9)) .nil))) (.cons (.cst (.int 4)) .nil))) .nil))))) (.ret (.cst (.bool false))) .nil (.asg 8 (.op (.call 859) (.cons (.loc 2) (.cons (.cst (.int 30)) .nil))) (.ifS (.not (.op (.call 911) (.cons (.loc 8) (.cons (.op (.bin .Sub) (.cons (.op (.call 866) (.cons (.loc 2) (.cons (.op .lst (.cons (.cst (.int 57)) (.cons (.cst (.int 58)) (.cons (.cst (.int 59)) (.cons (.cst (.int 60)) (.cons (.cst (.int 61)) .nil)))))) .nil))) (.cons (.loc 8) .nil))) .nil)))) (.ret (.cst (.bool false))) .nil .nil))))))))) (.ret (.cst (.bool true)))))))
noncomputable def n_law:List Str:=["script","k","source","bottom","far","many","places","parts","outer"]
noncomputable def m_law:List Str:=[]
theorem compL_J0 {F:SV→MLd→(SV→MLd→Prop)→Prop}{k:List SV→MLd→Prop}(J:List SV→MLd→Prop)(hs:∀ x acc led k2,J acc led→(∀ y led',J (acc++[y]) led'→k2 y led')→F x led k2):∀ (l acc:List SV) (led:MLd),J acc led→(∀ acc' led',acc'.length=acc.length+l.length→J acc' led'→k acc' led')→compL0 F l acc led k
 | [],acc,led,h,c=>c acc led rfl h
 | x::r,acc,led,h,c=>hs x acc led _ h fun y led' h'=>snocK_i (compL_J0 J hs r _ led' h' fun acc' led2 e=>c acc' led2 (by rw [e];simp only [List.length_append,List.length_cons,List.length_nil];walk_at "o"))
theorem compL_J {F:SV→MLd→(SV→MLd→Prop)→Prop}{k:List SV→MLd→Prop}(J:List SV→MLd→Prop)(hs:∀ x acc led k2,J acc led→(∀ y led',J (acc++[y]) led'→k2 y led')→F x led k2)(l acc:List SV)(led:MLd)(h:J acc led)(c:∀ acc' led',acc'.length=acc.length+l.length→J acc' led'→k acc' led'):compL F l acc led k:=⟨compL_J0 J hs l acc led h c⟩
theorem compL_S {β:Type}{F:SV→MLd→(SV→MLd→Prop)→Prop}{k:List SV→MLd→Prop}{src:Addr}{led:MLd}{f:β→SV}{R:β→Prop}{s0:Int × Int}(l:List SV)(h0:SrcOk s0)(hs:∀ x k2 s,SrcOk s→(∀ y s',R y→SrcOk s'→k2 (f y) ((src,srcO s')::led))→F x ((src,srcO s)::led) k2)
  (c:∀ (ps:List β) (s:Int × Int),ps.length=l.length→(∀ q∈ps,R q)→SrcOk s→k (ps.map f) ((src,srcO s)::led)):compL F l [] ((src,srcO s0)::led) k:=by
 refine compL_J (fun acc l=>∃ (ps:List β) (s:Int × Int),acc=ps.map f∧(∀ q∈ps,R q)∧SrcOk s∧l=(src,srcO s)::led) ?_ _ _ _ ⟨[],s0,rfl,List.forall_mem_nil _,h0,rfl⟩ ?_
 ·rintro z _ _ k2 ⟨ps,s,rfl,hps,hk,rfl⟩ c
  exact hs z k2 s hk fun y s' hy hk'=>c _ _ ⟨ps++[y],s',by rw [List.map_append];rfl,fun q hq=>(iA hq).elim (hps q) fun hq=>iS hq▸hy,hk',rfl⟩
 ·rintro _ _ hlen ⟨ps,s,rfl,hps,hk,rfl⟩
  exact c ps s (by rw [List.length_map] at hlen;exact hlen.trans (Nat.zero_add _)) hps hk
theorem cons_e {α:Type}{n:Nat}{C:List α→Prop}{l:List α}(h:l.length=n+1)(k:∀ x r,r.length=n→C (x::r)):C l:=by
 cases l with
 | nil=>cases h
 | cons x r=>exact k x r (Nat.succ.inj h)
theorem six_e {C:List Int→Prop}{l:List Int}(h:l.length=6)(k:∀ p0 p1 p2 p3 p4 p5,C [p0,p1,p2,p3,p4,p5]):C l :=
 cons_e h fun a _ h=>cons_e (C:=fun r=>C (a::r)) h fun b _ h=>cons_e (C:=fun r=>C (a::b::r)) h fun c _ h=>cons_e (C:=fun r=>C (a::b::c::r)) h fun d _ h=>cons_e (C:=fun r=>C (a::b::c::d::r)) h fun e _ h=>cons_e (C:=fun r=>C (a::b::c::d::e::r)) h fun f _ h=>(iN h)▸k a b c d e f
noncomputable def SlL (v:SV)(sl:Sl):Prop:=∃ a b c d e g h j,sl=[some v,a,b,c,d,e,g,h,j]
theorem SlL.i {v:SV}{a b c d e g h j:Option SV}:SlL v [some v,a,b,c,d,e,g,h,j]:=⟨_,_,_,_,_,_,_,_,rfl⟩
theorem SlL.e {C:Sl→Prop}{v:SV}{sl:Sl}(h:SlL v sl)(k:∀ a b c d e g h j,C [some v,a,b,c,d,e,g,h,j]):C sl:=el8a1 h fun _ _ _ _ _ _ _ _ e=>e▸k _ _ _ _ _ _ _ _
section
variable (X:Pw)
theorem depth_call {kk:Nat}{led:MLd}{k:SV→MLd→Prop}{o i:Int}(o0:0≤o)(i0:0≤i)(ho:o≤60)(hi:i≤61)(hk:Nat.blt 330 kk=true)(c:k (.bool true) led):callK X.low kk 911 [.int o,.int i] led k:=by
 obtain ⟨o,rfl⟩:=Int.eq_ofNat_of_zero_le o0
 obtain ⟨i,rfl⟩:=Int.eq_ofNat_of_zero_le i0
 exact ⟨330,[],led,_,hk,LSplit.allR,depth_fn X.low o i (by walk_at "o") (by walk_at "o"),fun _ _ e=>e.1▸e.2▸c⟩
theorem law_vc {ns:List Int}(hn:ns.length≤63):vcS X.low 400 i_law (slots0 [.sq (ns.map .int)] n_law) [] (endK fun r l=>r=.bool true):=by
 refine slots_i (Eq.refl true) ?_
 walk_at "v"
 refine callV (box_right_fn _ (q0:=(110,100)) (ps:=[(117,100),(117,600)]) (b:=1000) (c:=true) (by decide) (by decide) (by decide) (by decide) (by decide)) (Eq.refl true) ?_
 walk_at "v"
 refine callV (stretch_right_fn _ (p0:=200) (p1:=0) (p2:=0) (p3:=1) (p4:=0) (p5:=0) (u:=1) (v:=0) (by decide) (by decide) (by decide) (by decide) (by decide) (by decide)) (Eq.refl true) ?_
 walk_at "v"
 refine depth_call X (by decide) (by decide) (by decide) (by decide) (Eq.refl true) ?_
 walk_at "v"
 refine depth_call X (by decide) (by decide) (by decide) (by decide) (Eq.refl true) ?_
 walk_at "v"
 ·rw [List.length_map];walk_at "o"
 ·repeat' split
  all_goals walk_at "o"
 ·repeat' split
  all_goals walk_at "o"
 ·repeat' split
  all_goals walk_at "o"
 refine forL_ind (f:=fun (i:Nat)=>SV.int (i:Int)) (fun l sl led=>(∀ x∈l,x≤1)∧SlL (.sq (ns.map .int)) sl) ?_ ?_ (List.range _) _ _ ⟨fun x hx=>?_,SlL.i⟩
 ·intro _ led hqq
  apply SlL.e hqq.2
  intro a b c d e g h j
  walk_at "v"
  exact ⟨_,_,.nil,rfl⟩
 rotate_left
 ·have:=List.mem_range.mp hx
  revert this
  repeat' split
  all_goals walk_at "o"
 intro k r sl led hh go
 replace go:∀ {a b c d e g h j led},forL0 _ (r.map _) [some (.sq (ns.map .int)),a,b,c,d,e,g,h,j] led _:=fun {a b c d e g h j led}=>go _ led ⟨fun x hx=>hh.1 x (.tail _ hx),SlL.i⟩
 have hk:=hh.1 k (.head _)
 apply SlL.e hh.2
 clear hh
 intro a b c d e g h j
 walk_at "v"
 refine callQ (pool_fn _ (k:=k) (by walk_at "o") (by walk_at "o")) (Eq.refl true) .allR ?_
 intro src s hs
 walk_at "v"
 all_goals first
  | decide
  | exact IntMulOk.of_left (by decide)
  | skip
 refine callQ (one_fn _ (ns:=[1,64,7,10 ^ 6,3 * 10 ^ 9]) hs (by decide) (by decide)) (Eq.refl true) (.left .allR) ?_
 intro b s hb hs
 walk_at "v"
 refine callQ (take_fn _ (top:=5) hs (by decide) (by decide)) (Eq.refl true) (.left .allR) ?_
 intro far s hf0 hf1 hs
 walk_at "v"
 refine callQ (take_fn _ (top:=3) hs (by decide) (by decide)) (Eq.refl true) (.left .allR) ?_
 intro mn s hm0 hm1 hs
 walk_at "v"
 ·walk_at "o"
 ·walk_at "o"
 ·walk_at "o"
 have hb':b=1∨b=64∨b=7∨b=1000000∨b=3000000000:=by simpa using hb
 have hfb:=mul_bnd (a:=far - 2) (b:=b) (A:=2) (B:=3000000000) (by walk_at "o") (by walk_at "o")
 refine compL_S (f:=spS) (R:=fun q=>-10000000000 < q.1∧q.1 < 10000000000∧-1000 < q.2∧q.2 < 1000) _ hs (fun _ k2 s hs c=>?_) ?_
 ·clear go
  walk_at "v"
  ·exact mulA (by walk_at "o") (by walk_at "o")
  refine callQ (take_fn _ (top:=9) hs (by decide) (by decide)) (Eq.refl true) (.left .allR) ?_
  intro d1 s h10 h11 hs
  walk_at "v"
  refine callQ (take_fn _ (top:=9) hs (by decide) (by decide)) (Eq.refl true) (.left .allR) ?_
  intro d2 s h20 h21 hs
  walk_at "v"
  refine c ((far - 2) * b+d1,d2 - 4) _ ?_ hs
  dsimp only
  walk_at "o"
 clear hs
 intro ps s hlen hps hs
 rw [rangeV,List.length_map,List.length_range] at hlen
 cases ps with
 | nil=>exfalso;simp at hlen;walk_at "o"
 | cons q0 ps =>
 walk_at "v"
 refine callQ (take_fn _ (top:=2) hs (by decide) (by decide)) (Eq.refl true) (.left .allR) ?_
 intro d s _ _ hs
 walk_at "v"
 rw [List.length_cons] at hlen
 refine callV (box_right_fn _ (q0:=q0) (ps:=ps) (b:=b) (by walk_at "o") (by walk_at "o") (by walk_at "o") (by walk_at "o") hps) (Eq.refl true) ?_
 clear hps hlen hfb hb' hb
 walk_at "v"
 ·decide
 ·decide
 refine compL_S (f:=SV.int) (R:=fun q=>-20≤q∧q≤20) _ hs (fun _ k2 s hs c=>?_) ?_
 ·clear go
  walk_at "v"
  refine callQ (take_fn _ (top:=41) hs (by decide) (by decide)) (Eq.refl true) (.left .allR) ?_
  intro d1 s h10 h11 hs
  walk_at "v"
  exact c (d1 - 20) _ ⟨by walk_at "o",by walk_at "o"⟩ hs
 clear hs
 intro ps s hlen hps hs
 revert hps
 apply six_e hlen
 clear hlen ps
 intro p0 p1 p2 p3 p4 p5 hps
 have b0:=hps _ (.head _)
 have b1:=hps _ (.tail _ (.head _))
 have b2:=hps _ (.tail _ (.tail _ (.head _)))
 have b3:=hps _ (.tail _ (.tail _ (.tail _ (.head _))))
 clear hps
 walk_at "v"
 refine callQ (take_fn _ (top:=9) hs (by decide) (by decide)) (Eq.refl true) (.left .allR) ?_
 intro u s hu0 hu1 hs
 walk_at "v"
 refine callQ (take_fn _ (top:=9) hs (by decide) (by decide)) (Eq.refl true) (.left .allR) ?_
 intro v s hv0 hv1 hs
 walk_at "v"
 refine callV (stretch_right_fn _ (p0:=p0) (p1:=p1) (p2:=p2) (p3:=p3) (p4:=p4) (p5:=p5) (u:=u - 4) (v:=v - 4) (by walk_at "o") (by walk_at "o") (by walk_at "o") (by walk_at "o") (by walk_at "o") (by walk_at "o")) (Eq.refl true) ?_
 clear b0 b1 b2 b3 hu0 hu1 hv0 hv1
 walk_at "v"
 refine callQ (take_fn _ (top:=30) hs (by decide) (by decide)) (Eq.refl true) (.left .allR) ?_
 intro o s ho0 ho1 hs
 walk_at "v"
 refine callQ (one_fn _ (ns:=[57,58,59,60,61]) hs (by decide) (by decide)) (Eq.refl true) (.left .allR) ?_
 intro q s hq hs
 have hq':q=57∨q=58∨q=59∨q=60∨q=61:=by simpa using hq
 walk_at "v"
 refine depth_call X (by walk_at "o") (by walk_at "o") (by walk_at "o") (by walk_at "o") (Eq.refl true) ?_
 walk_at "v"
 exact go
end
end
end Mine
open Mine in
theorem PySem.Challenge.cw_qz0069_01_holds : PySem.Challenge.rw_qz0069_01.Holds := by
 w_on
 refine H.hd0 _ _ (by rfl) (by rfl) (by rfl) ?_
 k_fill
 intro w s₀ s₁ mg mb G Y fa o pm cd doc dV kV ho hd hcd hD hmg hg args vals as hpre hlay hrd hwl hlo
 have KX:=kIn_of Y
 have X:=(Ground.X G).1
 have V:=(Ground.X G).2
 refine Ground.open G ?_
 intro T B D TE TW
 try (refine guard_noD D (by decide +kernel) ?_;clear D)
 obtain ⟨_,_,M⟩:=bmod_of_top T
 have TA:=at_of_top T
 try (obtain ⟨_,_,he,B0⟩:=based_of_top T rfl hmg ho hd;have he':cd=_:=he;subst he';clear he)
 clear hmg
 wrow_args hpre hlay hrd hwl hlo
 all_goals (
  first | refine callC_kw (enter_call ?_) | refine enter_call ?_ | refine callC_kw (enter_callW ?_) | refine enter_callW ?_ | w_how
  w_top on
  try refine codeAny_mono ?_ (fun _ _ g=>GoodW.toG g)
  have K0:=below_caller (Top.heap T)
  rename (Heap.IsList _ _ (List.toArray _))=>hScr
  rename IntsAre _ _=>hInts
  rename (¬ (_:Int) < _)=>hLen
  have he:=Dflts.none hD rfl
  subst he
  have he:=Dflts.noKw hD
  subst he
  refine low_entry (nm:=n_law) (mt:=m_law) (ir:=i_law) (x:="script") KX T ho (fd_plain hd) hcd rfl (by kernel_rfl) rfl (by kernel_rfl) (by kernel_rfl) (by kernel_rfl) (by kernel_rfl) hScr hInts rfl rfl rfl (law_vc ⟨w,_,_,_,mg,mb,False,False⟩ (by omega)) fun s' m F g o=>goodW_bool F (g.trans hg) (raisesW_false (by wrow_none_raised)) (by wrow_post) o)
