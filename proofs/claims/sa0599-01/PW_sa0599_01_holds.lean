import PyProof.Rows.All
import Wide.All
import OpenK.AllK
import Wide.FinOn
import KE.KNestM
import PyProof.ExcBaseAll.Exception
import KE.KTryDeep
import PyProof.InstStoreFacts
import KE.KTryDeepN
import PyProof.ExcArgs
import KE.KSortTup
import KE.KSortKey
import Lean
import PySem.Challenge.RW_sa0599_01
set_option Elab.async false
set_option compiler.extract_closed false
set_option linter.all false
set_option genSizeOf false
set_option genInjectivity false
set_option maxRecDepth 100000
set_option maxHeartbeats 8000000
open PySem PySem.W PyProof.Rows PySem.Calls
namespace Mine
section
set_option maxRecDepth 100000
set_option maxHeartbeats 8000000
noncomputable abbrev S (s : String) : Str := Str.ofString s
noncomputable abbrev PW : Program := PySem.Challenge.pw_sa0599_01
noncomputable def stmtAt : List Stmt → Nat → Stmt
  | s :: _, 0 => s
  | _ :: r, n + 1 => stmtAt r n
  | [], _ => .Pass ⟨0, 0, 0, 0⟩
noncomputable def clsBody : Stmt → List Stmt
  | .ClassDef _ _ _ b .. => b
  | _ => []
noncomputable def fo (st : Stmt) (qual : Str) (cl : List (Str × Addr)) (dV kV doc pm : Value) (an : Option Addr) (cd ct : Value) (bi : Addr) : Data := match st with
  | .FunctionDef n a b _ _ _ sc _ _ _ => .func ⟨n, qual, a, .stmts b, sc, (3:Nat), cl, dV, kV, doc, pm, an, cd, ct, bi⟩
  | _ => .plain
noncomputable def fo0 (st : Stmt) (qual : Str) (cl : List (Str × Addr)) (dV kV doc pm : Value) (an : Option Addr) (cd ct : Value) (bi : Addr) : Data := match st with
  | .FunctionDef n a b _ _ _ sc _ _ _ => .func ⟨n, qual, a, .stmts b, sc, (0:Nat), cl, dV, kV, doc, pm, an, cd, ct, bi⟩
  | _ => .plain
noncomputable def at_ (i : Nat) : Stmt := stmtAt PW.main.body i
noncomputable def inC (i j : Nat) : Stmt := stmtAt (clsBody (at_ i)) j
noncomputable def en (P : Params) (s : String) (t : Tok) (v : Value) : DictEntry := ⟨PyData.keyHash P (S s), .str (S s) t, v⟩
noncomputable def fu (i : Nat) := fo (at_ i)
noncomputable def fv (i j : Nat) := fo (inC i j)
noncomputable def ents3 (P : Params) : List DictEntry :=
  en P "__doc__" (166:Nat) .none :: en P "__package__" (167:Nat) .none ::
  en P "__loader__" (168:Nat) (.builtin "__main__.__loader__#opaque") :: en P "__spec__" (169:Nat) .none ::
  en P "__annotations__" (170:Nat) (.ref (6:Nat)) :: en P "__builtins__" (171:Nat) (.ref (4:Nat)) ::
  en P "__file__" (173:Nat) (.str (S "/claim/cut.py") (172:Nat)) :: en P "__cached__" (174:Nat) .none ::
  en P "SnobolError" (222:Nat) (.ref (34:Nat)) :: en P "Pattern" (251:Nat) (.ref (54:Nat)) ::
  en P "Delayed" (280:Nat) (.ref (75:Nat)) :: en P "Code" (309:Nat) (.ref (96:Nat)) ::
  en P "NameRef" (342:Nat) (.ref (117:Nat)) :: en P "Holder" (374:Nat) (.ref (138:Nat)) ::
  en P "kind_of" (381:Nat) (.ref (149:Nat)) :: en P "fits" (389:Nat) (.ref (156:Nat)) ::
  en P "whole_of_text" (400:Nat) (.ref (163:Nat)) :: en P "text_of_whole" (409:Nat) (.ref (170:Nat)) ::
  en P "to_whole" (417:Nat) (.ref (177:Nat)) :: en P "to_text" (424:Nat) (.ref (184:Nat)) ::
  en P "need_whole" (433:Nat) (.ref (191:Nat)) :: en P "need_text" (441:Nat) (.ref (198:Nat)) ::
  en P "need_size" (450:Nat) (.ref (205:Nat)) :: en P "Array" (482:Nat) (.ref (222:Nat)) ::
  en P "Table" (509:Nat) (.ref (241:Nat)) :: en P "Data" (538:Nat) (.ref (260:Nat)) ::
  en P "size_of_bounds" (548:Nat) (.ref (269:Nat)) :: en P "put_entry" (557:Nat) (.ref (276:Nat)) ::
  en P "field_ref" (565:Nat) (.ref (283:Nat)) :: en P "slot_get" (572:Nat) (.ref (290:Nat)) ::
  en P "slot_set" (580:Nat) (.ref (297:Nat)) :: en P "data_made" (590:Nat) (.ref (304:Nat)) ::
  en P "copy_of" (600:Nat) (.ref (311:Nat)) :: en P "World" (663:Nat) (.ref (329:Nat)) ::
  en P "next_number" (670:Nat) (.ref (340:Nat)) :: en P "get_var" (679:Nat) (.ref (347:Nat)) ::
  en P "set_var" (688:Nat) (.ref (354:Nat)) :: en P "FREE" (692:Nat) (.int 0 (691:Nat)) ::
  en P "REACHED" (694:Nat) (.int 1 (693:Nat)) :: en P "held" (702:Nat) (.ref (361:Nat)) ::
  en P "made_data" (712:Nat) (.ref (368:Nat)) :: en P "made_copy" (720:Nat) (.ref (375:Nat)) ::
  en P "things_in_node" (730:Nat) (.ref (382:Nat)) :: en P "things_in" (736:Nat) (.ref (387:Nat)) ::
  en P "reach" (746:Nat) (.ref (394:Nat)) :: en P "world_roots" (752:Nat) (.ref (399:Nat)) ::
  en P "collect" (758:Nat) (.ref (404:Nat)) :: en P "open_keywords" (766:Nat) (.ref (411:Nat)) ::
  en P "told_keywords" (772:Nat) (.ref (418:Nat)) :: en P "pattern_keywords" (778:Nat) (.ref (425:Nat)) ::
  en P "alphabet" (784:Nat) (.ref (430:Nat)) :: en P "is_keyword" (791:Nat) (.ref (437:Nat)) ::
  en P "is_protected" (798:Nat) (.ref (444:Nat)) :: en P "keyword_get" (806:Nat) (.ref (451:Nat)) ::
  en P "keyword_set" (815:Nat) (.ref (458:Nat)) :: en P "ref_get" (825:Nat) (.ref (465:Nat)) ::
  en P "ref_set" (834:Nat) (.ref (472:Nat)) :: en P "_law_dipped" (846:Nat) (.ref (479:Nat)) ::
  en P "_law_held" (855:Nat) (.ref (486:Nat)) :: en P "_law_led" (864:Nat) (.ref (493:Nat)) ::
  en P "_law_row" (874:Nat) (.ref (500:Nat)) :: en P "_law_swept" (882:Nat) (.ref (507:Nat)) ::
  en P "_law_turned" (892:Nat) (.ref (514:Nat)) :: en P "_law_ranged" (902:Nat) (.ref (521:Nat)) ::
  en P "_law_lacks" (910:Nat) (.ref (528:Nat)) :: en P "law" (916:Nat) (.ref (533:Nat)) :: []
noncomputable def f12 : List Value :=
  (.int 2 (0:Nat)) :: (.int 0 (0:Nat)) :: (.ref (21:Nat)) :: (.int 8 (0:Nat)) :: (.int 0 (0:Nat)) :: (.ref (43:Nat)) ::
  (.int 12 (0:Nat)) :: (.int 0 (0:Nat)) :: (.ref (64:Nat)) :: (.int 16 (0:Nat)) :: (.int 0 (0:Nat)) :: (.ref (85:Nat)) ::
  (.int 20 (0:Nat)) :: (.int 0 (0:Nat)) :: (.ref (106:Nat)) :: (.int 26 (0:Nat)) :: (.int 0 (0:Nat)) :: (.ref (127:Nat)) ::
  (.int 32 (0:Nat)) :: (.int 0 (0:Nat)) :: (.ref (148:Nat)) :: (.int 46 (0:Nat)) :: (.int 0 (0:Nat)) :: (.ref (155:Nat)) ::
  (.int 48 (0:Nat)) :: (.int 0 (0:Nat)) :: (.ref (162:Nat)) :: (.int 61 (0:Nat)) :: (.int 0 (0:Nat)) :: (.ref (169:Nat)) ::
  (.int 67 (0:Nat)) :: (.int 0 (0:Nat)) :: (.ref (176:Nat)) :: (.int 71 (0:Nat)) :: (.int 0 (0:Nat)) :: (.ref (183:Nat)) ::
  (.int 75 (0:Nat)) :: (.int 0 (0:Nat)) :: (.ref (190:Nat)) :: (.int 80 (0:Nat)) :: (.int 0 (0:Nat)) :: (.ref (197:Nat)) ::
  (.int 85 (0:Nat)) :: (.int 0 (0:Nat)) :: (.ref (204:Nat)) :: (.int 91 (0:Nat)) :: (.int 0 (0:Nat)) :: (.ref (211:Nat)) ::
  (.int 98 (0:Nat)) :: (.int 0 (0:Nat)) :: (.ref (230:Nat)) :: (.int 105 (0:Nat)) :: (.int 0 (0:Nat)) :: (.ref (249:Nat)) ::
  (.int 111 (0:Nat)) :: (.int 0 (0:Nat)) :: (.ref (268:Nat)) :: (.int 116 (0:Nat)) :: (.int 0 (0:Nat)) :: (.ref (275:Nat)) ::
  (.int 120 (0:Nat)) :: (.int 0 (0:Nat)) :: (.ref (282:Nat)) :: (.int 126 (0:Nat)) :: (.int 0 (0:Nat)) :: (.ref (289:Nat)) ::
  (.int 132 (0:Nat)) :: (.int 0 (0:Nat)) :: (.ref (296:Nat)) :: (.int 139 (0:Nat)) :: (.int 0 (0:Nat)) :: (.ref (303:Nat)) ::
  (.int 141 (0:Nat)) :: (.int 0 (0:Nat)) :: (.ref (310:Nat)) :: (.int 155 (0:Nat)) :: (.int 0 (0:Nat)) :: (.ref (317:Nat)) ::
  (.int 184 (0:Nat)) :: (.int 0 (0:Nat)) :: (.ref (339:Nat)) :: (.int 187 (0:Nat)) :: (.int 0 (0:Nat)) :: (.ref (346:Nat)) ::
  (.int 197 (0:Nat)) :: (.int 0 (0:Nat)) :: (.ref (353:Nat)) :: (.int 206 (0:Nat)) :: (.int 0 (0:Nat)) :: (.ref (360:Nat)) ::
  (.int 209 (0:Nat)) :: (.int 0 (0:Nat)) :: (.ref (367:Nat)) :: (.int 211 (0:Nat)) :: (.int 0 (0:Nat)) :: (.ref (374:Nat)) ::
  (.int 215 (0:Nat)) :: (.int 0 (0:Nat)) :: (.ref (381:Nat)) :: (.int 224 (0:Nat)) :: (.int 0 (0:Nat)) :: (.ref (386:Nat)) ::
  (.int 234 (0:Nat)) :: (.int 0 (0:Nat)) :: (.ref (393:Nat)) :: (.int 245 (0:Nat)) :: (.int 0 (0:Nat)) :: (.ref (398:Nat)) ::
  (.int 247 (0:Nat)) :: (.int 0 (0:Nat)) :: (.ref (403:Nat)) :: (.int 255 (0:Nat)) :: (.int 0 (0:Nat)) :: (.ref (410:Nat)) ::
  (.int 257 (0:Nat)) :: (.int 0 (0:Nat)) :: (.ref (417:Nat)) :: (.int 259 (0:Nat)) :: (.int 0 (0:Nat)) :: (.ref (424:Nat)) ::
  (.int 261 (0:Nat)) :: (.int 0 (0:Nat)) :: (.ref (429:Nat)) :: (.int 263 (0:Nat)) :: (.int 0 (0:Nat)) :: (.ref (436:Nat)) ::
  (.int 265 (0:Nat)) :: (.int 0 (0:Nat)) :: (.ref (443:Nat)) :: (.int 267 (0:Nat)) :: (.int 0 (0:Nat)) :: (.ref (450:Nat)) ::
  (.int 277 (0:Nat)) :: (.int 0 (0:Nat)) :: (.ref (457:Nat)) :: (.int 286 (0:Nat)) :: (.int 0 (0:Nat)) :: (.ref (464:Nat)) ::
  (.int 292 (0:Nat)) :: (.int 0 (0:Nat)) :: (.ref (471:Nat)) :: (.int 300 (0:Nat)) :: (.int 0 (0:Nat)) :: (.ref (478:Nat)) ::
  (.int 304 (0:Nat)) :: (.int 0 (0:Nat)) :: (.ref (485:Nat)) :: (.int 306 (0:Nat)) :: (.int 0 (0:Nat)) :: (.ref (492:Nat)) ::
  (.int 308 (0:Nat)) :: (.int 0 (0:Nat)) :: (.ref (499:Nat)) :: (.int 314 (0:Nat)) :: (.int 0 (0:Nat)) :: (.ref (506:Nat)) ::
  (.int 316 (0:Nat)) :: (.int 0 (0:Nat)) :: (.ref (513:Nat)) :: (.int 326 (0:Nat)) :: (.int 0 (0:Nat)) :: (.ref (520:Nat)) ::
  (.int 342 (0:Nat)) :: (.int 0 (0:Nat)) :: (.ref (527:Nat)) :: (.int 350 (0:Nat)) :: (.int 0 (0:Nat)) :: (.ref (532:Nat)) :: []
noncomputable def o3 (P : Params) (nm : String) (k : Tok) (n : Nat) : Obj := ⟨.type "dict", none, .dict ⟨en P "__name__" (165:Nat) (.str (S nm) k) :: (ents3 P).take (n - 1)⟩ n, #[]⟩
noncomputable def o12 (n : Nat) : Obj := ⟨.none, none, .fields ⟨f12.take n⟩, #[]⟩
noncomputable def o138 (n : Nat) : Obj := ⟨(.type "type"), none, (.cls { name := (Str.ofString "Holder"), bases := [(.type "object")], mro := [(.ref (138:Nat)), (.type "object")], ns := (137:Nat), qualname := (Str.ofString "Holder"), hasDict := true, slotNames := [], subclasses := ([(.ref (222:Nat)), (.ref (241:Nat)), (.ref (260:Nat))] : List Value).take n, abstract := false, collection := none, hasDel := false }), #[none, none, (some (.str (Str.ofString "Holder") (343:Nat))), (some (.str (Str.ofString "Holder") (351:Nat))), (some (.builtin "object.__new__")), (some (.bool true))]⟩
noncomputable def oc0 (P : Params) : List Obj :=
  boot_o_0 P ::
  boot_o_1 P :: []
noncomputable def oc1 (P : Params) : List Obj :=
  ⟨.none, none, (.dict #[en P "type.__subclasses__.Exception.0" (219:Nat) (.int 34 (0:Nat)), en P "type.__subclasses__.Exception.n" (220:Nat) (.int 1 (0:Nat))] 2), #[]⟩ ::
  ⟨(.type "dict"), none, (.dict #[en P "__name__" (165:Nat) (.str (S "law_sa0599_01") (835:Nat)), en P "__doc__" (166:Nat) .none, en P "__package__" (167:Nat) .none, en P "__loader__" (168:Nat) (.builtin "__main__.__loader__#opaque"), en P "__spec__" (169:Nat) .none, en P "__annotations__" (170:Nat) (.ref (6:Nat)), en P "__builtins__" (171:Nat) (.ref (4:Nat)), en P "__file__" (173:Nat) (.str (S "/claim/cut.py") (172:Nat)), en P "__cached__" (174:Nat) .none, en P "SnobolError" (222:Nat) (.ref (34:Nat)), en P "Pattern" (251:Nat) (.ref (54:Nat)), en P "Delayed" (280:Nat) (.ref (75:Nat)), en P "Code" (309:Nat) (.ref (96:Nat)), en P "NameRef" (342:Nat) (.ref (117:Nat)), en P "Holder" (374:Nat) (.ref (138:Nat)), en P "kind_of" (381:Nat) (.ref (149:Nat)), en P "fits" (389:Nat) (.ref (156:Nat)), en P "whole_of_text" (400:Nat) (.ref (163:Nat)), en P "text_of_whole" (409:Nat) (.ref (170:Nat)), en P "to_whole" (417:Nat) (.ref (177:Nat)), en P "to_text" (424:Nat) (.ref (184:Nat)), en P "need_whole" (433:Nat) (.ref (191:Nat)), en P "need_text" (441:Nat) (.ref (198:Nat)), en P "need_size" (450:Nat) (.ref (205:Nat)), en P "Array" (482:Nat) (.ref (222:Nat)), en P "Table" (509:Nat) (.ref (241:Nat)), en P "Data" (538:Nat) (.ref (260:Nat)), en P "size_of_bounds" (548:Nat) (.ref (269:Nat)), en P "put_entry" (557:Nat) (.ref (276:Nat)), en P "field_ref" (565:Nat) (.ref (283:Nat)), en P "slot_get" (572:Nat) (.ref (290:Nat)), en P "slot_set" (580:Nat) (.ref (297:Nat)), en P "data_made" (590:Nat) (.ref (304:Nat)), en P "copy_of" (600:Nat) (.ref (311:Nat)), en P "World" (663:Nat) (.ref (329:Nat)), en P "next_number" (670:Nat) (.ref (340:Nat)), en P "get_var" (679:Nat) (.ref (347:Nat)), en P "set_var" (688:Nat) (.ref (354:Nat)), en P "FREE" (692:Nat) (.int 0 (691:Nat)), en P "REACHED" (694:Nat) (.int 1 (693:Nat)), en P "held" (702:Nat) (.ref (361:Nat)), en P "made_data" (712:Nat) (.ref (368:Nat)), en P "made_copy" (720:Nat) (.ref (375:Nat)), en P "things_in_node" (730:Nat) (.ref (382:Nat)), en P "things_in" (736:Nat) (.ref (387:Nat)), en P "reach" (746:Nat) (.ref (394:Nat)), en P "world_roots" (752:Nat) (.ref (399:Nat)), en P "collect" (758:Nat) (.ref (404:Nat)), en P "open_keywords" (766:Nat) (.ref (411:Nat)), en P "told_keywords" (772:Nat) (.ref (418:Nat)), en P "pattern_keywords" (778:Nat) (.ref (425:Nat)), en P "alphabet" (784:Nat) (.ref (430:Nat)), en P "is_keyword" (791:Nat) (.ref (437:Nat)), en P "is_protected" (798:Nat) (.ref (444:Nat)), en P "keyword_get" (806:Nat) (.ref (451:Nat)), en P "keyword_set" (815:Nat) (.ref (458:Nat)), en P "ref_get" (825:Nat) (.ref (465:Nat)), en P "ref_set" (834:Nat) (.ref (472:Nat)), en P "_law_dipped" (846:Nat) (.ref (479:Nat)), en P "_law_held" (855:Nat) (.ref (486:Nat)), en P "_law_led" (864:Nat) (.ref (493:Nat)), en P "_law_row" (874:Nat) (.ref (500:Nat)), en P "_law_swept" (882:Nat) (.ref (507:Nat)), en P "_law_turned" (892:Nat) (.ref (514:Nat)), en P "_law_ranged" (902:Nat) (.ref (521:Nat)), en P "_law_lacks" (910:Nat) (.ref (528:Nat)), en P "law" (916:Nat) (.ref (533:Nat))] 67), #[]⟩ :: []
noncomputable def oc2 (P : Params) : List Obj :=
  boot_o_4 P ::
  boot_o_5 P ::
  boot_o_6 P ::
  boot_o_7 P ::
  boot_o_8 P ::
  boot_o_9 P ::
  boot_o_10 P ::
  ⟨(.type "tuple"), none, (.seq #[] 0), #[]⟩ ::
  o12 168 ::
  ⟨(.type "code"), none, (.fields #[(.str (Str.ofString "<module>") (182:Nat)), (.str (Str.ofString "<module>") (183:Nat)), (.str (Str.ofString "/claim/cut.py") (184:Nat)), (.int 1 (0:Nat)), (.int 0 (0:Nat)), (.int 0 (0:Nat)), (.int 0 (0:Nat)), (.int 0 (0:Nat)), (.ref (11:Nat)), (.bool false), (.int 181 (0:Nat)), (.ref (12:Nat)), .none, .none, .none, .none, (.int 185 (0:Nat)), (.int 1 (0:Nat)), (.str (Str.ofString "/claim/cut.py") (186:Nat))]), #[]⟩ ::
  ⟨(.type "frame"), none, .plain, #[(some (.ref (13:Nat))), (some (.ref (3:Nat))), (some (.ref (3:Nat))), none, (some (.str (Str.ofString "__main__") (164:Nat))), none, (some (.ref (0:Nat)))]⟩ :: []
noncomputable def oc3 (P : Params) : List Obj :=
  ⟨(.type "tuple"), none, (.seq #[(.type "Exception")] 0), #[]⟩ :: []
noncomputable def oc4 (P : Params) : List Obj :=
  ⟨(.type "builtin_function_or_method"), none, (.fields #[(.builtin "type.__prepare__"), (.type "type")]), #[]⟩ ::
  ⟨(.type "dict"), none, (.dict #[en P "__module__" (196:Nat) (.str (Str.ofString "snobol.values") (187:Nat)), en P "__qualname__" (198:Nat) (.str (Str.ofString "SnobolError") (197:Nat)), en P "__firstlineno__" (200:Nat) (.int 2 (199:Nat)), en P "__init__" (211:Nat) (.ref (31:Nat)), en P "__static_attributes__" (214:Nat) (.ref (32:Nat)), en P "__classcell__" (215:Nat) (.ref (18:Nat))] 6), #[]⟩ :: []
noncomputable def oc5 (P : Params) : List Obj :=
  ⟨(.type "cell"), none, (.cell (some (.ref (34:Nat)))), #[]⟩ :: []
noncomputable def oc6 (P : Params) : List Obj :=
  ⟨(.type "tuple"), none, (.seq #[] 0), #[]⟩ ::
  ⟨.none, none, (.fields #[(.int 4 (0:Nat)), (.int 4 (0:Nat)), (.ref (30:Nat))]), #[]⟩ ::
  ⟨(.type "code"), none, (.fields #[(.str (Str.ofString "SnobolError") (191:Nat)), (.str (Str.ofString "SnobolError") (192:Nat)), (.str (Str.ofString "/claim/cut.py") (193:Nat)), (.int 2 (0:Nat)), (.int 0 (0:Nat)), (.int 0 (0:Nat)), (.int 0 (0:Nat)), (.int 0 (0:Nat)), (.ref (19:Nat)), (.bool false), (.int 181 (0:Nat)), (.ref (20:Nat)), .none, .none, .none, .none, (.int 194 (0:Nat)), (.int 2 (0:Nat)), (.str (Str.ofString "/claim/cut.py") (195:Nat))]), #[]⟩ ::
  ⟨(.type "frame"), none, .plain, #[(some (.ref (21:Nat))), (some (.ref (3:Nat))), (some (.ref (17:Nat))), none, (some (.str (Str.ofString "snobol.values") (187:Nat))), none, (some (.ref (0:Nat)))]⟩ :: []
noncomputable def oc7 (P : Params) : List Obj :=
  ⟨(.type "tuple"), none, (.seq #[(.str (Str.ofString "") (201:Nat))] 0), #[]⟩ ::
  ⟨(.type "tuple"), none, (.seq #[(.ref (18:Nat))] 0), #[]⟩ ::
  ⟨(.type "tuple"), none, (.seq #[(.str (Str.ofString "__class__") (205:Nat))] 0), #[]⟩ :: []
noncomputable def oc8 (P : Params) : List Obj :=
  ⟨.none, none, (.fields #[]), #[]⟩ :: []
noncomputable def oc9 (P : Params) : List Obj :=
  ⟨(.type "tuple"), none, (.seq #[(.str (Str.ofString "self") (206:Nat)), (.str (Str.ofString "number") (207:Nat)), (.str (Str.ofString "told") (208:Nat))] 0), #[]⟩ ::
  ⟨(.type "tuple"), none, (.seq #[] 0), #[]⟩ :: []
noncomputable def oc10 (P : Params) : List Obj :=
  ⟨.none, none, (fo0 (inC 1 0) (Str.ofString "SnobolError.__init__") [] .none .none .none .none none .none .none (0:Nat)), #[]⟩ :: []
noncomputable def oc11 (P : Params) : List Obj :=
  ⟨(.type "code"), none, (.fields #[(.str (Str.ofString "__init__") (202:Nat)), (.str (Str.ofString "SnobolError.__init__") (203:Nat)), (.str (Str.ofString "/claim/cut.py") (204:Nat)), (.int 4 (0:Nat)), (.int 3 (0:Nat)), (.int 0 (0:Nat)), (.int 0 (0:Nat)), (.int 3 (0:Nat)), (.ref (25:Nat)), (.bool true), (.int 181 (0:Nat)), (.ref (26:Nat)), .none, (.ref (27:Nat)), (.ref (28:Nat)), (.ref (29:Nat)), (.int 209 (0:Nat)), (.int 4 (0:Nat)), (.str (Str.ofString "/claim/cut.py") (210:Nat))]), #[]⟩ ::
  ⟨(.type "function"), none, (fo (inC 1 0) (Str.ofString "SnobolError.__init__") [((Str.ofString "__class__"), (18:Nat))] (.ref (23:Nat)) .none .none (.str (Str.ofString "snobol.values") (187:Nat)) none (.ref (30:Nat)) (.ref (24:Nat)) (0:Nat)), #[]⟩ ::
  ⟨(.type "tuple"), none, (.seq #[(.str (Str.ofString "number") (212:Nat)), (.str (Str.ofString "told") (213:Nat))] 0), #[]⟩ ::
  ⟨(.type "dict"), none, (.dict #[en P "__module__" (196:Nat) (.str (Str.ofString "snobol.values") (187:Nat)), en P "__firstlineno__" (200:Nat) (.int 2 (199:Nat)), en P "__init__" (211:Nat) (.ref (31:Nat)), en P "__static_attributes__" (214:Nat) (.ref (32:Nat)), en P "__weakref__" (217:Nat) (.ref (35:Nat)), en P "__doc__" (218:Nat) .none] 4), #[]⟩ ::
  ⟨(.type "type"), none, (.cls { name := (Str.ofString "SnobolError"), bases := [(.type "Exception")], mro := [(.ref (34:Nat)), (.type "Exception"), (.type "BaseException"), (.type "object")], ns := (33:Nat), qualname := (Str.ofString "SnobolError"), hasDict := true, slotNames := [], subclasses := [], abstract := false, collection := none, hasDel := false }), #[(some (.ref (15:Nat))), none, (some (.str (Str.ofString "SnobolError") (189:Nat))), (some (.str (Str.ofString "SnobolError") (197:Nat))), (some (.builtin "Exception.__new__")), (some (.bool true))]⟩ ::
  ⟨(.type "getset_descriptor"), none, (.fields #[(.str (Str.ofString "__weakref__") (216:Nat)), (.ref (34:Nat)), (.builtin "ExceptionGroup.__weakref__"), .none]), #[]⟩ :: []
noncomputable def oc12 (P : Params) : List Obj :=
  ⟨(.type "super"), none, (.fields #[(.ref (34:Nat)), (.ref (34:Nat)), (.ref (34:Nat))]), #[]⟩ ::
  ⟨(.type "builtin_function_or_method"), none, (.fields #[(.builtin "object.__init_subclass__"), (.ref (34:Nat))]), #[]⟩ ::
  ⟨(.type "tuple"), none, (.seq #[] 0), #[]⟩ ::
  ⟨(.type "builtin_function_or_method"), none, (.fields #[(.builtin "type.__prepare__"), (.type "type")]), #[]⟩ ::
  ⟨(.type "dict"), none, (.dict #[en P "__module__" (230:Nat) (.str (Str.ofString "snobol.values") (187:Nat)), en P "__qualname__" (232:Nat) (.str (Str.ofString "Pattern") (231:Nat)), en P "__firstlineno__" (234:Nat) (.int 8 (233:Nat)), en P "__init__" (242:Nat) (.ref (51:Nat)), en P "__static_attributes__" (244:Nat) (.ref (52:Nat))] 5), #[]⟩ ::
  ⟨(.type "tuple"), none, (.seq #[] 0), #[]⟩ ::
  ⟨.none, none, (.fields #[(.int 10 (0:Nat)), (.int 4 (0:Nat)), (.ref (50:Nat))]), #[]⟩ ::
  ⟨(.type "code"), none, (.fields #[(.str (Str.ofString "Pattern") (225:Nat)), (.str (Str.ofString "Pattern") (226:Nat)), (.str (Str.ofString "/claim/cut.py") (227:Nat)), (.int 8 (0:Nat)), (.int 0 (0:Nat)), (.int 0 (0:Nat)), (.int 0 (0:Nat)), (.int 0 (0:Nat)), (.ref (41:Nat)), (.bool false), (.int 181 (0:Nat)), (.ref (42:Nat)), .none, .none, .none, .none, (.int 228 (0:Nat)), (.int 8 (0:Nat)), (.str (Str.ofString "/claim/cut.py") (229:Nat))]), #[]⟩ ::
  ⟨(.type "frame"), none, .plain, #[(some (.ref (43:Nat))), (some (.ref (3:Nat))), (some (.ref (40:Nat))), none, (some (.str (Str.ofString "snobol.values") (187:Nat))), none, (some (.ref (0:Nat)))]⟩ :: []
noncomputable def oc13 (P : Params) : List Obj :=
  ⟨(.type "tuple"), none, (.seq #[] 0), #[]⟩ :: []
noncomputable def oc14 (P : Params) : List Obj :=
  ⟨.none, none, (.fields #[]), #[]⟩ :: []
noncomputable def oc15 (P : Params) : List Obj :=
  ⟨(.type "tuple"), none, (.seq #[(.str (Str.ofString "self") (238:Nat)), (.str (Str.ofString "node") (239:Nat))] 0), #[]⟩ ::
  ⟨(.type "tuple"), none, (.seq #[] 0), #[]⟩ :: []
noncomputable def oc16 (P : Params) : List Obj :=
  ⟨.none, none, (fo0 (inC 2 0) (Str.ofString "Pattern.__init__") [] .none .none .none .none none .none .none (0:Nat)), #[]⟩ :: []
noncomputable def oc17 (P : Params) : List Obj :=
  ⟨(.type "code"), none, (.fields #[(.str (Str.ofString "__init__") (235:Nat)), (.str (Str.ofString "Pattern.__init__") (236:Nat)), (.str (Str.ofString "/claim/cut.py") (237:Nat)), (.int 10 (0:Nat)), (.int 2 (0:Nat)), (.int 0 (0:Nat)), (.int 0 (0:Nat)), (.int 3 (0:Nat)), (.ref (45:Nat)), (.bool true), (.int 181 (0:Nat)), (.ref (46:Nat)), .none, (.ref (47:Nat)), (.ref (48:Nat)), (.ref (49:Nat)), (.int 240 (0:Nat)), (.int 10 (0:Nat)), (.str (Str.ofString "/claim/cut.py") (241:Nat))]), #[]⟩ ::
  ⟨(.type "function"), none, (fo (inC 2 0) (Str.ofString "Pattern.__init__") [] .none .none .none (.str (Str.ofString "snobol.values") (187:Nat)) none (.ref (50:Nat)) .none (0:Nat)), #[]⟩ ::
  ⟨(.type "tuple"), none, (.seq #[(.str (Str.ofString "node") (243:Nat))] 0), #[]⟩ ::
  ⟨(.type "dict"), none, (.dict #[en P "__module__" (230:Nat) (.str (Str.ofString "snobol.values") (187:Nat)), en P "__firstlineno__" (234:Nat) (.int 8 (233:Nat)), en P "__init__" (242:Nat) (.ref (51:Nat)), en P "__static_attributes__" (244:Nat) (.ref (52:Nat)), en P "__dict__" (246:Nat) (.ref (55:Nat)), en P "__weakref__" (248:Nat) (.ref (56:Nat)), en P "__doc__" (249:Nat) .none] 4), #[]⟩ ::
  ⟨(.type "type"), none, (.cls { name := (Str.ofString "Pattern"), bases := [(.type "object")], mro := [(.ref (54:Nat)), (.type "object")], ns := (53:Nat), qualname := (Str.ofString "Pattern"), hasDict := true, slotNames := [], subclasses := [], abstract := false, collection := none, hasDel := false }), #[none, none, (some (.str (Str.ofString "Pattern") (223:Nat))), (some (.str (Str.ofString "Pattern") (231:Nat))), (some (.builtin "object.__new__")), (some (.bool true))]⟩ ::
  ⟨(.type "getset_descriptor"), none, (.fields #[(.str (Str.ofString "__dict__") (245:Nat)), (.ref (54:Nat)), (.builtin "function.__dict__"), (.builtin "function.__dict__#set")]), #[]⟩ ::
  ⟨(.type "getset_descriptor"), none, (.fields #[(.str (Str.ofString "__weakref__") (247:Nat)), (.ref (54:Nat)), (.builtin "ExceptionGroup.__weakref__"), .none]), #[]⟩ :: []
noncomputable def oc18 (P : Params) : List Obj :=
  ⟨(.type "super"), none, (.fields #[(.ref (54:Nat)), (.ref (54:Nat)), (.ref (54:Nat))]), #[]⟩ ::
  ⟨(.type "builtin_function_or_method"), none, (.fields #[(.builtin "object.__init_subclass__"), (.ref (54:Nat))]), #[]⟩ ::
  ⟨(.type "tuple"), none, (.seq #[] 0), #[]⟩ ::
  ⟨(.type "builtin_function_or_method"), none, (.fields #[(.builtin "type.__prepare__"), (.type "type")]), #[]⟩ ::
  ⟨(.type "dict"), none, (.dict #[en P "__module__" (259:Nat) (.str (Str.ofString "snobol.values") (187:Nat)), en P "__qualname__" (261:Nat) (.str (Str.ofString "Delayed") (260:Nat)), en P "__firstlineno__" (263:Nat) (.int 12 (262:Nat)), en P "__init__" (271:Nat) (.ref (72:Nat)), en P "__static_attributes__" (273:Nat) (.ref (73:Nat))] 5), #[]⟩ ::
  ⟨(.type "tuple"), none, (.seq #[] 0), #[]⟩ ::
  ⟨.none, none, (.fields #[(.int 14 (0:Nat)), (.int 4 (0:Nat)), (.ref (71:Nat))]), #[]⟩ ::
  ⟨(.type "code"), none, (.fields #[(.str (Str.ofString "Delayed") (254:Nat)), (.str (Str.ofString "Delayed") (255:Nat)), (.str (Str.ofString "/claim/cut.py") (256:Nat)), (.int 12 (0:Nat)), (.int 0 (0:Nat)), (.int 0 (0:Nat)), (.int 0 (0:Nat)), (.int 0 (0:Nat)), (.ref (62:Nat)), (.bool false), (.int 181 (0:Nat)), (.ref (63:Nat)), .none, .none, .none, .none, (.int 257 (0:Nat)), (.int 12 (0:Nat)), (.str (Str.ofString "/claim/cut.py") (258:Nat))]), #[]⟩ ::
  ⟨(.type "frame"), none, .plain, #[(some (.ref (64:Nat))), (some (.ref (3:Nat))), (some (.ref (61:Nat))), none, (some (.str (Str.ofString "snobol.values") (187:Nat))), none, (some (.ref (0:Nat)))]⟩ :: []
noncomputable def oc19 (P : Params) : List Obj :=
  ⟨(.type "tuple"), none, (.seq #[] 0), #[]⟩ :: []
noncomputable def oc20 (P : Params) : List Obj :=
  ⟨.none, none, (.fields #[]), #[]⟩ :: []
noncomputable def oc21 (P : Params) : List Obj :=
  ⟨(.type "tuple"), none, (.seq #[(.str (Str.ofString "self") (267:Nat)), (.str (Str.ofString "tree") (268:Nat))] 0), #[]⟩ ::
  ⟨(.type "tuple"), none, (.seq #[] 0), #[]⟩ :: []
noncomputable def oc22 (P : Params) : List Obj :=
  ⟨.none, none, (fo0 (inC 3 0) (Str.ofString "Delayed.__init__") [] .none .none .none .none none .none .none (0:Nat)), #[]⟩ :: []
noncomputable def oc23 (P : Params) : List Obj :=
  ⟨(.type "code"), none, (.fields #[(.str (Str.ofString "__init__") (264:Nat)), (.str (Str.ofString "Delayed.__init__") (265:Nat)), (.str (Str.ofString "/claim/cut.py") (266:Nat)), (.int 14 (0:Nat)), (.int 2 (0:Nat)), (.int 0 (0:Nat)), (.int 0 (0:Nat)), (.int 3 (0:Nat)), (.ref (66:Nat)), (.bool true), (.int 181 (0:Nat)), (.ref (67:Nat)), .none, (.ref (68:Nat)), (.ref (69:Nat)), (.ref (70:Nat)), (.int 269 (0:Nat)), (.int 14 (0:Nat)), (.str (Str.ofString "/claim/cut.py") (270:Nat))]), #[]⟩ ::
  ⟨(.type "function"), none, (fo (inC 3 0) (Str.ofString "Delayed.__init__") [] .none .none .none (.str (Str.ofString "snobol.values") (187:Nat)) none (.ref (71:Nat)) .none (0:Nat)), #[]⟩ ::
  ⟨(.type "tuple"), none, (.seq #[(.str (Str.ofString "tree") (272:Nat))] 0), #[]⟩ ::
  ⟨(.type "dict"), none, (.dict #[en P "__module__" (259:Nat) (.str (Str.ofString "snobol.values") (187:Nat)), en P "__firstlineno__" (263:Nat) (.int 12 (262:Nat)), en P "__init__" (271:Nat) (.ref (72:Nat)), en P "__static_attributes__" (273:Nat) (.ref (73:Nat)), en P "__dict__" (275:Nat) (.ref (76:Nat)), en P "__weakref__" (277:Nat) (.ref (77:Nat)), en P "__doc__" (278:Nat) .none] 4), #[]⟩ ::
  ⟨(.type "type"), none, (.cls { name := (Str.ofString "Delayed"), bases := [(.type "object")], mro := [(.ref (75:Nat)), (.type "object")], ns := (74:Nat), qualname := (Str.ofString "Delayed"), hasDict := true, slotNames := [], subclasses := [], abstract := false, collection := none, hasDel := false }), #[none, none, (some (.str (Str.ofString "Delayed") (252:Nat))), (some (.str (Str.ofString "Delayed") (260:Nat))), (some (.builtin "object.__new__")), (some (.bool true))]⟩ ::
  ⟨(.type "getset_descriptor"), none, (.fields #[(.str (Str.ofString "__dict__") (274:Nat)), (.ref (75:Nat)), (.builtin "function.__dict__"), (.builtin "function.__dict__#set")]), #[]⟩ ::
  ⟨(.type "getset_descriptor"), none, (.fields #[(.str (Str.ofString "__weakref__") (276:Nat)), (.ref (75:Nat)), (.builtin "ExceptionGroup.__weakref__"), .none]), #[]⟩ :: []
noncomputable def oc24 (P : Params) : List Obj :=
  ⟨(.type "super"), none, (.fields #[(.ref (75:Nat)), (.ref (75:Nat)), (.ref (75:Nat))]), #[]⟩ ::
  ⟨(.type "builtin_function_or_method"), none, (.fields #[(.builtin "object.__init_subclass__"), (.ref (75:Nat))]), #[]⟩ ::
  ⟨(.type "tuple"), none, (.seq #[] 0), #[]⟩ ::
  ⟨(.type "builtin_function_or_method"), none, (.fields #[(.builtin "type.__prepare__"), (.type "type")]), #[]⟩ ::
  ⟨(.type "dict"), none, (.dict #[en P "__module__" (288:Nat) (.str (Str.ofString "snobol.values") (187:Nat)), en P "__qualname__" (290:Nat) (.str (Str.ofString "Code") (289:Nat)), en P "__firstlineno__" (292:Nat) (.int 16 (291:Nat)), en P "__init__" (300:Nat) (.ref (93:Nat)), en P "__static_attributes__" (302:Nat) (.ref (94:Nat))] 5), #[]⟩ ::
  ⟨(.type "tuple"), none, (.seq #[] 0), #[]⟩ ::
  ⟨.none, none, (.fields #[(.int 18 (0:Nat)), (.int 4 (0:Nat)), (.ref (92:Nat))]), #[]⟩ ::
  ⟨(.type "code"), none, (.fields #[(.str (Str.ofString "Code") (283:Nat)), (.str (Str.ofString "Code") (284:Nat)), (.str (Str.ofString "/claim/cut.py") (285:Nat)), (.int 16 (0:Nat)), (.int 0 (0:Nat)), (.int 0 (0:Nat)), (.int 0 (0:Nat)), (.int 0 (0:Nat)), (.ref (83:Nat)), (.bool false), (.int 181 (0:Nat)), (.ref (84:Nat)), .none, .none, .none, .none, (.int 286 (0:Nat)), (.int 16 (0:Nat)), (.str (Str.ofString "/claim/cut.py") (287:Nat))]), #[]⟩ ::
  ⟨(.type "frame"), none, .plain, #[(some (.ref (85:Nat))), (some (.ref (3:Nat))), (some (.ref (82:Nat))), none, (some (.str (Str.ofString "snobol.values") (187:Nat))), none, (some (.ref (0:Nat)))]⟩ :: []
noncomputable def oc25 (P : Params) : List Obj :=
  ⟨(.type "tuple"), none, (.seq #[] 0), #[]⟩ :: []
noncomputable def oc26 (P : Params) : List Obj :=
  ⟨.none, none, (.fields #[]), #[]⟩ :: []
noncomputable def oc27 (P : Params) : List Obj :=
  ⟨(.type "tuple"), none, (.seq #[(.str (Str.ofString "self") (296:Nat)), (.str (Str.ofString "begin") (297:Nat))] 0), #[]⟩ ::
  ⟨(.type "tuple"), none, (.seq #[] 0), #[]⟩ :: []
noncomputable def oc28 (P : Params) : List Obj :=
  ⟨.none, none, (fo0 (inC 4 0) (Str.ofString "Code.__init__") [] .none .none .none .none none .none .none (0:Nat)), #[]⟩ :: []
noncomputable def oc29 (P : Params) : List Obj :=
  ⟨(.type "code"), none, (.fields #[(.str (Str.ofString "__init__") (293:Nat)), (.str (Str.ofString "Code.__init__") (294:Nat)), (.str (Str.ofString "/claim/cut.py") (295:Nat)), (.int 18 (0:Nat)), (.int 2 (0:Nat)), (.int 0 (0:Nat)), (.int 0 (0:Nat)), (.int 3 (0:Nat)), (.ref (87:Nat)), (.bool true), (.int 181 (0:Nat)), (.ref (88:Nat)), .none, (.ref (89:Nat)), (.ref (90:Nat)), (.ref (91:Nat)), (.int 298 (0:Nat)), (.int 18 (0:Nat)), (.str (Str.ofString "/claim/cut.py") (299:Nat))]), #[]⟩ ::
  ⟨(.type "function"), none, (fo (inC 4 0) (Str.ofString "Code.__init__") [] .none .none .none (.str (Str.ofString "snobol.values") (187:Nat)) none (.ref (92:Nat)) .none (0:Nat)), #[]⟩ ::
  ⟨(.type "tuple"), none, (.seq #[(.str (Str.ofString "begin") (301:Nat))] 0), #[]⟩ ::
  ⟨(.type "dict"), none, (.dict #[en P "__module__" (288:Nat) (.str (Str.ofString "snobol.values") (187:Nat)), en P "__firstlineno__" (292:Nat) (.int 16 (291:Nat)), en P "__init__" (300:Nat) (.ref (93:Nat)), en P "__static_attributes__" (302:Nat) (.ref (94:Nat)), en P "__dict__" (304:Nat) (.ref (97:Nat)), en P "__weakref__" (306:Nat) (.ref (98:Nat)), en P "__doc__" (307:Nat) .none] 4), #[]⟩ ::
  ⟨(.type "type"), none, (.cls { name := (Str.ofString "Code"), bases := [(.type "object")], mro := [(.ref (96:Nat)), (.type "object")], ns := (95:Nat), qualname := (Str.ofString "Code"), hasDict := true, slotNames := [], subclasses := [], abstract := false, collection := none, hasDel := false }), #[none, none, (some (.str (Str.ofString "Code") (281:Nat))), (some (.str (Str.ofString "Code") (289:Nat))), (some (.builtin "object.__new__")), (some (.bool true))]⟩ ::
  ⟨(.type "getset_descriptor"), none, (.fields #[(.str (Str.ofString "__dict__") (303:Nat)), (.ref (96:Nat)), (.builtin "function.__dict__"), (.builtin "function.__dict__#set")]), #[]⟩ ::
  ⟨(.type "getset_descriptor"), none, (.fields #[(.str (Str.ofString "__weakref__") (305:Nat)), (.ref (96:Nat)), (.builtin "ExceptionGroup.__weakref__"), .none]), #[]⟩ :: []
noncomputable def oc30 (P : Params) : List Obj :=
  ⟨(.type "super"), none, (.fields #[(.ref (96:Nat)), (.ref (96:Nat)), (.ref (96:Nat))]), #[]⟩ ::
  ⟨(.type "builtin_function_or_method"), none, (.fields #[(.builtin "object.__init_subclass__"), (.ref (96:Nat))]), #[]⟩ ::
  ⟨(.type "tuple"), none, (.seq #[] 0), #[]⟩ ::
  ⟨(.type "builtin_function_or_method"), none, (.fields #[(.builtin "type.__prepare__"), (.type "type")]), #[]⟩ ::
  ⟨(.type "dict"), none, (.dict #[en P "__module__" (317:Nat) (.str (Str.ofString "snobol.values") (187:Nat)), en P "__qualname__" (319:Nat) (.str (Str.ofString "NameRef") (318:Nat)), en P "__firstlineno__" (321:Nat) (.int 20 (320:Nat)), en P "__init__" (331:Nat) (.ref (114:Nat)), en P "__static_attributes__" (335:Nat) (.ref (115:Nat))] 5), #[]⟩ ::
  ⟨(.type "tuple"), none, (.seq #[] 0), #[]⟩ ::
  ⟨.none, none, (.fields #[(.int 22 (0:Nat)), (.int 4 (0:Nat)), (.ref (113:Nat))]), #[]⟩ ::
  ⟨(.type "code"), none, (.fields #[(.str (Str.ofString "NameRef") (312:Nat)), (.str (Str.ofString "NameRef") (313:Nat)), (.str (Str.ofString "/claim/cut.py") (314:Nat)), (.int 20 (0:Nat)), (.int 0 (0:Nat)), (.int 0 (0:Nat)), (.int 0 (0:Nat)), (.int 0 (0:Nat)), (.ref (104:Nat)), (.bool false), (.int 181 (0:Nat)), (.ref (105:Nat)), .none, .none, .none, .none, (.int 315 (0:Nat)), (.int 20 (0:Nat)), (.str (Str.ofString "/claim/cut.py") (316:Nat))]), #[]⟩ ::
  ⟨(.type "frame"), none, .plain, #[(some (.ref (106:Nat))), (some (.ref (3:Nat))), (some (.ref (103:Nat))), none, (some (.str (Str.ofString "snobol.values") (187:Nat))), none, (some (.ref (0:Nat)))]⟩ :: []
noncomputable def oc31 (P : Params) : List Obj :=
  ⟨(.type "tuple"), none, (.seq #[] 0), #[]⟩ :: []
noncomputable def oc32 (P : Params) : List Obj :=
  ⟨.none, none, (.fields #[]), #[]⟩ :: []
noncomputable def oc33 (P : Params) : List Obj :=
  ⟨(.type "tuple"), none, (.seq #[(.str (Str.ofString "self") (325:Nat)), (.str (Str.ofString "kind") (326:Nat)), (.str (Str.ofString "owner") (327:Nat)), (.str (Str.ofString "key") (328:Nat))] 0), #[]⟩ ::
  ⟨(.type "tuple"), none, (.seq #[] 0), #[]⟩ :: []
noncomputable def oc34 (P : Params) : List Obj :=
  ⟨.none, none, (fo0 (inC 5 0) (Str.ofString "NameRef.__init__") [] .none .none .none .none none .none .none (0:Nat)), #[]⟩ :: []
noncomputable def oc35 (P : Params) : List Obj :=
  ⟨(.type "code"), none, (.fields #[(.str (Str.ofString "__init__") (322:Nat)), (.str (Str.ofString "NameRef.__init__") (323:Nat)), (.str (Str.ofString "/claim/cut.py") (324:Nat)), (.int 22 (0:Nat)), (.int 4 (0:Nat)), (.int 0 (0:Nat)), (.int 0 (0:Nat)), (.int 3 (0:Nat)), (.ref (108:Nat)), (.bool true), (.int 181 (0:Nat)), (.ref (109:Nat)), .none, (.ref (110:Nat)), (.ref (111:Nat)), (.ref (112:Nat)), (.int 329 (0:Nat)), (.int 22 (0:Nat)), (.str (Str.ofString "/claim/cut.py") (330:Nat))]), #[]⟩ ::
  ⟨(.type "function"), none, (fo (inC 5 0) (Str.ofString "NameRef.__init__") [] .none .none .none (.str (Str.ofString "snobol.values") (187:Nat)) none (.ref (113:Nat)) .none (0:Nat)), #[]⟩ ::
  ⟨(.type "tuple"), none, (.seq #[(.str (Str.ofString "key") (332:Nat)), (.str (Str.ofString "kind") (333:Nat)), (.str (Str.ofString "owner") (334:Nat))] 0), #[]⟩ ::
  ⟨(.type "dict"), none, (.dict #[en P "__module__" (317:Nat) (.str (Str.ofString "snobol.values") (187:Nat)), en P "__firstlineno__" (321:Nat) (.int 20 (320:Nat)), en P "__init__" (331:Nat) (.ref (114:Nat)), en P "__static_attributes__" (335:Nat) (.ref (115:Nat)), en P "__dict__" (337:Nat) (.ref (118:Nat)), en P "__weakref__" (339:Nat) (.ref (119:Nat)), en P "__doc__" (340:Nat) .none] 4), #[]⟩ ::
  ⟨(.type "type"), none, (.cls { name := (Str.ofString "NameRef"), bases := [(.type "object")], mro := [(.ref (117:Nat)), (.type "object")], ns := (116:Nat), qualname := (Str.ofString "NameRef"), hasDict := true, slotNames := [], subclasses := [], abstract := false, collection := none, hasDel := false }), #[none, none, (some (.str (Str.ofString "NameRef") (310:Nat))), (some (.str (Str.ofString "NameRef") (318:Nat))), (some (.builtin "object.__new__")), (some (.bool true))]⟩ ::
  ⟨(.type "getset_descriptor"), none, (.fields #[(.str (Str.ofString "__dict__") (336:Nat)), (.ref (117:Nat)), (.builtin "function.__dict__"), (.builtin "function.__dict__#set")]), #[]⟩ ::
  ⟨(.type "getset_descriptor"), none, (.fields #[(.str (Str.ofString "__weakref__") (338:Nat)), (.ref (117:Nat)), (.builtin "ExceptionGroup.__weakref__"), .none]), #[]⟩ :: []
noncomputable def oc36 (P : Params) : List Obj :=
  ⟨(.type "super"), none, (.fields #[(.ref (117:Nat)), (.ref (117:Nat)), (.ref (117:Nat))]), #[]⟩ ::
  ⟨(.type "builtin_function_or_method"), none, (.fields #[(.builtin "object.__init_subclass__"), (.ref (117:Nat))]), #[]⟩ ::
  ⟨(.type "tuple"), none, (.seq #[] 0), #[]⟩ ::
  ⟨(.type "builtin_function_or_method"), none, (.fields #[(.builtin "type.__prepare__"), (.type "type")]), #[]⟩ ::
  ⟨(.type "dict"), none, (.dict #[en P "__module__" (350:Nat) (.str (Str.ofString "snobol.values") (187:Nat)), en P "__qualname__" (352:Nat) (.str (Str.ofString "Holder") (351:Nat)), en P "__firstlineno__" (354:Nat) (.int 26 (353:Nat)), en P "__init__" (363:Nat) (.ref (135:Nat)), en P "__static_attributes__" (367:Nat) (.ref (136:Nat))] 5), #[]⟩ ::
  ⟨(.type "tuple"), none, (.seq #[] 0), #[]⟩ ::
  ⟨.none, none, (.fields #[(.int 28 (0:Nat)), (.int 4 (0:Nat)), (.ref (134:Nat))]), #[]⟩ ::
  ⟨(.type "code"), none, (.fields #[(.str (Str.ofString "Holder") (345:Nat)), (.str (Str.ofString "Holder") (346:Nat)), (.str (Str.ofString "/claim/cut.py") (347:Nat)), (.int 26 (0:Nat)), (.int 0 (0:Nat)), (.int 0 (0:Nat)), (.int 0 (0:Nat)), (.int 0 (0:Nat)), (.ref (125:Nat)), (.bool false), (.int 181 (0:Nat)), (.ref (126:Nat)), .none, .none, .none, .none, (.int 348 (0:Nat)), (.int 26 (0:Nat)), (.str (Str.ofString "/claim/cut.py") (349:Nat))]), #[]⟩ ::
  ⟨(.type "frame"), none, .plain, #[(some (.ref (127:Nat))), (some (.ref (3:Nat))), (some (.ref (124:Nat))), none, (some (.str (Str.ofString "snobol.values") (187:Nat))), none, (some (.ref (0:Nat)))]⟩ :: []
noncomputable def oc37 (P : Params) : List Obj :=
  ⟨(.type "tuple"), none, (.seq #[] 0), #[]⟩ :: []
noncomputable def oc38 (P : Params) : List Obj :=
  ⟨.none, none, (.fields #[]), #[]⟩ :: []
noncomputable def oc39 (P : Params) : List Obj :=
  ⟨(.type "tuple"), none, (.seq #[(.str (Str.ofString "self") (358:Nat)), (.str (Str.ofString "word") (359:Nat)), (.str (Str.ofString "number") (360:Nat))] 0), #[]⟩ ::
  ⟨(.type "tuple"), none, (.seq #[] 0), #[]⟩ :: []
noncomputable def oc40 (P : Params) : List Obj :=
  ⟨.none, none, (fo0 (inC 6 0) (Str.ofString "Holder.__init__") [] .none .none .none .none none .none .none (0:Nat)), #[]⟩ :: []
noncomputable def oc41 (P : Params) : List Obj :=
  ⟨(.type "code"), none, (.fields #[(.str (Str.ofString "__init__") (355:Nat)), (.str (Str.ofString "Holder.__init__") (356:Nat)), (.str (Str.ofString "/claim/cut.py") (357:Nat)), (.int 28 (0:Nat)), (.int 3 (0:Nat)), (.int 0 (0:Nat)), (.int 0 (0:Nat)), (.int 3 (0:Nat)), (.ref (129:Nat)), (.bool true), (.int 181 (0:Nat)), (.ref (130:Nat)), .none, (.ref (131:Nat)), (.ref (132:Nat)), (.ref (133:Nat)), (.int 361 (0:Nat)), (.int 28 (0:Nat)), (.str (Str.ofString "/claim/cut.py") (362:Nat))]), #[]⟩ ::
  ⟨(.type "function"), none, (fo (inC 6 0) (Str.ofString "Holder.__init__") [] .none .none .none (.str (Str.ofString "snobol.values") (187:Nat)) none (.ref (134:Nat)) .none (0:Nat)), #[]⟩ ::
  ⟨(.type "tuple"), none, (.seq #[(.str (Str.ofString "mark") (364:Nat)), (.str (Str.ofString "number") (365:Nat)), (.str (Str.ofString "word") (366:Nat))] 0), #[]⟩ ::
  ⟨(.type "dict"), none, (.dict #[en P "__module__" (350:Nat) (.str (Str.ofString "snobol.values") (187:Nat)), en P "__firstlineno__" (354:Nat) (.int 26 (353:Nat)), en P "__init__" (363:Nat) (.ref (135:Nat)), en P "__static_attributes__" (367:Nat) (.ref (136:Nat)), en P "__dict__" (369:Nat) (.ref (139:Nat)), en P "__weakref__" (371:Nat) (.ref (140:Nat)), en P "__doc__" (372:Nat) .none] 4), #[]⟩ ::
  ⟨(.type "type"), none, (.cls { name := (Str.ofString "Holder"), bases := [(.type "object")], mro := [(.ref (138:Nat)), (.type "object")], ns := (137:Nat), qualname := (Str.ofString "Holder"), hasDict := true, slotNames := [], subclasses := [(.ref (222:Nat)), (.ref (241:Nat)), (.ref (260:Nat))], abstract := false, collection := none, hasDel := false }), #[none, none, (some (.str (Str.ofString "Holder") (343:Nat))), (some (.str (Str.ofString "Holder") (351:Nat))), (some (.builtin "object.__new__")), (some (.bool true))]⟩ ::
  ⟨(.type "getset_descriptor"), none, (.fields #[(.str (Str.ofString "__dict__") (368:Nat)), (.ref (138:Nat)), (.builtin "function.__dict__"), (.builtin "function.__dict__#set")]), #[]⟩ ::
  ⟨(.type "getset_descriptor"), none, (.fields #[(.str (Str.ofString "__weakref__") (370:Nat)), (.ref (138:Nat)), (.builtin "ExceptionGroup.__weakref__"), .none]), #[]⟩ :: []
noncomputable def oc42 (P : Params) : List Obj :=
  ⟨(.type "super"), none, (.fields #[(.ref (138:Nat)), (.ref (138:Nat)), (.ref (138:Nat))]), #[]⟩ ::
  ⟨(.type "builtin_function_or_method"), none, (.fields #[(.builtin "object.__init_subclass__"), (.ref (138:Nat))]), #[]⟩ :: []
noncomputable def oc43 (P : Params) : List Obj :=
  ⟨(.type "tuple"), none, (.seq #[] 0), #[]⟩ :: []
noncomputable def oc44 (P : Params) : List Obj :=
  ⟨.none, none, (.fields #[]), #[]⟩ :: []
noncomputable def oc45 (P : Params) : List Obj :=
  ⟨(.type "tuple"), none, (.seq #[(.str (Str.ofString "value") (378:Nat))] 0), #[]⟩ ::
  ⟨(.type "tuple"), none, (.seq #[] 0), #[]⟩ :: []
noncomputable def oc46 (P : Params) : List Obj :=
  ⟨.none, none, (fo0 (at_ 7) (Str.ofString "kind_of") [] .none .none .none .none none .none .none (0:Nat)), #[]⟩ :: []
noncomputable def oc47 (P : Params) : List Obj :=
  ⟨(.type "code"), none, (.fields #[(.str (Str.ofString "kind_of") (375:Nat)), (.str (Str.ofString "kind_of") (376:Nat)), (.str (Str.ofString "/claim/cut.py") (377:Nat)), (.int 32 (0:Nat)), (.int 1 (0:Nat)), (.int 0 (0:Nat)), (.int 0 (0:Nat)), (.int 3 (0:Nat)), (.ref (143:Nat)), (.bool true), (.int 181 (0:Nat)), (.ref (144:Nat)), .none, (.ref (145:Nat)), (.ref (146:Nat)), (.ref (147:Nat)), (.int 379 (0:Nat)), (.int 32 (0:Nat)), (.str (Str.ofString "/claim/cut.py") (380:Nat))]), #[]⟩ ::
  ⟨(.type "function"), none, (fo (at_ 7) (Str.ofString "kind_of") [] .none .none .none (.str (Str.ofString "snobol.values") (187:Nat)) none (.ref (148:Nat)) .none (0:Nat)), #[]⟩ ::
  ⟨(.type "tuple"), none, (.seq #[] 0), #[]⟩ :: []
noncomputable def oc48 (P : Params) : List Obj :=
  ⟨.none, none, (.fields #[]), #[]⟩ :: []
noncomputable def oc49 (P : Params) : List Obj :=
  ⟨(.type "tuple"), none, (.seq #[(.str (Str.ofString "number") (385:Nat)), (.str (Str.ofString "width") (386:Nat))] 0), #[]⟩ ::
  ⟨(.type "tuple"), none, (.seq #[] 0), #[]⟩ :: []
noncomputable def oc50 (P : Params) : List Obj :=
  ⟨.none, none, (fo0 (at_ 8) (Str.ofString "fits") [] .none .none .none .none none .none .none (0:Nat)), #[]⟩ :: []
noncomputable def oc51 (P : Params) : List Obj :=
  ⟨(.type "code"), none, (.fields #[(.str (Str.ofString "fits") (382:Nat)), (.str (Str.ofString "fits") (383:Nat)), (.str (Str.ofString "/claim/cut.py") (384:Nat)), (.int 46 (0:Nat)), (.int 2 (0:Nat)), (.int 0 (0:Nat)), (.int 0 (0:Nat)), (.int 3 (0:Nat)), (.ref (150:Nat)), (.bool true), (.int 181 (0:Nat)), (.ref (151:Nat)), .none, (.ref (152:Nat)), (.ref (153:Nat)), (.ref (154:Nat)), (.int 387 (0:Nat)), (.int 46 (0:Nat)), (.str (Str.ofString "/claim/cut.py") (388:Nat))]), #[]⟩ ::
  ⟨(.type "function"), none, (fu 8 (Str.ofString "fits") [] .none .none .none (.str (Str.ofString "snobol.values") (187:Nat)) none (.ref (155:Nat)) .none (0:Nat)), #[]⟩ ::
  ⟨(.type "tuple"), none, (.seq #[] 0), #[]⟩ :: []
noncomputable def oc52 (P : Params) : List Obj :=
  ⟨.none, none, (.fields #[]), #[]⟩ :: []
noncomputable def oc53 (P : Params) : List Obj :=
  ⟨(.type "tuple"), none, (.seq #[(.str (Str.ofString "text") (393:Nat)), (.str (Str.ofString "width") (394:Nat)), (.str (Str.ofString "digits") (395:Nat)), (.str (Str.ofString "number") (396:Nat)), (.str (Str.ofString "sign") (397:Nat))] 0), #[]⟩ ::
  ⟨(.type "tuple"), none, (.seq #[] 0), #[]⟩ :: []
noncomputable def oc54 (P : Params) : List Obj :=
  ⟨.none, none, (fo0 (at_ 9) (Str.ofString "whole_of_text") [] .none .none .none .none none .none .none (0:Nat)), #[]⟩ :: []
noncomputable def oc55 (P : Params) : List Obj :=
  ⟨(.type "code"), none, (.fields #[(.str (Str.ofString "whole_of_text") (390:Nat)), (.str (Str.ofString "whole_of_text") (391:Nat)), (.str (Str.ofString "/claim/cut.py") (392:Nat)), (.int 48 (0:Nat)), (.int 2 (0:Nat)), (.int 0 (0:Nat)), (.int 0 (0:Nat)), (.int 3 (0:Nat)), (.ref (157:Nat)), (.bool true), (.int 181 (0:Nat)), (.ref (158:Nat)), .none, (.ref (159:Nat)), (.ref (160:Nat)), (.ref (161:Nat)), (.int 398 (0:Nat)), (.int 48 (0:Nat)), (.str (Str.ofString "/claim/cut.py") (399:Nat))]), #[]⟩ ::
  ⟨(.type "function"), none, (fu 9 (Str.ofString "whole_of_text") [] .none .none .none (.str (Str.ofString "snobol.values") (187:Nat)) none (.ref (162:Nat)) .none (0:Nat)), #[]⟩ ::
  ⟨(.type "tuple"), none, (.seq #[] 0), #[]⟩ :: []
noncomputable def oc56 (P : Params) : List Obj :=
  ⟨.none, none, (.fields #[]), #[]⟩ :: []
noncomputable def oc57 (P : Params) : List Obj :=
  ⟨(.type "tuple"), none, (.seq #[(.str (Str.ofString "number") (404:Nat)), (.str (Str.ofString "left") (405:Nat)), (.str (Str.ofString "found") (406:Nat))] 0), #[]⟩ ::
  ⟨(.type "tuple"), none, (.seq #[] 0), #[]⟩ :: []
noncomputable def oc58 (P : Params) : List Obj :=
  ⟨.none, none, (fo0 (at_ 10) (Str.ofString "text_of_whole") [] .none .none .none .none none .none .none (0:Nat)), #[]⟩ :: []
noncomputable def oc59 (P : Params) : List Obj :=
  ⟨(.type "code"), none, (.fields #[(.str (Str.ofString "text_of_whole") (401:Nat)), (.str (Str.ofString "text_of_whole") (402:Nat)), (.str (Str.ofString "/claim/cut.py") (403:Nat)), (.int 61 (0:Nat)), (.int 1 (0:Nat)), (.int 0 (0:Nat)), (.int 0 (0:Nat)), (.int 3 (0:Nat)), (.ref (164:Nat)), (.bool true), (.int 181 (0:Nat)), (.ref (165:Nat)), .none, (.ref (166:Nat)), (.ref (167:Nat)), (.ref (168:Nat)), (.int 407 (0:Nat)), (.int 61 (0:Nat)), (.str (Str.ofString "/claim/cut.py") (408:Nat))]), #[]⟩ ::
  ⟨(.type "function"), none, (fu 10 (Str.ofString "text_of_whole") [] .none .none .none (.str (Str.ofString "snobol.values") (187:Nat)) none (.ref (169:Nat)) .none (0:Nat)), #[]⟩ ::
  ⟨(.type "tuple"), none, (.seq #[] 0), #[]⟩ :: []
noncomputable def oc60 (P : Params) : List Obj :=
  ⟨.none, none, (.fields #[]), #[]⟩ :: []
noncomputable def oc61 (P : Params) : List Obj :=
  ⟨(.type "tuple"), none, (.seq #[(.str (Str.ofString "value") (413:Nat)), (.str (Str.ofString "width") (414:Nat))] 0), #[]⟩ ::
  ⟨(.type "tuple"), none, (.seq #[] 0), #[]⟩ :: []
noncomputable def oc62 (P : Params) : List Obj :=
  ⟨.none, none, (fo0 (at_ 11) (Str.ofString "to_whole") [] .none .none .none .none none .none .none (0:Nat)), #[]⟩ :: []
noncomputable def oc63 (P : Params) : List Obj :=
  ⟨(.type "code"), none, (.fields #[(.str (Str.ofString "to_whole") (410:Nat)), (.str (Str.ofString "to_whole") (411:Nat)), (.str (Str.ofString "/claim/cut.py") (412:Nat)), (.int 67 (0:Nat)), (.int 2 (0:Nat)), (.int 0 (0:Nat)), (.int 0 (0:Nat)), (.int 3 (0:Nat)), (.ref (171:Nat)), (.bool true), (.int 181 (0:Nat)), (.ref (172:Nat)), .none, (.ref (173:Nat)), (.ref (174:Nat)), (.ref (175:Nat)), (.int 415 (0:Nat)), (.int 67 (0:Nat)), (.str (Str.ofString "/claim/cut.py") (416:Nat))]), #[]⟩ ::
  ⟨(.type "function"), none, (fu 11 (Str.ofString "to_whole") [] .none .none .none (.str (Str.ofString "snobol.values") (187:Nat)) none (.ref (176:Nat)) .none (0:Nat)), #[]⟩ ::
  ⟨(.type "tuple"), none, (.seq #[] 0), #[]⟩ :: []
noncomputable def oc64 (P : Params) : List Obj :=
  ⟨.none, none, (.fields #[]), #[]⟩ :: []
noncomputable def oc65 (P : Params) : List Obj :=
  ⟨(.type "tuple"), none, (.seq #[(.str (Str.ofString "value") (421:Nat))] 0), #[]⟩ ::
  ⟨(.type "tuple"), none, (.seq #[] 0), #[]⟩ :: []
noncomputable def oc66 (P : Params) : List Obj :=
  ⟨.none, none, (fo0 (at_ 12) (Str.ofString "to_text") [] .none .none .none .none none .none .none (0:Nat)), #[]⟩ :: []
noncomputable def oc67 (P : Params) : List Obj :=
  ⟨(.type "code"), none, (.fields #[(.str (Str.ofString "to_text") (418:Nat)), (.str (Str.ofString "to_text") (419:Nat)), (.str (Str.ofString "/claim/cut.py") (420:Nat)), (.int 71 (0:Nat)), (.int 1 (0:Nat)), (.int 0 (0:Nat)), (.int 0 (0:Nat)), (.int 3 (0:Nat)), (.ref (178:Nat)), (.bool true), (.int 181 (0:Nat)), (.ref (179:Nat)), .none, (.ref (180:Nat)), (.ref (181:Nat)), (.ref (182:Nat)), (.int 422 (0:Nat)), (.int 71 (0:Nat)), (.str (Str.ofString "/claim/cut.py") (423:Nat))]), #[]⟩ ::
  ⟨(.type "function"), none, (fu 12 (Str.ofString "to_text") [] .none .none .none (.str (Str.ofString "snobol.values") (187:Nat)) none (.ref (183:Nat)) .none (0:Nat)), #[]⟩ ::
  ⟨(.type "tuple"), none, (.seq #[] 0), #[]⟩ :: []
noncomputable def oc68 (P : Params) : List Obj :=
  ⟨.none, none, (.fields #[]), #[]⟩ :: []
noncomputable def oc69 (P : Params) : List Obj :=
  ⟨(.type "tuple"), none, (.seq #[(.str (Str.ofString "value") (428:Nat)), (.str (Str.ofString "width") (429:Nat)), (.str (Str.ofString "number") (430:Nat))] 0), #[]⟩ ::
  ⟨(.type "tuple"), none, (.seq #[] 0), #[]⟩ :: []
noncomputable def oc70 (P : Params) : List Obj :=
  ⟨.none, none, (fo0 (at_ 13) (Str.ofString "need_whole") [] .none .none .none .none none .none .none (0:Nat)), #[]⟩ :: []
noncomputable def oc71 (P : Params) : List Obj :=
  ⟨(.type "code"), none, (.fields #[(.str (Str.ofString "need_whole") (425:Nat)), (.str (Str.ofString "need_whole") (426:Nat)), (.str (Str.ofString "/claim/cut.py") (427:Nat)), (.int 75 (0:Nat)), (.int 2 (0:Nat)), (.int 0 (0:Nat)), (.int 0 (0:Nat)), (.int 3 (0:Nat)), (.ref (185:Nat)), (.bool true), (.int 181 (0:Nat)), (.ref (186:Nat)), .none, (.ref (187:Nat)), (.ref (188:Nat)), (.ref (189:Nat)), (.int 431 (0:Nat)), (.int 75 (0:Nat)), (.str (Str.ofString "/claim/cut.py") (432:Nat))]), #[]⟩ ::
  ⟨(.type "function"), none, (fu 13 (Str.ofString "need_whole") [] .none .none .none (.str (Str.ofString "snobol.values") (187:Nat)) none (.ref (190:Nat)) .none (0:Nat)), #[]⟩ ::
  ⟨(.type "tuple"), none, (.seq #[] 0), #[]⟩ :: []
noncomputable def oc72 (P : Params) : List Obj :=
  ⟨.none, none, (.fields #[]), #[]⟩ :: []
noncomputable def oc73 (P : Params) : List Obj :=
  ⟨(.type "tuple"), none, (.seq #[(.str (Str.ofString "value") (437:Nat)), (.str (Str.ofString "text") (438:Nat))] 0), #[]⟩ ::
  ⟨(.type "tuple"), none, (.seq #[] 0), #[]⟩ :: []
noncomputable def oc74 (P : Params) : List Obj :=
  ⟨.none, none, (fo0 (at_ 14) (Str.ofString "need_text") [] .none .none .none .none none .none .none (0:Nat)), #[]⟩ :: []
noncomputable def oc75 (P : Params) : List Obj :=
  ⟨(.type "code"), none, (.fields #[(.str (Str.ofString "need_text") (434:Nat)), (.str (Str.ofString "need_text") (435:Nat)), (.str (Str.ofString "/claim/cut.py") (436:Nat)), (.int 80 (0:Nat)), (.int 1 (0:Nat)), (.int 0 (0:Nat)), (.int 0 (0:Nat)), (.int 3 (0:Nat)), (.ref (192:Nat)), (.bool true), (.int 181 (0:Nat)), (.ref (193:Nat)), .none, (.ref (194:Nat)), (.ref (195:Nat)), (.ref (196:Nat)), (.int 439 (0:Nat)), (.int 80 (0:Nat)), (.str (Str.ofString "/claim/cut.py") (440:Nat))]), #[]⟩ ::
  ⟨(.type "function"), none, (fu 14 (Str.ofString "need_text") [] .none .none .none (.str (Str.ofString "snobol.values") (187:Nat)) none (.ref (197:Nat)) .none (0:Nat)), #[]⟩ ::
  ⟨(.type "tuple"), none, (.seq #[] 0), #[]⟩ :: []
noncomputable def oc76 (P : Params) : List Obj :=
  ⟨.none, none, (.fields #[]), #[]⟩ :: []
noncomputable def oc77 (P : Params) : List Obj :=
  ⟨(.type "tuple"), none, (.seq #[(.str (Str.ofString "value") (445:Nat)), (.str (Str.ofString "width") (446:Nat)), (.str (Str.ofString "number") (447:Nat))] 0), #[]⟩ ::
  ⟨(.type "tuple"), none, (.seq #[] 0), #[]⟩ :: []
noncomputable def oc78 (P : Params) : List Obj :=
  ⟨.none, none, (fo0 (at_ 15) (Str.ofString "need_size") [] .none .none .none .none none .none .none (0:Nat)), #[]⟩ :: []
noncomputable def oc79 (P : Params) : List Obj :=
  ⟨(.type "code"), none, (.fields #[(.str (Str.ofString "need_size") (442:Nat)), (.str (Str.ofString "need_size") (443:Nat)), (.str (Str.ofString "/claim/cut.py") (444:Nat)), (.int 85 (0:Nat)), (.int 2 (0:Nat)), (.int 0 (0:Nat)), (.int 0 (0:Nat)), (.int 3 (0:Nat)), (.ref (199:Nat)), (.bool true), (.int 181 (0:Nat)), (.ref (200:Nat)), .none, (.ref (201:Nat)), (.ref (202:Nat)), (.ref (203:Nat)), (.int 448 (0:Nat)), (.int 85 (0:Nat)), (.str (Str.ofString "/claim/cut.py") (449:Nat))]), #[]⟩ ::
  ⟨(.type "function"), none, (fu 15 (Str.ofString "need_size") [] .none .none .none (.str (Str.ofString "snobol.values") (187:Nat)) none (.ref (204:Nat)) .none (0:Nat)), #[]⟩ ::
  ⟨(.type "tuple"), none, (.seq #[(.ref (138:Nat))] 0), #[]⟩ :: []
noncomputable def oc80 (P : Params) : List Obj :=
  ⟨(.type "builtin_function_or_method"), none, (.fields #[(.builtin "type.__prepare__"), (.type "type")]), #[]⟩ ::
  ⟨(.type "dict"), none, (.dict #[en P "__module__" (460:Nat) (.str (Str.ofString "snobol.aggregates") (451:Nat)), en P "__qualname__" (462:Nat) (.str (Str.ofString "Array") (461:Nat)), en P "__firstlineno__" (464:Nat) (.int 91 (463:Nat)), en P "__init__" (475:Nat) (.ref (219:Nat)), en P "__static_attributes__" (479:Nat) (.ref (220:Nat))] 5), #[]⟩ ::
  ⟨(.type "tuple"), none, (.seq #[] 0), #[]⟩ ::
  ⟨.none, none, (.fields #[(.int 93 (0:Nat)), (.int 4 (0:Nat)), (.ref (218:Nat))]), #[]⟩ ::
  ⟨(.type "code"), none, (.fields #[(.str (Str.ofString "Array") (455:Nat)), (.str (Str.ofString "Array") (456:Nat)), (.str (Str.ofString "/claim/cut.py") (457:Nat)), (.int 91 (0:Nat)), (.int 0 (0:Nat)), (.int 0 (0:Nat)), (.int 0 (0:Nat)), (.int 0 (0:Nat)), (.ref (209:Nat)), (.bool false), (.int 181 (0:Nat)), (.ref (210:Nat)), .none, .none, .none, .none, (.int 458 (0:Nat)), (.int 91 (0:Nat)), (.str (Str.ofString "/claim/cut.py") (459:Nat))]), #[]⟩ ::
  ⟨(.type "frame"), none, .plain, #[(some (.ref (211:Nat))), (some (.ref (3:Nat))), (some (.ref (208:Nat))), none, (some (.str (Str.ofString "snobol.aggregates") (451:Nat))), none, (some (.ref (0:Nat)))]⟩ :: []
noncomputable def oc81 (P : Params) : List Obj :=
  ⟨(.type "tuple"), none, (.seq #[] 0), #[]⟩ :: []
noncomputable def oc82 (P : Params) : List Obj :=
  ⟨.none, none, (.fields #[]), #[]⟩ :: []
noncomputable def oc83 (P : Params) : List Obj :=
  ⟨(.type "tuple"), none, (.seq #[(.str (Str.ofString "self") (468:Nat)), (.str (Str.ofString "number") (469:Nat)), (.str (Str.ofString "told") (470:Nat)), (.str (Str.ofString "bounds") (471:Nat)), (.str (Str.ofString "value") (472:Nat))] 0), #[]⟩ ::
  ⟨(.type "tuple"), none, (.seq #[] 0), #[]⟩ :: []
noncomputable def oc84 (P : Params) : List Obj :=
  ⟨.none, none, (fo0 (inC 17 0) (Str.ofString "Array.__init__") [] .none .none .none .none none .none .none (0:Nat)), #[]⟩ :: []
noncomputable def oc85 (P : Params) : List Obj :=
  ⟨(.type "code"), none, (.fields #[(.str (Str.ofString "__init__") (465:Nat)), (.str (Str.ofString "Array.__init__") (466:Nat)), (.str (Str.ofString "/claim/cut.py") (467:Nat)), (.int 93 (0:Nat)), (.int 5 (0:Nat)), (.int 0 (0:Nat)), (.int 0 (0:Nat)), (.int 3 (0:Nat)), (.ref (213:Nat)), (.bool true), (.int 181 (0:Nat)), (.ref (214:Nat)), .none, (.ref (215:Nat)), (.ref (216:Nat)), (.ref (217:Nat)), (.int 473 (0:Nat)), (.int 93 (0:Nat)), (.str (Str.ofString "/claim/cut.py") (474:Nat))]), #[]⟩ ::
  ⟨(.type "function"), none, (fv 17 0 (Str.ofString "Array.__init__") [] .none .none .none (.str (Str.ofString "snobol.aggregates") (451:Nat)) none (.ref (218:Nat)) .none (0:Nat)), #[]⟩ ::
  ⟨(.type "tuple"), none, (.seq #[(.str (Str.ofString "bounds") (476:Nat)), (.str (Str.ofString "items") (477:Nat)), (.str (Str.ofString "told") (478:Nat))] 0), #[]⟩ ::
  ⟨(.type "dict"), none, (.dict #[en P "__module__" (460:Nat) (.str (Str.ofString "snobol.aggregates") (451:Nat)), en P "__firstlineno__" (464:Nat) (.int 91 (463:Nat)), en P "__init__" (475:Nat) (.ref (219:Nat)), en P "__static_attributes__" (479:Nat) (.ref (220:Nat)), en P "__doc__" (480:Nat) .none] 2), #[]⟩ ::
  ⟨(.type "type"), none, (.cls { name := (Str.ofString "Array"), bases := [(.ref (138:Nat))], mro := [(.ref (222:Nat)), (.ref (138:Nat)), (.type "object")], ns := (221:Nat), qualname := (Str.ofString "Array"), hasDict := true, slotNames := [], subclasses := [], abstract := false, collection := none, hasDel := false }), #[(some (.ref (206:Nat))), none, (some (.str (Str.ofString "Array") (453:Nat))), (some (.str (Str.ofString "Array") (461:Nat))), (some (.builtin "object.__new__")), (some (.bool true))]⟩ :: []
noncomputable def oc86 (P : Params) : List Obj :=
  ⟨(.type "super"), none, (.fields #[(.ref (222:Nat)), (.ref (222:Nat)), (.ref (222:Nat))]), #[]⟩ ::
  ⟨(.type "builtin_function_or_method"), none, (.fields #[(.builtin "object.__init_subclass__"), (.ref (222:Nat))]), #[]⟩ :: []
noncomputable def oc87 (P : Params) : List Obj :=
  ⟨(.type "tuple"), none, (.seq #[(.ref (138:Nat))] 0), #[]⟩ :: []
noncomputable def oc88 (P : Params) : List Obj :=
  ⟨(.type "builtin_function_or_method"), none, (.fields #[(.builtin "type.__prepare__"), (.type "type")]), #[]⟩ ::
  ⟨(.type "dict"), none, (.dict #[en P "__module__" (490:Nat) (.str (Str.ofString "snobol.aggregates") (451:Nat)), en P "__qualname__" (492:Nat) (.str (Str.ofString "Table") (491:Nat)), en P "__firstlineno__" (494:Nat) (.int 98 (493:Nat)), en P "__init__" (502:Nat) (.ref (238:Nat)), en P "__static_attributes__" (506:Nat) (.ref (239:Nat))] 5), #[]⟩ ::
  ⟨(.type "tuple"), none, (.seq #[] 0), #[]⟩ ::
  ⟨.none, none, (.fields #[(.int 100 (0:Nat)), (.int 4 (0:Nat)), (.ref (237:Nat))]), #[]⟩ ::
  ⟨(.type "code"), none, (.fields #[(.str (Str.ofString "Table") (485:Nat)), (.str (Str.ofString "Table") (486:Nat)), (.str (Str.ofString "/claim/cut.py") (487:Nat)), (.int 98 (0:Nat)), (.int 0 (0:Nat)), (.int 0 (0:Nat)), (.int 0 (0:Nat)), (.int 0 (0:Nat)), (.ref (228:Nat)), (.bool false), (.int 181 (0:Nat)), (.ref (229:Nat)), .none, .none, .none, .none, (.int 488 (0:Nat)), (.int 98 (0:Nat)), (.str (Str.ofString "/claim/cut.py") (489:Nat))]), #[]⟩ ::
  ⟨(.type "frame"), none, .plain, #[(some (.ref (230:Nat))), (some (.ref (3:Nat))), (some (.ref (227:Nat))), none, (some (.str (Str.ofString "snobol.aggregates") (451:Nat))), none, (some (.ref (0:Nat)))]⟩ :: []
noncomputable def oc89 (P : Params) : List Obj :=
  ⟨(.type "tuple"), none, (.seq #[] 0), #[]⟩ :: []
noncomputable def oc90 (P : Params) : List Obj :=
  ⟨.none, none, (.fields #[]), #[]⟩ :: []
noncomputable def oc91 (P : Params) : List Obj :=
  ⟨(.type "tuple"), none, (.seq #[(.str (Str.ofString "self") (498:Nat)), (.str (Str.ofString "number") (499:Nat))] 0), #[]⟩ ::
  ⟨(.type "tuple"), none, (.seq #[] 0), #[]⟩ :: []
noncomputable def oc92 (P : Params) : List Obj :=
  ⟨.none, none, (fo0 (inC 18 0) (Str.ofString "Table.__init__") [] .none .none .none .none none .none .none (0:Nat)), #[]⟩ :: []
noncomputable def oc93 (P : Params) : List Obj :=
  ⟨(.type "code"), none, (.fields #[(.str (Str.ofString "__init__") (495:Nat)), (.str (Str.ofString "Table.__init__") (496:Nat)), (.str (Str.ofString "/claim/cut.py") (497:Nat)), (.int 100 (0:Nat)), (.int 2 (0:Nat)), (.int 0 (0:Nat)), (.int 0 (0:Nat)), (.int 3 (0:Nat)), (.ref (232:Nat)), (.bool true), (.int 181 (0:Nat)), (.ref (233:Nat)), .none, (.ref (234:Nat)), (.ref (235:Nat)), (.ref (236:Nat)), (.int 500 (0:Nat)), (.int 100 (0:Nat)), (.str (Str.ofString "/claim/cut.py") (501:Nat))]), #[]⟩ ::
  ⟨(.type "function"), none, (fv 18 0 (Str.ofString "Table.__init__") [] .none .none .none (.str (Str.ofString "snobol.aggregates") (451:Nat)) none (.ref (237:Nat)) .none (0:Nat)), #[]⟩ ::
  ⟨(.type "tuple"), none, (.seq #[(.str (Str.ofString "entries") (503:Nat)), (.str (Str.ofString "places") (504:Nat)), (.str (Str.ofString "rows") (505:Nat))] 0), #[]⟩ ::
  ⟨(.type "dict"), none, (.dict #[en P "__module__" (490:Nat) (.str (Str.ofString "snobol.aggregates") (451:Nat)), en P "__firstlineno__" (494:Nat) (.int 98 (493:Nat)), en P "__init__" (502:Nat) (.ref (238:Nat)), en P "__static_attributes__" (506:Nat) (.ref (239:Nat)), en P "__doc__" (507:Nat) .none] 2), #[]⟩ ::
  ⟨(.type "type"), none, (.cls { name := (Str.ofString "Table"), bases := [(.ref (138:Nat))], mro := [(.ref (241:Nat)), (.ref (138:Nat)), (.type "object")], ns := (240:Nat), qualname := (Str.ofString "Table"), hasDict := true, slotNames := [], subclasses := [], abstract := false, collection := none, hasDel := false }), #[(some (.ref (225:Nat))), none, (some (.str (Str.ofString "Table") (483:Nat))), (some (.str (Str.ofString "Table") (491:Nat))), (some (.builtin "object.__new__")), (some (.bool true))]⟩ :: []
noncomputable def oc94 (P : Params) : List Obj :=
  ⟨(.type "super"), none, (.fields #[(.ref (241:Nat)), (.ref (241:Nat)), (.ref (241:Nat))]), #[]⟩ ::
  ⟨(.type "builtin_function_or_method"), none, (.fields #[(.builtin "object.__init_subclass__"), (.ref (241:Nat))]), #[]⟩ :: []
noncomputable def oc95 (P : Params) : List Obj :=
  ⟨(.type "tuple"), none, (.seq #[(.ref (138:Nat))] 0), #[]⟩ :: []
noncomputable def oc96 (P : Params) : List Obj :=
  ⟨(.type "builtin_function_or_method"), none, (.fields #[(.builtin "type.__prepare__"), (.type "type")]), #[]⟩ ::
  ⟨(.type "dict"), none, (.dict #[en P "__module__" (517:Nat) (.str (Str.ofString "snobol.aggregates") (451:Nat)), en P "__qualname__" (519:Nat) (.str (Str.ofString "Data") (518:Nat)), en P "__firstlineno__" (521:Nat) (.int 105 (520:Nat)), en P "__init__" (532:Nat) (.ref (257:Nat)), en P "__static_attributes__" (535:Nat) (.ref (258:Nat))] 5), #[]⟩ ::
  ⟨(.type "tuple"), none, (.seq #[] 0), #[]⟩ ::
  ⟨.none, none, (.fields #[(.int 107 (0:Nat)), (.int 4 (0:Nat)), (.ref (256:Nat))]), #[]⟩ ::
  ⟨(.type "code"), none, (.fields #[(.str (Str.ofString "Data") (512:Nat)), (.str (Str.ofString "Data") (513:Nat)), (.str (Str.ofString "/claim/cut.py") (514:Nat)), (.int 105 (0:Nat)), (.int 0 (0:Nat)), (.int 0 (0:Nat)), (.int 0 (0:Nat)), (.int 0 (0:Nat)), (.ref (247:Nat)), (.bool false), (.int 181 (0:Nat)), (.ref (248:Nat)), .none, .none, .none, .none, (.int 515 (0:Nat)), (.int 105 (0:Nat)), (.str (Str.ofString "/claim/cut.py") (516:Nat))]), #[]⟩ ::
  ⟨(.type "frame"), none, .plain, #[(some (.ref (249:Nat))), (some (.ref (3:Nat))), (some (.ref (246:Nat))), none, (some (.str (Str.ofString "snobol.aggregates") (451:Nat))), none, (some (.ref (0:Nat)))]⟩ :: []
noncomputable def oc97 (P : Params) : List Obj :=
  ⟨(.type "tuple"), none, (.seq #[] 0), #[]⟩ :: []
noncomputable def oc98 (P : Params) : List Obj :=
  ⟨.none, none, (.fields #[]), #[]⟩ :: []
noncomputable def oc99 (P : Params) : List Obj :=
  ⟨(.type "tuple"), none, (.seq #[(.str (Str.ofString "self") (525:Nat)), (.str (Str.ofString "number") (526:Nat)), (.str (Str.ofString "word") (527:Nat)), (.str (Str.ofString "fields") (528:Nat)), (.str (Str.ofString "values") (529:Nat))] 0), #[]⟩ ::
  ⟨(.type "tuple"), none, (.seq #[] 0), #[]⟩ :: []
noncomputable def oc100 (P : Params) : List Obj :=
  ⟨.none, none, (fo0 (inC 19 0) (Str.ofString "Data.__init__") [] .none .none .none .none none .none .none (0:Nat)), #[]⟩ :: []
noncomputable def oc101 (P : Params) : List Obj :=
  ⟨(.type "code"), none, (.fields #[(.str (Str.ofString "__init__") (522:Nat)), (.str (Str.ofString "Data.__init__") (523:Nat)), (.str (Str.ofString "/claim/cut.py") (524:Nat)), (.int 107 (0:Nat)), (.int 5 (0:Nat)), (.int 0 (0:Nat)), (.int 0 (0:Nat)), (.int 3 (0:Nat)), (.ref (251:Nat)), (.bool true), (.int 181 (0:Nat)), (.ref (252:Nat)), .none, (.ref (253:Nat)), (.ref (254:Nat)), (.ref (255:Nat)), (.int 530 (0:Nat)), (.int 107 (0:Nat)), (.str (Str.ofString "/claim/cut.py") (531:Nat))]), #[]⟩ ::
  ⟨(.type "function"), none, (fo (inC 19 0) (Str.ofString "Data.__init__") [] .none .none .none (.str (Str.ofString "snobol.aggregates") (451:Nat)) none (.ref (256:Nat)) .none (0:Nat)), #[]⟩ ::
  ⟨(.type "tuple"), none, (.seq #[(.str (Str.ofString "fields") (533:Nat)), (.str (Str.ofString "values") (534:Nat))] 0), #[]⟩ ::
  ⟨(.type "dict"), none, (.dict #[en P "__module__" (517:Nat) (.str (Str.ofString "snobol.aggregates") (451:Nat)), en P "__firstlineno__" (521:Nat) (.int 105 (520:Nat)), en P "__init__" (532:Nat) (.ref (257:Nat)), en P "__static_attributes__" (535:Nat) (.ref (258:Nat)), en P "__doc__" (536:Nat) .none] 2), #[]⟩ ::
  ⟨(.type "type"), none, (.cls { name := (Str.ofString "Data"), bases := [(.ref (138:Nat))], mro := [(.ref (260:Nat)), (.ref (138:Nat)), (.type "object")], ns := (259:Nat), qualname := (Str.ofString "Data"), hasDict := true, slotNames := [], subclasses := [], abstract := false, collection := none, hasDel := false }), #[(some (.ref (244:Nat))), none, (some (.str (Str.ofString "Data") (510:Nat))), (some (.str (Str.ofString "Data") (518:Nat))), (some (.builtin "object.__new__")), (some (.bool true))]⟩ :: []
noncomputable def oc102 (P : Params) : List Obj :=
  ⟨(.type "super"), none, (.fields #[(.ref (260:Nat)), (.ref (260:Nat)), (.ref (260:Nat))]), #[]⟩ ::
  ⟨(.type "builtin_function_or_method"), none, (.fields #[(.builtin "object.__init_subclass__"), (.ref (260:Nat))]), #[]⟩ :: []
noncomputable def oc103 (P : Params) : List Obj :=
  ⟨(.type "tuple"), none, (.seq #[] 0), #[]⟩ :: []
noncomputable def oc104 (P : Params) : List Obj :=
  ⟨.none, none, (.fields #[]), #[]⟩ :: []
noncomputable def oc105 (P : Params) : List Obj :=
  ⟨(.type "tuple"), none, (.seq #[(.str (Str.ofString "bounds") (542:Nat)), (.str (Str.ofString "found") (543:Nat)), (.str (Str.ofString "low") (544:Nat)), (.str (Str.ofString "high") (545:Nat))] 0), #[]⟩ ::
  ⟨(.type "tuple"), none, (.seq #[] 0), #[]⟩ :: []
noncomputable def oc106 (P : Params) : List Obj :=
  ⟨.none, none, (fo0 (at_ 20) (Str.ofString "size_of_bounds") [] .none .none .none .none none .none .none (0:Nat)), #[]⟩ :: []
noncomputable def oc107 (P : Params) : List Obj :=
  ⟨(.type "code"), none, (.fields #[(.str (Str.ofString "size_of_bounds") (539:Nat)), (.str (Str.ofString "size_of_bounds") (540:Nat)), (.str (Str.ofString "/claim/cut.py") (541:Nat)), (.int 111 (0:Nat)), (.int 1 (0:Nat)), (.int 0 (0:Nat)), (.int 0 (0:Nat)), (.int 3 (0:Nat)), (.ref (263:Nat)), (.bool true), (.int 181 (0:Nat)), (.ref (264:Nat)), .none, (.ref (265:Nat)), (.ref (266:Nat)), (.ref (267:Nat)), (.int 546 (0:Nat)), (.int 111 (0:Nat)), (.str (Str.ofString "/claim/cut.py") (547:Nat))]), #[]⟩ ::
  ⟨(.type "function"), none, (fu 20 (Str.ofString "size_of_bounds") [] .none .none .none (.str (Str.ofString "snobol.aggregates") (451:Nat)) none (.ref (268:Nat)) .none (0:Nat)), #[]⟩ ::
  ⟨(.type "tuple"), none, (.seq #[] 0), #[]⟩ :: []
noncomputable def oc108 (P : Params) : List Obj :=
  ⟨.none, none, (.fields #[]), #[]⟩ :: []
noncomputable def oc109 (P : Params) : List Obj :=
  ⟨(.type "tuple"), none, (.seq #[(.str (Str.ofString "table") (552:Nat)), (.str (Str.ofString "mark") (553:Nat)), (.str (Str.ofString "pair") (554:Nat))] 0), #[]⟩ ::
  ⟨(.type "tuple"), none, (.seq #[] 0), #[]⟩ :: []
noncomputable def oc110 (P : Params) : List Obj :=
  ⟨.none, none, (fo0 (at_ 21) (Str.ofString "put_entry") [] .none .none .none .none none .none .none (0:Nat)), #[]⟩ :: []
noncomputable def oc111 (P : Params) : List Obj :=
  ⟨(.type "code"), none, (.fields #[(.str (Str.ofString "put_entry") (549:Nat)), (.str (Str.ofString "put_entry") (550:Nat)), (.str (Str.ofString "/claim/cut.py") (551:Nat)), (.int 116 (0:Nat)), (.int 3 (0:Nat)), (.int 0 (0:Nat)), (.int 0 (0:Nat)), (.int 3 (0:Nat)), (.ref (270:Nat)), (.bool true), (.int 181 (0:Nat)), (.ref (271:Nat)), .none, (.ref (272:Nat)), (.ref (273:Nat)), (.ref (274:Nat)), (.int 555 (0:Nat)), (.int 116 (0:Nat)), (.str (Str.ofString "/claim/cut.py") (556:Nat))]), #[]⟩ ::
  ⟨(.type "function"), none, (fu 21 (Str.ofString "put_entry") [] .none .none .none (.str (Str.ofString "snobol.aggregates") (451:Nat)) none (.ref (275:Nat)) .none (0:Nat)), #[]⟩ ::
  ⟨(.type "tuple"), none, (.seq #[] 0), #[]⟩ :: []
noncomputable def oc112 (P : Params) : List Obj :=
  ⟨.none, none, (.fields #[]), #[]⟩ :: []
noncomputable def oc113 (P : Params) : List Obj :=
  ⟨(.type "tuple"), none, (.seq #[(.str (Str.ofString "thing") (561:Nat)), (.str (Str.ofString "field") (562:Nat))] 0), #[]⟩ ::
  ⟨(.type "tuple"), none, (.seq #[] 0), #[]⟩ :: []
noncomputable def oc114 (P : Params) : List Obj :=
  ⟨.none, none, (fo0 (at_ 22) (Str.ofString "field_ref") [] .none .none .none .none none .none .none (0:Nat)), #[]⟩ :: []
noncomputable def oc115 (P : Params) : List Obj :=
  ⟨(.type "code"), none, (.fields #[(.str (Str.ofString "field_ref") (558:Nat)), (.str (Str.ofString "field_ref") (559:Nat)), (.str (Str.ofString "/claim/cut.py") (560:Nat)), (.int 120 (0:Nat)), (.int 2 (0:Nat)), (.int 0 (0:Nat)), (.int 0 (0:Nat)), (.int 3 (0:Nat)), (.ref (277:Nat)), (.bool true), (.int 181 (0:Nat)), (.ref (278:Nat)), .none, (.ref (279:Nat)), (.ref (280:Nat)), (.ref (281:Nat)), (.int 563 (0:Nat)), (.int 120 (0:Nat)), (.str (Str.ofString "/claim/cut.py") (564:Nat))]), #[]⟩ ::
  ⟨(.type "function"), none, (fo (at_ 22) (Str.ofString "field_ref") [] .none .none .none (.str (Str.ofString "snobol.aggregates") (451:Nat)) none (.ref (282:Nat)) .none (0:Nat)), #[]⟩ ::
  ⟨(.type "tuple"), none, (.seq #[] 0), #[]⟩ :: []
noncomputable def oc116 (P : Params) : List Obj :=
  ⟨.none, none, (.fields #[]), #[]⟩ :: []
noncomputable def oc117 (P : Params) : List Obj :=
  ⟨(.type "tuple"), none, (.seq #[(.str (Str.ofString "ref") (569:Nat))] 0), #[]⟩ ::
  ⟨(.type "tuple"), none, (.seq #[] 0), #[]⟩ :: []
noncomputable def oc118 (P : Params) : List Obj :=
  ⟨.none, none, (fo0 (at_ 23) (Str.ofString "slot_get") [] .none .none .none .none none .none .none (0:Nat)), #[]⟩ :: []
noncomputable def oc119 (P : Params) : List Obj :=
  ⟨(.type "code"), none, (.fields #[(.str (Str.ofString "slot_get") (566:Nat)), (.str (Str.ofString "slot_get") (567:Nat)), (.str (Str.ofString "/claim/cut.py") (568:Nat)), (.int 126 (0:Nat)), (.int 1 (0:Nat)), (.int 0 (0:Nat)), (.int 0 (0:Nat)), (.int 3 (0:Nat)), (.ref (284:Nat)), (.bool true), (.int 181 (0:Nat)), (.ref (285:Nat)), .none, (.ref (286:Nat)), (.ref (287:Nat)), (.ref (288:Nat)), (.int 570 (0:Nat)), (.int 126 (0:Nat)), (.str (Str.ofString "/claim/cut.py") (571:Nat))]), #[]⟩ ::
  ⟨(.type "function"), none, (fu 23 (Str.ofString "slot_get") [] .none .none .none (.str (Str.ofString "snobol.aggregates") (451:Nat)) none (.ref (289:Nat)) .none (0:Nat)), #[]⟩ ::
  ⟨(.type "tuple"), none, (.seq #[] 0), #[]⟩ :: []
noncomputable def oc120 (P : Params) : List Obj :=
  ⟨.none, none, (.fields #[]), #[]⟩ :: []
noncomputable def oc121 (P : Params) : List Obj :=
  ⟨(.type "tuple"), none, (.seq #[(.str (Str.ofString "ref") (576:Nat)), (.str (Str.ofString "value") (577:Nat))] 0), #[]⟩ ::
  ⟨(.type "tuple"), none, (.seq #[] 0), #[]⟩ :: []
noncomputable def oc122 (P : Params) : List Obj :=
  ⟨.none, none, (fo0 (at_ 24) (Str.ofString "slot_set") [] .none .none .none .none none .none .none (0:Nat)), #[]⟩ :: []
noncomputable def oc123 (P : Params) : List Obj :=
  ⟨(.type "code"), none, (.fields #[(.str (Str.ofString "slot_set") (573:Nat)), (.str (Str.ofString "slot_set") (574:Nat)), (.str (Str.ofString "/claim/cut.py") (575:Nat)), (.int 132 (0:Nat)), (.int 2 (0:Nat)), (.int 0 (0:Nat)), (.int 0 (0:Nat)), (.int 3 (0:Nat)), (.ref (291:Nat)), (.bool true), (.int 181 (0:Nat)), (.ref (292:Nat)), .none, (.ref (293:Nat)), (.ref (294:Nat)), (.ref (295:Nat)), (.int 578 (0:Nat)), (.int 132 (0:Nat)), (.str (Str.ofString "/claim/cut.py") (579:Nat))]), #[]⟩ ::
  ⟨(.type "function"), none, (fu 24 (Str.ofString "slot_set") [] .none .none .none (.str (Str.ofString "snobol.aggregates") (451:Nat)) none (.ref (296:Nat)) .none (0:Nat)), #[]⟩ ::
  ⟨(.type "tuple"), none, (.seq #[] 0), #[]⟩ :: []
noncomputable def oc124 (P : Params) : List Obj :=
  ⟨.none, none, (.fields #[]), #[]⟩ :: []
noncomputable def oc125 (P : Params) : List Obj :=
  ⟨(.type "tuple"), none, (.seq #[(.str (Str.ofString "number") (584:Nat)), (.str (Str.ofString "word") (585:Nat)), (.str (Str.ofString "fields") (586:Nat)), (.str (Str.ofString "values") (587:Nat))] 0), #[]⟩ ::
  ⟨(.type "tuple"), none, (.seq #[] 0), #[]⟩ :: []
noncomputable def oc126 (P : Params) : List Obj :=
  ⟨.none, none, (fo0 (at_ 25) (Str.ofString "data_made") [] .none .none .none .none none .none .none (0:Nat)), #[]⟩ :: []
noncomputable def oc127 (P : Params) : List Obj :=
  ⟨(.type "code"), none, (.fields #[(.str (Str.ofString "data_made") (581:Nat)), (.str (Str.ofString "data_made") (582:Nat)), (.str (Str.ofString "/claim/cut.py") (583:Nat)), (.int 139 (0:Nat)), (.int 4 (0:Nat)), (.int 0 (0:Nat)), (.int 0 (0:Nat)), (.int 3 (0:Nat)), (.ref (298:Nat)), (.bool true), (.int 181 (0:Nat)), (.ref (299:Nat)), .none, (.ref (300:Nat)), (.ref (301:Nat)), (.ref (302:Nat)), (.int 588 (0:Nat)), (.int 139 (0:Nat)), (.str (Str.ofString "/claim/cut.py") (589:Nat))]), #[]⟩ ::
  ⟨(.type "function"), none, (fo (at_ 25) (Str.ofString "data_made") [] .none .none .none (.str (Str.ofString "snobol.aggregates") (451:Nat)) none (.ref (303:Nat)) .none (0:Nat)), #[]⟩ ::
  ⟨(.type "tuple"), none, (.seq #[] 0), #[]⟩ :: []
noncomputable def oc128 (P : Params) : List Obj :=
  ⟨.none, none, (.fields #[]), #[]⟩ :: []
noncomputable def oc129 (P : Params) : List Obj :=
  ⟨(.type "tuple"), none, (.seq #[(.str (Str.ofString "value") (594:Nat)), (.str (Str.ofString "number") (595:Nat)), (.str (Str.ofString "found") (596:Nat)), (.str (Str.ofString "mark") (597:Nat))] 0), #[]⟩ ::
  ⟨(.type "tuple"), none, (.seq #[] 0), #[]⟩ :: []
noncomputable def oc130 (P : Params) : List Obj :=
  ⟨.none, none, (fo0 (at_ 26) (Str.ofString "copy_of") [] .none .none .none .none none .none .none (0:Nat)), #[]⟩ :: []
noncomputable def oc131 (P : Params) : List Obj :=
  ⟨(.type "code"), none, (.fields #[(.str (Str.ofString "copy_of") (591:Nat)), (.str (Str.ofString "copy_of") (592:Nat)), (.str (Str.ofString "/claim/cut.py") (593:Nat)), (.int 141 (0:Nat)), (.int 2 (0:Nat)), (.int 0 (0:Nat)), (.int 0 (0:Nat)), (.int 3 (0:Nat)), (.ref (305:Nat)), (.bool true), (.int 181 (0:Nat)), (.ref (306:Nat)), .none, (.ref (307:Nat)), (.ref (308:Nat)), (.ref (309:Nat)), (.int 598 (0:Nat)), (.int 141 (0:Nat)), (.str (Str.ofString "/claim/cut.py") (599:Nat))]), #[]⟩ ::
  ⟨(.type "function"), none, (fo (at_ 26) (Str.ofString "copy_of") [] .none .none .none (.str (Str.ofString "snobol.aggregates") (451:Nat)) none (.ref (310:Nat)) .none (0:Nat)), #[]⟩ :: []
noncomputable def oc132 (P : Params) : List Obj :=
  ⟨(.type "tuple"), none, (.seq #[] 0), #[]⟩ ::
  ⟨(.type "builtin_function_or_method"), none, (.fields #[(.builtin "type.__prepare__"), (.type "type")]), #[]⟩ ::
  ⟨(.type "dict"), none, (.dict #[en P "__module__" (610:Nat) (.str (Str.ofString "snobol.world") (601:Nat)), en P "__qualname__" (612:Nat) (.str (Str.ofString "World") (611:Nat)), en P "__firstlineno__" (614:Nat) (.int 155 (613:Nat)), en P "__init__" (629:Nat) (.ref (326:Nat)), en P "__static_attributes__" (656:Nat) (.ref (327:Nat))] 5), #[]⟩ ::
  ⟨(.type "tuple"), none, (.seq #[] 0), #[]⟩ ::
  ⟨.none, none, (.fields #[(.int 157 (0:Nat)), (.int 4 (0:Nat)), (.ref (325:Nat))]), #[]⟩ ::
  ⟨(.type "code"), none, (.fields #[(.str (Str.ofString "World") (605:Nat)), (.str (Str.ofString "World") (606:Nat)), (.str (Str.ofString "/claim/cut.py") (607:Nat)), (.int 155 (0:Nat)), (.int 0 (0:Nat)), (.int 0 (0:Nat)), (.int 0 (0:Nat)), (.int 0 (0:Nat)), (.ref (315:Nat)), (.bool false), (.int 181 (0:Nat)), (.ref (316:Nat)), .none, .none, .none, .none, (.int 608 (0:Nat)), (.int 155 (0:Nat)), (.str (Str.ofString "/claim/cut.py") (609:Nat))]), #[]⟩ ::
  ⟨(.type "frame"), none, .plain, #[(some (.ref (317:Nat))), (some (.ref (3:Nat))), (some (.ref (314:Nat))), none, (some (.str (Str.ofString "snobol.world") (601:Nat))), none, (some (.ref (0:Nat)))]⟩ :: []
noncomputable def oc133 (P : Params) : List Obj :=
  ⟨(.type "tuple"), none, (.seq #[(.int 32 (615:Nat)), (.int 5000 (616:Nat)), (.int 30 (617:Nat)), (.int 5000 (618:Nat))] 0), #[]⟩ ::
  ⟨(.type "tuple"), none, (.seq #[] 0), #[]⟩ :: []
noncomputable def oc134 (P : Params) : List Obj :=
  ⟨.none, none, (.fields #[]), #[]⟩ :: []
noncomputable def oc135 (P : Params) : List Obj :=
  ⟨(.type "tuple"), none, (.seq #[(.str (Str.ofString "self") (622:Nat)), (.str (Str.ofString "width") (623:Nat)), (.str (Str.ofString "most_steps") (624:Nat)), (.str (Str.ofString "most_depth") (625:Nat)), (.str (Str.ofString "most_length") (626:Nat))] 0), #[]⟩ ::
  ⟨(.type "tuple"), none, (.seq #[] 0), #[]⟩ :: []
noncomputable def oc136 (P : Params) : List Obj :=
  ⟨.none, none, (fo0 (inC 28 0) (Str.ofString "World.__init__") [] .none .none .none .none none .none .none (0:Nat)), #[]⟩ :: []
noncomputable def oc137 (P : Params) : List Obj :=
  ⟨(.type "code"), none, (.fields #[(.str (Str.ofString "__init__") (619:Nat)), (.str (Str.ofString "World.__init__") (620:Nat)), (.str (Str.ofString "/claim/cut.py") (621:Nat)), (.int 157 (0:Nat)), (.int 5 (0:Nat)), (.int 0 (0:Nat)), (.int 0 (0:Nat)), (.int 3 (0:Nat)), (.ref (320:Nat)), (.bool true), (.int 181 (0:Nat)), (.ref (321:Nat)), .none, (.ref (322:Nat)), (.ref (323:Nat)), (.ref (324:Nat)), (.int 627 (0:Nat)), (.int 157 (0:Nat)), (.str (Str.ofString "/claim/cut.py") (628:Nat))]), #[]⟩ ::
  ⟨(.type "function"), none, (fo (inC 28 0) (Str.ofString "World.__init__") [] (.ref (319:Nat)) .none .none (.str (Str.ofString "snobol.world") (601:Nat)) none (.ref (325:Nat)) .none (0:Nat)), #[]⟩ ::
  ⟨(.type "tuple"), none, (.seq #[(.str (Str.ofString "aside") (630:Nat)), (.str (Str.ofString "depth") (631:Nat)), (.str (Str.ofString "evaluate") (632:Nat)), (.str (Str.ofString "functions") (633:Nat)), (.str (Str.ofString "holders") (634:Nat)), (.str (Str.ofString "inputs") (635:Nat)), (.str (Str.ofString "kept_names") (636:Nat)), (.str (Str.ofString "keywords") (637:Nat)), (.str (Str.ofString "labels") (638:Nat)), (.str (Str.ofString "made") (639:Nat)), (.str (Str.ofString "make_code") (640:Nat)), (.str (Str.ofString "matcher") (641:Nat)), (.str (Str.ofString "most_depth") (642:Nat)), (.str (Str.ofString "most_items") (643:Nat)), (.str (Str.ofString "most_length") (644:Nat)), (.str (Str.ofString "most_steps") (645:Nat)), (.str (Str.ofString "nested") (646:Nat)), (.str (Str.ofString "opsyns") (647:Nat)), (.str (Str.ofString "outputs") (648:Nat)), (.str (Str.ofString "read_names") (649:Nat)), (.str (Str.ofString "steps") (650:Nat)), (.str (Str.ofString "store") (651:Nat)), (.str (Str.ofString "traced") (652:Nat)), (.str (Str.ofString "traces") (653:Nat)), (.str (Str.ofString "width") (654:Nat)), (.str (Str.ofString "write_names") (655:Nat))] 0), #[]⟩ ::
  ⟨(.type "dict"), none, (.dict #[en P "__module__" (610:Nat) (.str (Str.ofString "snobol.world") (601:Nat)), en P "__firstlineno__" (614:Nat) (.int 155 (613:Nat)), en P "__init__" (629:Nat) (.ref (326:Nat)), en P "__static_attributes__" (656:Nat) (.ref (327:Nat)), en P "__dict__" (658:Nat) (.ref (330:Nat)), en P "__weakref__" (660:Nat) (.ref (331:Nat)), en P "__doc__" (661:Nat) .none] 4), #[]⟩ ::
  ⟨(.type "type"), none, (.cls { name := (Str.ofString "World"), bases := [(.type "object")], mro := [(.ref (329:Nat)), (.type "object")], ns := (328:Nat), qualname := (Str.ofString "World"), hasDict := true, slotNames := [], subclasses := [], abstract := false, collection := none, hasDel := false }), #[none, none, (some (.str (Str.ofString "World") (603:Nat))), (some (.str (Str.ofString "World") (611:Nat))), (some (.builtin "object.__new__")), (some (.bool true))]⟩ ::
  ⟨(.type "getset_descriptor"), none, (.fields #[(.str (Str.ofString "__dict__") (657:Nat)), (.ref (329:Nat)), (.builtin "function.__dict__"), (.builtin "function.__dict__#set")]), #[]⟩ ::
  ⟨(.type "getset_descriptor"), none, (.fields #[(.str (Str.ofString "__weakref__") (659:Nat)), (.ref (329:Nat)), (.builtin "ExceptionGroup.__weakref__"), .none]), #[]⟩ :: []
noncomputable def oc138 (P : Params) : List Obj :=
  ⟨(.type "super"), none, (.fields #[(.ref (329:Nat)), (.ref (329:Nat)), (.ref (329:Nat))]), #[]⟩ ::
  ⟨(.type "builtin_function_or_method"), none, (.fields #[(.builtin "object.__init_subclass__"), (.ref (329:Nat))]), #[]⟩ :: []
noncomputable def oc139 (P : Params) : List Obj :=
  ⟨(.type "tuple"), none, (.seq #[] 0), #[]⟩ :: []
noncomputable def oc140 (P : Params) : List Obj :=
  ⟨.none, none, (.fields #[]), #[]⟩ :: []
noncomputable def oc141 (P : Params) : List Obj :=
  ⟨(.type "tuple"), none, (.seq #[(.str (Str.ofString "world") (667:Nat))] 0), #[]⟩ ::
  ⟨(.type "tuple"), none, (.seq #[] 0), #[]⟩ :: []
noncomputable def oc142 (P : Params) : List Obj :=
  ⟨.none, none, (fo0 (at_ 29) (Str.ofString "next_number") [] .none .none .none .none none .none .none (0:Nat)), #[]⟩ :: []
noncomputable def oc143 (P : Params) : List Obj :=
  ⟨(.type "code"), none, (.fields #[(.str (Str.ofString "next_number") (664:Nat)), (.str (Str.ofString "next_number") (665:Nat)), (.str (Str.ofString "/claim/cut.py") (666:Nat)), (.int 184 (0:Nat)), (.int 1 (0:Nat)), (.int 0 (0:Nat)), (.int 0 (0:Nat)), (.int 3 (0:Nat)), (.ref (334:Nat)), (.bool true), (.int 181 (0:Nat)), (.ref (335:Nat)), .none, (.ref (336:Nat)), (.ref (337:Nat)), (.ref (338:Nat)), (.int 668 (0:Nat)), (.int 184 (0:Nat)), (.str (Str.ofString "/claim/cut.py") (669:Nat))]), #[]⟩ ::
  ⟨(.type "function"), none, (fo (at_ 29) (Str.ofString "next_number") [] .none .none .none (.str (Str.ofString "snobol.world") (601:Nat)) none (.ref (339:Nat)) .none (0:Nat)), #[]⟩ ::
  ⟨(.type "tuple"), none, (.seq #[] 0), #[]⟩ :: []
noncomputable def oc144 (P : Params) : List Obj :=
  ⟨.none, none, (.fields #[]), #[]⟩ :: []
noncomputable def oc145 (P : Params) : List Obj :=
  ⟨(.type "tuple"), none, (.seq #[(.str (Str.ofString "world") (674:Nat)), (.str (Str.ofString "name") (675:Nat)), (.str (Str.ofString "row") (676:Nat))] 0), #[]⟩ ::
  ⟨(.type "tuple"), none, (.seq #[] 0), #[]⟩ :: []
noncomputable def oc146 (P : Params) : List Obj :=
  ⟨.none, none, (fo0 (at_ 30) (Str.ofString "get_var") [] .none .none .none .none none .none .none (0:Nat)), #[]⟩ :: []
noncomputable def oc147 (P : Params) : List Obj :=
  ⟨(.type "code"), none, (.fields #[(.str (Str.ofString "get_var") (671:Nat)), (.str (Str.ofString "get_var") (672:Nat)), (.str (Str.ofString "/claim/cut.py") (673:Nat)), (.int 187 (0:Nat)), (.int 2 (0:Nat)), (.int 0 (0:Nat)), (.int 0 (0:Nat)), (.int 3 (0:Nat)), (.ref (341:Nat)), (.bool true), (.int 181 (0:Nat)), (.ref (342:Nat)), .none, (.ref (343:Nat)), (.ref (344:Nat)), (.ref (345:Nat)), (.int 677 (0:Nat)), (.int 187 (0:Nat)), (.str (Str.ofString "/claim/cut.py") (678:Nat))]), #[]⟩ ::
  ⟨(.type "function"), none, (fo (at_ 30) (Str.ofString "get_var") [] .none .none .none (.str (Str.ofString "snobol.world") (601:Nat)) none (.ref (346:Nat)) .none (0:Nat)), #[]⟩ ::
  ⟨(.type "tuple"), none, (.seq #[] 0), #[]⟩ :: []
noncomputable def oc148 (P : Params) : List Obj :=
  ⟨.none, none, (.fields #[]), #[]⟩ :: []
noncomputable def oc149 (P : Params) : List Obj :=
  ⟨(.type "tuple"), none, (.seq #[(.str (Str.ofString "world") (683:Nat)), (.str (Str.ofString "name") (684:Nat)), (.str (Str.ofString "value") (685:Nat))] 0), #[]⟩ ::
  ⟨(.type "tuple"), none, (.seq #[] 0), #[]⟩ :: []
noncomputable def oc150 (P : Params) : List Obj :=
  ⟨.none, none, (fo0 (at_ 31) (Str.ofString "set_var") [] .none .none .none .none none .none .none (0:Nat)), #[]⟩ :: []
noncomputable def oc151 (P : Params) : List Obj :=
  ⟨(.type "code"), none, (.fields #[(.str (Str.ofString "set_var") (680:Nat)), (.str (Str.ofString "set_var") (681:Nat)), (.str (Str.ofString "/claim/cut.py") (682:Nat)), (.int 197 (0:Nat)), (.int 3 (0:Nat)), (.int 0 (0:Nat)), (.int 0 (0:Nat)), (.int 3 (0:Nat)), (.ref (348:Nat)), (.bool true), (.int 181 (0:Nat)), (.ref (349:Nat)), .none, (.ref (350:Nat)), (.ref (351:Nat)), (.ref (352:Nat)), (.int 686 (0:Nat)), (.int 197 (0:Nat)), (.str (Str.ofString "/claim/cut.py") (687:Nat))]), #[]⟩ ::
  ⟨(.type "function"), none, (fo (at_ 31) (Str.ofString "set_var") [] .none .none .none (.str (Str.ofString "snobol.world") (601:Nat)) none (.ref (353:Nat)) .none (0:Nat)), #[]⟩ ::
  ⟨(.type "tuple"), none, (.seq #[] 0), #[]⟩ :: []
noncomputable def oc152 (P : Params) : List Obj :=
  ⟨.none, none, (.fields #[]), #[]⟩ :: []
noncomputable def oc153 (P : Params) : List Obj :=
  ⟨(.type "tuple"), none, (.seq #[(.str (Str.ofString "world") (698:Nat)), (.str (Str.ofString "holder") (699:Nat))] 0), #[]⟩ ::
  ⟨(.type "tuple"), none, (.seq #[] 0), #[]⟩ :: []
noncomputable def oc154 (P : Params) : List Obj :=
  ⟨.none, none, (fo0 (at_ 35) (Str.ofString "held") [] .none .none .none .none none .none .none (0:Nat)), #[]⟩ :: []
noncomputable def oc155 (P : Params) : List Obj :=
  ⟨(.type "code"), none, (.fields #[(.str (Str.ofString "held") (695:Nat)), (.str (Str.ofString "held") (696:Nat)), (.str (Str.ofString "/claim/cut.py") (697:Nat)), (.int 206 (0:Nat)), (.int 2 (0:Nat)), (.int 0 (0:Nat)), (.int 0 (0:Nat)), (.int 3 (0:Nat)), (.ref (355:Nat)), (.bool true), (.int 181 (0:Nat)), (.ref (356:Nat)), .none, (.ref (357:Nat)), (.ref (358:Nat)), (.ref (359:Nat)), (.int 700 (0:Nat)), (.int 206 (0:Nat)), (.str (Str.ofString "/claim/cut.py") (701:Nat))]), #[]⟩ ::
  ⟨(.type "function"), none, (fo (at_ 35) (Str.ofString "held") [] .none .none .none (.str (Str.ofString "snobol.heap") (689:Nat)) none (.ref (360:Nat)) .none (0:Nat)), #[]⟩ ::
  ⟨(.type "tuple"), none, (.seq #[] 0), #[]⟩ :: []
noncomputable def oc156 (P : Params) : List Obj :=
  ⟨.none, none, (.fields #[]), #[]⟩ :: []
noncomputable def oc157 (P : Params) : List Obj :=
  ⟨(.type "tuple"), none, (.seq #[(.str (Str.ofString "world") (706:Nat)), (.str (Str.ofString "word") (707:Nat)), (.str (Str.ofString "fields") (708:Nat)), (.str (Str.ofString "values") (709:Nat))] 0), #[]⟩ ::
  ⟨(.type "tuple"), none, (.seq #[] 0), #[]⟩ :: []
noncomputable def oc158 (P : Params) : List Obj :=
  ⟨.none, none, (fo0 (at_ 36) (Str.ofString "made_data") [] .none .none .none .none none .none .none (0:Nat)), #[]⟩ :: []
noncomputable def oc159 (P : Params) : List Obj :=
  ⟨(.type "code"), none, (.fields #[(.str (Str.ofString "made_data") (703:Nat)), (.str (Str.ofString "made_data") (704:Nat)), (.str (Str.ofString "/claim/cut.py") (705:Nat)), (.int 209 (0:Nat)), (.int 4 (0:Nat)), (.int 0 (0:Nat)), (.int 0 (0:Nat)), (.int 3 (0:Nat)), (.ref (362:Nat)), (.bool true), (.int 181 (0:Nat)), (.ref (363:Nat)), .none, (.ref (364:Nat)), (.ref (365:Nat)), (.ref (366:Nat)), (.int 710 (0:Nat)), (.int 209 (0:Nat)), (.str (Str.ofString "/claim/cut.py") (711:Nat))]), #[]⟩ ::
  ⟨(.type "function"), none, (fo (at_ 36) (Str.ofString "made_data") [] .none .none .none (.str (Str.ofString "snobol.heap") (689:Nat)) none (.ref (367:Nat)) .none (0:Nat)), #[]⟩ ::
  ⟨(.type "tuple"), none, (.seq #[] 0), #[]⟩ :: []
noncomputable def oc160 (P : Params) : List Obj :=
  ⟨.none, none, (.fields #[]), #[]⟩ :: []
noncomputable def oc161 (P : Params) : List Obj :=
  ⟨(.type "tuple"), none, (.seq #[(.str (Str.ofString "world") (716:Nat)), (.str (Str.ofString "value") (717:Nat))] 0), #[]⟩ ::
  ⟨(.type "tuple"), none, (.seq #[] 0), #[]⟩ :: []
noncomputable def oc162 (P : Params) : List Obj :=
  ⟨.none, none, (fo0 (at_ 37) (Str.ofString "made_copy") [] .none .none .none .none none .none .none (0:Nat)), #[]⟩ :: []
noncomputable def oc163 (P : Params) : List Obj :=
  ⟨(.type "code"), none, (.fields #[(.str (Str.ofString "made_copy") (713:Nat)), (.str (Str.ofString "made_copy") (714:Nat)), (.str (Str.ofString "/claim/cut.py") (715:Nat)), (.int 211 (0:Nat)), (.int 2 (0:Nat)), (.int 0 (0:Nat)), (.int 0 (0:Nat)), (.int 3 (0:Nat)), (.ref (369:Nat)), (.bool true), (.int 181 (0:Nat)), (.ref (370:Nat)), .none, (.ref (371:Nat)), (.ref (372:Nat)), (.ref (373:Nat)), (.int 718 (0:Nat)), (.int 211 (0:Nat)), (.str (Str.ofString "/claim/cut.py") (719:Nat))]), #[]⟩ ::
  ⟨(.type "function"), none, (fo (at_ 37) (Str.ofString "made_copy") [] .none .none .none (.str (Str.ofString "snobol.heap") (689:Nat)) none (.ref (374:Nat)) .none (0:Nat)), #[]⟩ ::
  ⟨(.type "tuple"), none, (.seq #[] 0), #[]⟩ :: []
noncomputable def oc164 (P : Params) : List Obj :=
  ⟨.none, none, (.fields #[]), #[]⟩ :: []
noncomputable def oc165 (P : Params) : List Obj :=
  ⟨(.type "tuple"), none, (.seq #[(.str (Str.ofString "node") (724:Nat)), (.str (Str.ofString "found") (725:Nat)), (.str (Str.ofString "waiting") (726:Nat)), (.str (Str.ofString "part") (727:Nat))] 0), #[]⟩ ::
  ⟨(.type "tuple"), none, (.seq #[] 0), #[]⟩ :: []
noncomputable def oc166 (P : Params) : List Obj :=
  ⟨.none, none, (fo0 (at_ 38) (Str.ofString "things_in_node") [] .none .none .none .none none .none .none (0:Nat)), #[]⟩ :: []
noncomputable def oc167 (P : Params) : List Obj :=
  ⟨(.type "code"), none, (.fields #[(.str (Str.ofString "things_in_node") (721:Nat)), (.str (Str.ofString "things_in_node") (722:Nat)), (.str (Str.ofString "/claim/cut.py") (723:Nat)), (.int 215 (0:Nat)), (.int 1 (0:Nat)), (.int 0 (0:Nat)), (.int 0 (0:Nat)), (.int 3 (0:Nat)), (.ref (376:Nat)), (.bool true), (.int 181 (0:Nat)), (.ref (377:Nat)), .none, (.ref (378:Nat)), (.ref (379:Nat)), (.ref (380:Nat)), (.int 728 (0:Nat)), (.int 215 (0:Nat)), (.str (Str.ofString "/claim/cut.py") (729:Nat))]), #[]⟩ ::
  ⟨(.type "function"), none, (fo (at_ 38) (Str.ofString "things_in_node") [] .none .none .none (.str (Str.ofString "snobol.heap") (689:Nat)) none (.ref (381:Nat)) .none (0:Nat)), #[]⟩ ::
  ⟨(.type "tuple"), none, (.seq #[] 0), #[]⟩ :: []
noncomputable def oc168 (P : Params) : List Obj :=
  ⟨.none, none, (.fields #[]), #[]⟩ ::
  ⟨.none, none, (fo0 (at_ 39) (Str.ofString "things_in") [] .none .none .none .none none .none .none (0:Nat)), #[]⟩ :: []
noncomputable def oc169 (P : Params) : List Obj :=
  ⟨(.type "code"), none, (.fields #[(.str (Str.ofString "things_in") (731:Nat)), (.str (Str.ofString "things_in") (732:Nat)), (.str (Str.ofString "/claim/cut.py") (733:Nat)), (.int 224 (0:Nat)), (.int 1 (0:Nat)), (.int 0 (0:Nat)), (.int 0 (0:Nat)), (.int 3 (0:Nat)), (.ref (383:Nat)), (.bool true), (.int 181 (0:Nat)), (.ref (384:Nat)), .none, .none, .none, (.ref (385:Nat)), (.int 734 (0:Nat)), (.int 224 (0:Nat)), (.str (Str.ofString "/claim/cut.py") (735:Nat))]), #[]⟩ ::
  ⟨(.type "function"), none, (fo (at_ 39) (Str.ofString "things_in") [] .none .none .none (.str (Str.ofString "snobol.heap") (689:Nat)) none (.ref (386:Nat)) .none (0:Nat)), #[]⟩ ::
  ⟨(.type "tuple"), none, (.seq #[] 0), #[]⟩ :: []
noncomputable def oc170 (P : Params) : List Obj :=
  ⟨.none, none, (.fields #[]), #[]⟩ :: []
noncomputable def oc171 (P : Params) : List Obj :=
  ⟨(.type "tuple"), none, (.seq #[(.str (Str.ofString "roots") (740:Nat)), (.str (Str.ofString "waiting") (741:Nat)), (.str (Str.ofString "met") (742:Nat)), (.str (Str.ofString "value") (743:Nat))] 0), #[]⟩ ::
  ⟨(.type "tuple"), none, (.seq #[] 0), #[]⟩ :: []
noncomputable def oc172 (P : Params) : List Obj :=
  ⟨.none, none, (fo0 (at_ 40) (Str.ofString "reach") [] .none .none .none .none none .none .none (0:Nat)), #[]⟩ :: []
noncomputable def oc173 (P : Params) : List Obj :=
  ⟨(.type "code"), none, (.fields #[(.str (Str.ofString "reach") (737:Nat)), (.str (Str.ofString "reach") (738:Nat)), (.str (Str.ofString "/claim/cut.py") (739:Nat)), (.int 234 (0:Nat)), (.int 1 (0:Nat)), (.int 0 (0:Nat)), (.int 0 (0:Nat)), (.int 3 (0:Nat)), (.ref (388:Nat)), (.bool true), (.int 181 (0:Nat)), (.ref (389:Nat)), .none, (.ref (390:Nat)), (.ref (391:Nat)), (.ref (392:Nat)), (.int 744 (0:Nat)), (.int 234 (0:Nat)), (.str (Str.ofString "/claim/cut.py") (745:Nat))]), #[]⟩ ::
  ⟨(.type "function"), none, (fo (at_ 40) (Str.ofString "reach") [] .none .none .none (.str (Str.ofString "snobol.heap") (689:Nat)) none (.ref (393:Nat)) .none (0:Nat)), #[]⟩ ::
  ⟨(.type "tuple"), none, (.seq #[] 0), #[]⟩ :: []
noncomputable def oc174 (P : Params) : List Obj :=
  ⟨.none, none, (.fields #[]), #[]⟩ ::
  ⟨.none, none, (fo0 (at_ 41) (Str.ofString "world_roots") [] .none .none .none .none none .none .none (0:Nat)), #[]⟩ :: []
noncomputable def oc175 (P : Params) : List Obj :=
  ⟨(.type "code"), none, (.fields #[(.str (Str.ofString "world_roots") (747:Nat)), (.str (Str.ofString "world_roots") (748:Nat)), (.str (Str.ofString "/claim/cut.py") (749:Nat)), (.int 245 (0:Nat)), (.int 1 (0:Nat)), (.int 0 (0:Nat)), (.int 0 (0:Nat)), (.int 3 (0:Nat)), (.ref (395:Nat)), (.bool true), (.int 181 (0:Nat)), (.ref (396:Nat)), .none, .none, .none, (.ref (397:Nat)), (.int 750 (0:Nat)), (.int 245 (0:Nat)), (.str (Str.ofString "/claim/cut.py") (751:Nat))]), #[]⟩ ::
  ⟨(.type "function"), none, (fo (at_ 41) (Str.ofString "world_roots") [] .none .none .none (.str (Str.ofString "snobol.heap") (689:Nat)) none (.ref (398:Nat)) .none (0:Nat)), #[]⟩ ::
  ⟨(.type "tuple"), none, (.seq #[] 0), #[]⟩ :: []
noncomputable def oc176 (P : Params) : List Obj :=
  ⟨.none, none, (.fields #[]), #[]⟩ ::
  ⟨.none, none, (fo0 (at_ 42) (Str.ofString "collect") [] .none .none .none .none none .none .none (0:Nat)), #[]⟩ :: []
noncomputable def oc177 (P : Params) : List Obj :=
  ⟨(.type "code"), none, (.fields #[(.str (Str.ofString "collect") (753:Nat)), (.str (Str.ofString "collect") (754:Nat)), (.str (Str.ofString "/claim/cut.py") (755:Nat)), (.int 247 (0:Nat)), (.int 2 (0:Nat)), (.int 0 (0:Nat)), (.int 0 (0:Nat)), (.int 3 (0:Nat)), (.ref (400:Nat)), (.bool true), (.int 181 (0:Nat)), (.ref (401:Nat)), .none, .none, .none, (.ref (402:Nat)), (.int 756 (0:Nat)), (.int 247 (0:Nat)), (.str (Str.ofString "/claim/cut.py") (757:Nat))]), #[]⟩ ::
  ⟨(.type "function"), none, (fo (at_ 42) (Str.ofString "collect") [] .none .none .none (.str (Str.ofString "snobol.heap") (689:Nat)) none (.ref (403:Nat)) .none (0:Nat)), #[]⟩ ::
  ⟨(.type "tuple"), none, (.seq #[] 0), #[]⟩ :: []
noncomputable def oc178 (P : Params) : List Obj :=
  ⟨.none, none, (.fields #[]), #[]⟩ :: []
noncomputable def oc179 (P : Params) : List Obj :=
  ⟨(.type "tuple"), none, (.seq #[] 0), #[]⟩ ::
  ⟨(.type "tuple"), none, (.seq #[] 0), #[]⟩ :: []
noncomputable def oc180 (P : Params) : List Obj :=
  ⟨.none, none, (fo0 (at_ 44) (Str.ofString "open_keywords") [] .none .none .none .none none .none .none (0:Nat)), #[]⟩ :: []
noncomputable def oc181 (P : Params) : List Obj :=
  ⟨(.type "code"), none, (.fields #[(.str (Str.ofString "open_keywords") (761:Nat)), (.str (Str.ofString "open_keywords") (762:Nat)), (.str (Str.ofString "/claim/cut.py") (763:Nat)), (.int 255 (0:Nat)), (.int 0 (0:Nat)), (.int 0 (0:Nat)), (.int 0 (0:Nat)), (.int 3 (0:Nat)), (.ref (405:Nat)), (.bool true), (.int 181 (0:Nat)), (.ref (406:Nat)), .none, (.ref (407:Nat)), (.ref (408:Nat)), (.ref (409:Nat)), (.int 764 (0:Nat)), (.int 255 (0:Nat)), (.str (Str.ofString "/claim/cut.py") (765:Nat))]), #[]⟩ ::
  ⟨(.type "function"), none, (fo (at_ 44) (Str.ofString "open_keywords") [] .none .none .none (.str (Str.ofString "snobol.keywords") (759:Nat)) none (.ref (410:Nat)) .none (0:Nat)), #[]⟩ ::
  ⟨(.type "tuple"), none, (.seq #[] 0), #[]⟩ :: []
noncomputable def oc182 (P : Params) : List Obj :=
  ⟨.none, none, (.fields #[]), #[]⟩ :: []
noncomputable def oc183 (P : Params) : List Obj :=
  ⟨(.type "tuple"), none, (.seq #[] 0), #[]⟩ ::
  ⟨(.type "tuple"), none, (.seq #[] 0), #[]⟩ :: []
noncomputable def oc184 (P : Params) : List Obj :=
  ⟨.none, none, (fo0 (at_ 45) (Str.ofString "told_keywords") [] .none .none .none .none none .none .none (0:Nat)), #[]⟩ :: []
noncomputable def oc185 (P : Params) : List Obj :=
  ⟨(.type "code"), none, (.fields #[(.str (Str.ofString "told_keywords") (767:Nat)), (.str (Str.ofString "told_keywords") (768:Nat)), (.str (Str.ofString "/claim/cut.py") (769:Nat)), (.int 257 (0:Nat)), (.int 0 (0:Nat)), (.int 0 (0:Nat)), (.int 0 (0:Nat)), (.int 3 (0:Nat)), (.ref (412:Nat)), (.bool true), (.int 181 (0:Nat)), (.ref (413:Nat)), .none, (.ref (414:Nat)), (.ref (415:Nat)), (.ref (416:Nat)), (.int 770 (0:Nat)), (.int 257 (0:Nat)), (.str (Str.ofString "/claim/cut.py") (771:Nat))]), #[]⟩ ::
  ⟨(.type "function"), none, (fo (at_ 45) (Str.ofString "told_keywords") [] .none .none .none (.str (Str.ofString "snobol.keywords") (759:Nat)) none (.ref (417:Nat)) .none (0:Nat)), #[]⟩ ::
  ⟨(.type "tuple"), none, (.seq #[] 0), #[]⟩ :: []
noncomputable def oc186 (P : Params) : List Obj :=
  ⟨.none, none, (.fields #[]), #[]⟩ :: []
noncomputable def oc187 (P : Params) : List Obj :=
  ⟨(.type "tuple"), none, (.seq #[] 0), #[]⟩ ::
  ⟨(.type "tuple"), none, (.seq #[] 0), #[]⟩ :: []
noncomputable def oc188 (P : Params) : List Obj :=
  ⟨.none, none, (fo0 (at_ 46) (Str.ofString "pattern_keywords") [] .none .none .none .none none .none .none (0:Nat)), #[]⟩ :: []
noncomputable def oc189 (P : Params) : List Obj :=
  ⟨(.type "code"), none, (.fields #[(.str (Str.ofString "pattern_keywords") (773:Nat)), (.str (Str.ofString "pattern_keywords") (774:Nat)), (.str (Str.ofString "/claim/cut.py") (775:Nat)), (.int 259 (0:Nat)), (.int 0 (0:Nat)), (.int 0 (0:Nat)), (.int 0 (0:Nat)), (.int 3 (0:Nat)), (.ref (419:Nat)), (.bool true), (.int 181 (0:Nat)), (.ref (420:Nat)), .none, (.ref (421:Nat)), (.ref (422:Nat)), (.ref (423:Nat)), (.int 776 (0:Nat)), (.int 259 (0:Nat)), (.str (Str.ofString "/claim/cut.py") (777:Nat))]), #[]⟩ ::
  ⟨(.type "function"), none, (fo (at_ 46) (Str.ofString "pattern_keywords") [] .none .none .none (.str (Str.ofString "snobol.keywords") (759:Nat)) none (.ref (424:Nat)) .none (0:Nat)), #[]⟩ ::
  ⟨(.type "tuple"), none, (.seq #[] 0), #[]⟩ :: []
noncomputable def oc190 (P : Params) : List Obj :=
  ⟨.none, none, (.fields #[]), #[]⟩ ::
  ⟨.none, none, (fo0 (at_ 47) (Str.ofString "alphabet") [] .none .none .none .none none .none .none (0:Nat)), #[]⟩ :: []
noncomputable def oc191 (P : Params) : List Obj :=
  ⟨(.type "code"), none, (.fields #[(.str (Str.ofString "alphabet") (779:Nat)), (.str (Str.ofString "alphabet") (780:Nat)), (.str (Str.ofString "/claim/cut.py") (781:Nat)), (.int 261 (0:Nat)), (.int 0 (0:Nat)), (.int 0 (0:Nat)), (.int 0 (0:Nat)), (.int 3 (0:Nat)), (.ref (426:Nat)), (.bool true), (.int 181 (0:Nat)), (.ref (427:Nat)), .none, .none, .none, (.ref (428:Nat)), (.int 782 (0:Nat)), (.int 261 (0:Nat)), (.str (Str.ofString "/claim/cut.py") (783:Nat))]), #[]⟩ ::
  ⟨(.type "function"), none, (fu 47 (Str.ofString "alphabet") [] .none .none .none (.str (Str.ofString "snobol.keywords") (759:Nat)) none (.ref (429:Nat)) .none (0:Nat)), #[]⟩ ::
  ⟨(.type "tuple"), none, (.seq #[] 0), #[]⟩ :: []
noncomputable def oc192 (P : Params) : List Obj :=
  ⟨.none, none, (.fields #[]), #[]⟩ :: []
noncomputable def oc193 (P : Params) : List Obj :=
  ⟨(.type "tuple"), none, (.seq #[(.str (Str.ofString "name") (788:Nat))] 0), #[]⟩ ::
  ⟨(.type "tuple"), none, (.seq #[] 0), #[]⟩ :: []
noncomputable def oc194 (P : Params) : List Obj :=
  ⟨.none, none, (fo0 (at_ 48) (Str.ofString "is_keyword") [] .none .none .none .none none .none .none (0:Nat)), #[]⟩ :: []
noncomputable def oc195 (P : Params) : List Obj :=
  ⟨(.type "code"), none, (.fields #[(.str (Str.ofString "is_keyword") (785:Nat)), (.str (Str.ofString "is_keyword") (786:Nat)), (.str (Str.ofString "/claim/cut.py") (787:Nat)), (.int 263 (0:Nat)), (.int 1 (0:Nat)), (.int 0 (0:Nat)), (.int 0 (0:Nat)), (.int 3 (0:Nat)), (.ref (431:Nat)), (.bool true), (.int 181 (0:Nat)), (.ref (432:Nat)), .none, (.ref (433:Nat)), (.ref (434:Nat)), (.ref (435:Nat)), (.int 789 (0:Nat)), (.int 263 (0:Nat)), (.str (Str.ofString "/claim/cut.py") (790:Nat))]), #[]⟩ ::
  ⟨(.type "function"), none, (fu 48 (Str.ofString "is_keyword") [] .none .none .none (.str (Str.ofString "snobol.keywords") (759:Nat)) none (.ref (436:Nat)) .none (0:Nat)), #[]⟩ ::
  ⟨(.type "tuple"), none, (.seq #[] 0), #[]⟩ :: []
noncomputable def oc196 (P : Params) : List Obj :=
  ⟨.none, none, (.fields #[]), #[]⟩ :: []
noncomputable def oc197 (P : Params) : List Obj :=
  ⟨(.type "tuple"), none, (.seq #[(.str (Str.ofString "name") (795:Nat))] 0), #[]⟩ ::
  ⟨(.type "tuple"), none, (.seq #[] 0), #[]⟩ :: []
noncomputable def oc198 (P : Params) : List Obj :=
  ⟨.none, none, (fo0 (at_ 49) (Str.ofString "is_protected") [] .none .none .none .none none .none .none (0:Nat)), #[]⟩ :: []
noncomputable def oc199 (P : Params) : List Obj :=
  ⟨(.type "code"), none, (.fields #[(.str (Str.ofString "is_protected") (792:Nat)), (.str (Str.ofString "is_protected") (793:Nat)), (.str (Str.ofString "/claim/cut.py") (794:Nat)), (.int 265 (0:Nat)), (.int 1 (0:Nat)), (.int 0 (0:Nat)), (.int 0 (0:Nat)), (.int 3 (0:Nat)), (.ref (438:Nat)), (.bool true), (.int 181 (0:Nat)), (.ref (439:Nat)), .none, (.ref (440:Nat)), (.ref (441:Nat)), (.ref (442:Nat)), (.int 796 (0:Nat)), (.int 265 (0:Nat)), (.str (Str.ofString "/claim/cut.py") (797:Nat))]), #[]⟩ ::
  ⟨(.type "function"), none, (fu 49 (Str.ofString "is_protected") [] .none .none .none (.str (Str.ofString "snobol.keywords") (759:Nat)) none (.ref (443:Nat)) .none (0:Nat)), #[]⟩ ::
  ⟨(.type "tuple"), none, (.seq #[] 0), #[]⟩ :: []
noncomputable def oc200 (P : Params) : List Obj :=
  ⟨.none, none, (.fields #[]), #[]⟩ :: []
noncomputable def oc201 (P : Params) : List Obj :=
  ⟨(.type "tuple"), none, (.seq #[(.str (Str.ofString "world") (802:Nat)), (.str (Str.ofString "name") (803:Nat))] 0), #[]⟩ ::
  ⟨(.type "tuple"), none, (.seq #[] 0), #[]⟩ :: []
noncomputable def oc202 (P : Params) : List Obj :=
  ⟨.none, none, (fo0 (at_ 50) (Str.ofString "keyword_get") [] .none .none .none .none none .none .none (0:Nat)), #[]⟩ :: []
noncomputable def oc203 (P : Params) : List Obj :=
  ⟨(.type "code"), none, (.fields #[(.str (Str.ofString "keyword_get") (799:Nat)), (.str (Str.ofString "keyword_get") (800:Nat)), (.str (Str.ofString "/claim/cut.py") (801:Nat)), (.int 267 (0:Nat)), (.int 2 (0:Nat)), (.int 0 (0:Nat)), (.int 0 (0:Nat)), (.int 3 (0:Nat)), (.ref (445:Nat)), (.bool true), (.int 181 (0:Nat)), (.ref (446:Nat)), .none, (.ref (447:Nat)), (.ref (448:Nat)), (.ref (449:Nat)), (.int 804 (0:Nat)), (.int 267 (0:Nat)), (.str (Str.ofString "/claim/cut.py") (805:Nat))]), #[]⟩ ::
  ⟨(.type "function"), none, (fu 50 (Str.ofString "keyword_get") [] .none .none .none (.str (Str.ofString "snobol.keywords") (759:Nat)) none (.ref (450:Nat)) .none (0:Nat)), #[]⟩ ::
  ⟨(.type "tuple"), none, (.seq #[] 0), #[]⟩ :: []
noncomputable def oc204 (P : Params) : List Obj :=
  ⟨.none, none, (.fields #[]), #[]⟩ :: []
noncomputable def oc205 (P : Params) : List Obj :=
  ⟨(.type "tuple"), none, (.seq #[(.str (Str.ofString "world") (810:Nat)), (.str (Str.ofString "name") (811:Nat)), (.str (Str.ofString "value") (812:Nat))] 0), #[]⟩ ::
  ⟨(.type "tuple"), none, (.seq #[] 0), #[]⟩ :: []
noncomputable def oc206 (P : Params) : List Obj :=
  ⟨.none, none, (fo0 (at_ 51) (Str.ofString "keyword_set") [] .none .none .none .none none .none .none (0:Nat)), #[]⟩ :: []
noncomputable def oc207 (P : Params) : List Obj :=
  ⟨(.type "code"), none, (.fields #[(.str (Str.ofString "keyword_set") (807:Nat)), (.str (Str.ofString "keyword_set") (808:Nat)), (.str (Str.ofString "/claim/cut.py") (809:Nat)), (.int 277 (0:Nat)), (.int 3 (0:Nat)), (.int 0 (0:Nat)), (.int 0 (0:Nat)), (.int 3 (0:Nat)), (.ref (452:Nat)), (.bool true), (.int 181 (0:Nat)), (.ref (453:Nat)), .none, (.ref (454:Nat)), (.ref (455:Nat)), (.ref (456:Nat)), (.int 813 (0:Nat)), (.int 277 (0:Nat)), (.str (Str.ofString "/claim/cut.py") (814:Nat))]), #[]⟩ ::
  ⟨(.type "function"), none, (fu 51 (Str.ofString "keyword_set") [] .none .none .none (.str (Str.ofString "snobol.keywords") (759:Nat)) none (.ref (457:Nat)) .none (0:Nat)), #[]⟩ ::
  ⟨(.type "tuple"), none, (.seq #[] 0), #[]⟩ :: []
noncomputable def oc208 (P : Params) : List Obj :=
  ⟨.none, none, (.fields #[]), #[]⟩ :: []
noncomputable def oc209 (P : Params) : List Obj :=
  ⟨(.type "tuple"), none, (.seq #[(.str (Str.ofString "world") (821:Nat)), (.str (Str.ofString "ref") (822:Nat))] 0), #[]⟩ ::
  ⟨(.type "tuple"), none, (.seq #[] 0), #[]⟩ :: []
noncomputable def oc210 (P : Params) : List Obj :=
  ⟨.none, none, (fo0 (at_ 53) (Str.ofString "ref_get") [] .none .none .none .none none .none .none (0:Nat)), #[]⟩ :: []
noncomputable def oc211 (P : Params) : List Obj :=
  ⟨(.type "code"), none, (.fields #[(.str (Str.ofString "ref_get") (818:Nat)), (.str (Str.ofString "ref_get") (819:Nat)), (.str (Str.ofString "/claim/cut.py") (820:Nat)), (.int 286 (0:Nat)), (.int 2 (0:Nat)), (.int 0 (0:Nat)), (.int 0 (0:Nat)), (.int 3 (0:Nat)), (.ref (459:Nat)), (.bool true), (.int 181 (0:Nat)), (.ref (460:Nat)), .none, (.ref (461:Nat)), (.ref (462:Nat)), (.ref (463:Nat)), (.int 823 (0:Nat)), (.int 286 (0:Nat)), (.str (Str.ofString "/claim/cut.py") (824:Nat))]), #[]⟩ ::
  ⟨(.type "function"), none, (fu 53 (Str.ofString "ref_get") [] .none .none .none (.str (Str.ofString "snobol.refs") (816:Nat)) none (.ref (464:Nat)) .none (0:Nat)), #[]⟩ ::
  ⟨(.type "tuple"), none, (.seq #[] 0), #[]⟩ :: []
noncomputable def oc212 (P : Params) : List Obj :=
  ⟨.none, none, (.fields #[]), #[]⟩ :: []
noncomputable def oc213 (P : Params) : List Obj :=
  ⟨(.type "tuple"), none, (.seq #[(.str (Str.ofString "world") (829:Nat)), (.str (Str.ofString "ref") (830:Nat)), (.str (Str.ofString "value") (831:Nat))] 0), #[]⟩ ::
  ⟨(.type "tuple"), none, (.seq #[] 0), #[]⟩ :: []
noncomputable def oc214 (P : Params) : List Obj :=
  ⟨.none, none, (fo0 (at_ 54) (Str.ofString "ref_set") [] .none .none .none .none none .none .none (0:Nat)), #[]⟩ :: []
noncomputable def oc215 (P : Params) : List Obj :=
  ⟨(.type "code"), none, (.fields #[(.str (Str.ofString "ref_set") (826:Nat)), (.str (Str.ofString "ref_set") (827:Nat)), (.str (Str.ofString "/claim/cut.py") (828:Nat)), (.int 292 (0:Nat)), (.int 3 (0:Nat)), (.int 0 (0:Nat)), (.int 0 (0:Nat)), (.int 3 (0:Nat)), (.ref (466:Nat)), (.bool true), (.int 181 (0:Nat)), (.ref (467:Nat)), .none, (.ref (468:Nat)), (.ref (469:Nat)), (.ref (470:Nat)), (.int 832 (0:Nat)), (.int 292 (0:Nat)), (.str (Str.ofString "/claim/cut.py") (833:Nat))]), #[]⟩ ::
  ⟨(.type "function"), none, (fo (at_ 54) (Str.ofString "ref_set") [] .none .none .none (.str (Str.ofString "snobol.refs") (816:Nat)) none (.ref (471:Nat)) .none (0:Nat)), #[]⟩ ::
  ⟨(.type "tuple"), none, (.seq #[] 0), #[]⟩ :: []
noncomputable def oc216 (P : Params) : List Obj :=
  ⟨.none, none, (.fields #[]), #[]⟩ :: []
noncomputable def oc217 (P : Params) : List Obj :=
  ⟨(.type "tuple"), none, (.seq #[(.str (Str.ofString "well") (840:Nat)), (.str (Str.ofString "many") (841:Nat)), (.str (Str.ofString "cells") (842:Nat)), (.str (Str.ofString "turn") (843:Nat))] 0), #[]⟩ ::
  ⟨(.type "tuple"), none, (.seq #[] 0), #[]⟩ :: []
noncomputable def oc218 (P : Params) : List Obj :=
  ⟨.none, none, (fo0 (at_ 56) (Str.ofString "_law_dipped") [] .none .none .none .none none .none .none (0:Nat)), #[]⟩ :: []
noncomputable def oc219 (P : Params) : List Obj :=
  ⟨(.type "code"), none, (.fields #[(.str (Str.ofString "_law_dipped") (837:Nat)), (.str (Str.ofString "_law_dipped") (838:Nat)), (.str (Str.ofString "/claim/cut.py") (839:Nat)), (.int 300 (0:Nat)), (.int 2 (0:Nat)), (.int 0 (0:Nat)), (.int 0 (0:Nat)), (.int 3 (0:Nat)), (.ref (473:Nat)), (.bool true), (.int 181 (0:Nat)), (.ref (474:Nat)), .none, (.ref (475:Nat)), (.ref (476:Nat)), (.ref (477:Nat)), (.int 844 (0:Nat)), (.int 300 (0:Nat)), (.str (Str.ofString "/claim/cut.py") (845:Nat))]), #[]⟩ ::
  ⟨(.type "function"), none, (fo (at_ 56) (Str.ofString "_law_dipped") [] .none .none .none (.str (Str.ofString "law_sa0599_01") (835:Nat)) none (.ref (478:Nat)) .none (0:Nat)), #[]⟩ ::
  ⟨(.type "tuple"), none, (.seq #[] 0), #[]⟩ :: []
noncomputable def oc220 (P : Params) : List Obj :=
  ⟨.none, none, (.fields #[]), #[]⟩ :: []
noncomputable def oc221 (P : Params) : List Obj :=
  ⟨(.type "tuple"), none, (.seq #[(.str (Str.ofString "world") (850:Nat)), (.str (Str.ofString "name") (851:Nat)), (.str (Str.ofString "field") (852:Nat))] 0), #[]⟩ ::
  ⟨(.type "tuple"), none, (.seq #[] 0), #[]⟩ :: []
noncomputable def oc222 (P : Params) : List Obj :=
  ⟨.none, none, (fo0 (at_ 57) (Str.ofString "_law_held") [] .none .none .none .none none .none .none (0:Nat)), #[]⟩ :: []
noncomputable def oc223 (P : Params) : List Obj :=
  ⟨(.type "code"), none, (.fields #[(.str (Str.ofString "_law_held") (847:Nat)), (.str (Str.ofString "_law_held") (848:Nat)), (.str (Str.ofString "/claim/cut.py") (849:Nat)), (.int 304 (0:Nat)), (.int 3 (0:Nat)), (.int 0 (0:Nat)), (.int 0 (0:Nat)), (.int 3 (0:Nat)), (.ref (480:Nat)), (.bool true), (.int 181 (0:Nat)), (.ref (481:Nat)), .none, (.ref (482:Nat)), (.ref (483:Nat)), (.ref (484:Nat)), (.int 853 (0:Nat)), (.int 304 (0:Nat)), (.str (Str.ofString "/claim/cut.py") (854:Nat))]), #[]⟩ ::
  ⟨(.type "function"), none, (fo (at_ 57) (Str.ofString "_law_held") [] .none .none .none (.str (Str.ofString "law_sa0599_01") (835:Nat)) none (.ref (485:Nat)) .none (0:Nat)), #[]⟩ ::
  ⟨(.type "tuple"), none, (.seq #[] 0), #[]⟩ :: []
noncomputable def oc224 (P : Params) : List Obj :=
  ⟨.none, none, (.fields #[]), #[]⟩ :: []
noncomputable def oc225 (P : Params) : List Obj :=
  ⟨(.type "tuple"), none, (.seq #[(.str (Str.ofString "world") (859:Nat)), (.str (Str.ofString "name") (860:Nat)), (.str (Str.ofString "other") (861:Nat))] 0), #[]⟩ ::
  ⟨(.type "tuple"), none, (.seq #[] 0), #[]⟩ :: []
noncomputable def oc226 (P : Params) : List Obj :=
  ⟨.none, none, (fo0 (at_ 58) (Str.ofString "_law_led") [] .none .none .none .none none .none .none (0:Nat)), #[]⟩ :: []
noncomputable def oc227 (P : Params) : List Obj :=
  ⟨(.type "code"), none, (.fields #[(.str (Str.ofString "_law_led") (856:Nat)), (.str (Str.ofString "_law_led") (857:Nat)), (.str (Str.ofString "/claim/cut.py") (858:Nat)), (.int 306 (0:Nat)), (.int 3 (0:Nat)), (.int 0 (0:Nat)), (.int 0 (0:Nat)), (.int 3 (0:Nat)), (.ref (487:Nat)), (.bool true), (.int 181 (0:Nat)), (.ref (488:Nat)), .none, (.ref (489:Nat)), (.ref (490:Nat)), (.ref (491:Nat)), (.int 862 (0:Nat)), (.int 306 (0:Nat)), (.str (Str.ofString "/claim/cut.py") (863:Nat))]), #[]⟩ ::
  ⟨(.type "function"), none, (fo (at_ 58) (Str.ofString "_law_led") [] .none .none .none (.str (Str.ofString "law_sa0599_01") (835:Nat)) none (.ref (492:Nat)) .none (0:Nat)), #[]⟩ ::
  ⟨(.type "tuple"), none, (.seq #[] 0), #[]⟩ :: []
noncomputable def oc228 (P : Params) : List Obj :=
  ⟨.none, none, (.fields #[]), #[]⟩ :: []
noncomputable def oc229 (P : Params) : List Obj :=
  ⟨(.type "tuple"), none, (.seq #[(.str (Str.ofString "world") (868:Nat)), (.str (Str.ofString "name") (869:Nat)), (.str (Str.ofString "here") (870:Nat)), (.str (Str.ofString "found") (871:Nat))] 0), #[]⟩ ::
  ⟨(.type "tuple"), none, (.seq #[] 0), #[]⟩ :: []
noncomputable def oc230 (P : Params) : List Obj :=
  ⟨.none, none, (fo0 (at_ 59) (Str.ofString "_law_row") [] .none .none .none .none none .none .none (0:Nat)), #[]⟩ :: []
noncomputable def oc231 (P : Params) : List Obj :=
  ⟨(.type "code"), none, (.fields #[(.str (Str.ofString "_law_row") (865:Nat)), (.str (Str.ofString "_law_row") (866:Nat)), (.str (Str.ofString "/claim/cut.py") (867:Nat)), (.int 308 (0:Nat)), (.int 2 (0:Nat)), (.int 0 (0:Nat)), (.int 0 (0:Nat)), (.int 3 (0:Nat)), (.ref (494:Nat)), (.bool true), (.int 181 (0:Nat)), (.ref (495:Nat)), .none, (.ref (496:Nat)), (.ref (497:Nat)), (.ref (498:Nat)), (.int 872 (0:Nat)), (.int 308 (0:Nat)), (.str (Str.ofString "/claim/cut.py") (873:Nat))]), #[]⟩ ::
  ⟨(.type "function"), none, (fo (at_ 59) (Str.ofString "_law_row") [] .none .none .none (.str (Str.ofString "law_sa0599_01") (835:Nat)) none (.ref (499:Nat)) .none (0:Nat)), #[]⟩ ::
  ⟨(.type "tuple"), none, (.seq #[] 0), #[]⟩ :: []
noncomputable def oc232 (P : Params) : List Obj :=
  ⟨.none, none, (.fields #[]), #[]⟩ :: []
noncomputable def oc233 (P : Params) : List Obj :=
  ⟨(.type "tuple"), none, (.seq #[(.str (Str.ofString "world") (878:Nat)), (.str (Str.ofString "well") (879:Nat))] 0), #[]⟩ ::
  ⟨(.type "tuple"), none, (.seq #[] 0), #[]⟩ :: []
noncomputable def oc234 (P : Params) : List Obj :=
  ⟨.none, none, (fo0 (at_ 60) (Str.ofString "_law_swept") [] .none .none .none .none none .none .none (0:Nat)), #[]⟩ :: []
noncomputable def oc235 (P : Params) : List Obj :=
  ⟨(.type "code"), none, (.fields #[(.str (Str.ofString "_law_swept") (875:Nat)), (.str (Str.ofString "_law_swept") (876:Nat)), (.str (Str.ofString "/claim/cut.py") (877:Nat)), (.int 314 (0:Nat)), (.int 2 (0:Nat)), (.int 0 (0:Nat)), (.int 0 (0:Nat)), (.int 3 (0:Nat)), (.ref (501:Nat)), (.bool true), (.int 181 (0:Nat)), (.ref (502:Nat)), .none, (.ref (503:Nat)), (.ref (504:Nat)), (.ref (505:Nat)), (.int 880 (0:Nat)), (.int 314 (0:Nat)), (.str (Str.ofString "/claim/cut.py") (881:Nat))]), #[]⟩ ::
  ⟨(.type "function"), none, (fo (at_ 60) (Str.ofString "_law_swept") [] .none .none .none (.str (Str.ofString "law_sa0599_01") (835:Nat)) none (.ref (506:Nat)) .none (0:Nat)), #[]⟩ ::
  ⟨(.type "tuple"), none, (.seq #[] 0), #[]⟩ :: []
noncomputable def oc236 (P : Params) : List Obj :=
  ⟨.none, none, (.fields #[]), #[]⟩ :: []
noncomputable def oc237 (P : Params) : List Obj :=
  ⟨(.type "tuple"), none, (.seq #[(.str (Str.ofString "world") (886:Nat)), (.str (Str.ofString "well") (887:Nat)), (.str (Str.ofString "store") (888:Nat)), (.str (Str.ofString "is_whole") (889:Nat))] 0), #[]⟩ ::
  ⟨(.type "tuple"), none, (.seq #[] 0), #[]⟩ :: []
noncomputable def oc238 (P : Params) : List Obj :=
  ⟨.none, none, (fo0 (at_ 61) (Str.ofString "_law_turned") [] .none .none .none .none none .none .none (0:Nat)), #[]⟩ :: []
noncomputable def oc239 (P : Params) : List Obj :=
  ⟨(.type "code"), none, (.fields #[(.str (Str.ofString "_law_turned") (883:Nat)), (.str (Str.ofString "_law_turned") (884:Nat)), (.str (Str.ofString "/claim/cut.py") (885:Nat)), (.int 316 (0:Nat)), (.int 2 (0:Nat)), (.int 0 (0:Nat)), (.int 0 (0:Nat)), (.int 3 (0:Nat)), (.ref (508:Nat)), (.bool true), (.int 181 (0:Nat)), (.ref (509:Nat)), .none, (.ref (510:Nat)), (.ref (511:Nat)), (.ref (512:Nat)), (.int 890 (0:Nat)), (.int 316 (0:Nat)), (.str (Str.ofString "/claim/cut.py") (891:Nat))]), #[]⟩ ::
  ⟨(.type "function"), none, (fo (at_ 61) (Str.ofString "_law_turned") [] .none .none .none (.str (Str.ofString "law_sa0599_01") (835:Nat)) none (.ref (513:Nat)) .none (0:Nat)), #[]⟩ ::
  ⟨(.type "tuple"), none, (.seq #[] 0), #[]⟩ :: []
noncomputable def oc240 (P : Params) : List Obj :=
  ⟨.none, none, (.fields #[]), #[]⟩ :: []
noncomputable def oc241 (P : Params) : List Obj :=
  ⟨(.type "tuple"), none, (.seq #[(.str (Str.ofString "world") (896:Nat)), (.str (Str.ofString "well") (897:Nat)), (.str (Str.ofString "store") (898:Nat)), (.str (Str.ofString "is_whole") (899:Nat))] 0), #[]⟩ ::
  ⟨(.type "tuple"), none, (.seq #[] 0), #[]⟩ :: []
noncomputable def oc242 (P : Params) : List Obj :=
  ⟨.none, none, (fo0 (at_ 62) (Str.ofString "_law_ranged") [] .none .none .none .none none .none .none (0:Nat)), #[]⟩ :: []
noncomputable def oc243 (P : Params) : List Obj :=
  ⟨(.type "code"), none, (.fields #[(.str (Str.ofString "_law_ranged") (893:Nat)), (.str (Str.ofString "_law_ranged") (894:Nat)), (.str (Str.ofString "/claim/cut.py") (895:Nat)), (.int 326 (0:Nat)), (.int 2 (0:Nat)), (.int 0 (0:Nat)), (.int 0 (0:Nat)), (.int 3 (0:Nat)), (.ref (515:Nat)), (.bool true), (.int 181 (0:Nat)), (.ref (516:Nat)), .none, (.ref (517:Nat)), (.ref (518:Nat)), (.ref (519:Nat)), (.int 900 (0:Nat)), (.int 326 (0:Nat)), (.str (Str.ofString "/claim/cut.py") (901:Nat))]), #[]⟩ ::
  ⟨(.type "function"), none, (fo (at_ 62) (Str.ofString "_law_ranged") [] .none .none .none (.str (Str.ofString "law_sa0599_01") (835:Nat)) none (.ref (520:Nat)) .none (0:Nat)), #[]⟩ ::
  ⟨(.type "tuple"), none, (.seq #[] 0), #[]⟩ :: []
noncomputable def oc244 (P : Params) : List Obj :=
  ⟨.none, none, (.fields #[]), #[]⟩ :: []
noncomputable def oc245 (P : Params) : List Obj :=
  ⟨(.type "tuple"), none, (.seq #[(.str (Str.ofString "world") (906:Nat)), (.str (Str.ofString "error") (907:Nat))] 0), #[]⟩ ::
  ⟨(.type "tuple"), none, (.seq #[] 0), #[]⟩ :: []
noncomputable def oc246 (P : Params) : List Obj :=
  ⟨.none, none, (fo0 (at_ 63) (Str.ofString "_law_lacks") [] .none .none .none .none none .none .none (0:Nat)), #[]⟩ :: []
noncomputable def oc247 (P : Params) : List Obj :=
  ⟨(.type "code"), none, (.fields #[(.str (Str.ofString "_law_lacks") (903:Nat)), (.str (Str.ofString "_law_lacks") (904:Nat)), (.str (Str.ofString "/claim/cut.py") (905:Nat)), (.int 342 (0:Nat)), (.int 1 (0:Nat)), (.int 0 (0:Nat)), (.int 0 (0:Nat)), (.int 3 (0:Nat)), (.ref (522:Nat)), (.bool true), (.int 181 (0:Nat)), (.ref (523:Nat)), .none, (.ref (524:Nat)), (.ref (525:Nat)), (.ref (526:Nat)), (.int 908 (0:Nat)), (.int 342 (0:Nat)), (.str (Str.ofString "/claim/cut.py") (909:Nat))]), #[]⟩ ::
  ⟨(.type "function"), none, (fo (at_ 63) (Str.ofString "_law_lacks") [] .none .none .none (.str (Str.ofString "law_sa0599_01") (835:Nat)) none (.ref (527:Nat)) .none (0:Nat)), #[]⟩ ::
  ⟨(.type "tuple"), none, (.seq #[] 0), #[]⟩ :: []
noncomputable def oc248 (P : Params) : List Obj :=
  ⟨.none, none, (.fields #[]), #[]⟩ ::
  ⟨.none, none, (fo0 (at_ 64) (Str.ofString "law") [] .none .none .none .none none .none .none (0:Nat)), #[]⟩ :: []
noncomputable def oc249 (P : Params) : List Obj :=
  ⟨(.type "code"), none, (.fields #[(.str (Str.ofString "law") (911:Nat)), (.str (Str.ofString "law") (912:Nat)), (.str (Str.ofString "/claim/cut.py") (913:Nat)), (.int 350 (0:Nat)), (.int 1 (0:Nat)), (.int 0 (0:Nat)), (.int 0 (0:Nat)), (.int 3 (0:Nat)), (.ref (529:Nat)), (.bool true), (.int 181 (0:Nat)), (.ref (530:Nat)), .none, .none, .none, (.ref (531:Nat)), (.int 914 (0:Nat)), (.int 350 (0:Nat)), (.str (Str.ofString "/claim/cut.py") (915:Nat))]), #[]⟩ ::
  ⟨(.type "function"), none, (fo (at_ 64) (Str.ofString "law") [] .none .none .none (.str (Str.ofString "law_sa0599_01") (835:Nat)) none (.ref (532:Nat)) .none (0:Nat)), #[]⟩ :: []
noncomputable def OBJS (P : Params) : List Obj := oc0 P ++ (oc1 P ++ (oc2 P ++ (oc3 P ++ (oc4 P ++ (oc5 P ++ (oc6 P ++ (oc7 P ++ (oc8 P ++ (oc9 P ++ (oc10 P ++ (oc11 P ++ (oc12 P ++ (oc13 P ++ (oc14 P ++ (oc15 P ++ (oc16 P ++ (oc17 P ++ (oc18 P ++ (oc19 P ++ (oc20 P ++ (oc21 P ++ (oc22 P ++ (oc23 P ++ (oc24 P ++ (oc25 P ++ (oc26 P ++ (oc27 P ++ (oc28 P ++ (oc29 P ++ (oc30 P ++ (oc31 P ++ (oc32 P ++ (oc33 P ++ (oc34 P ++ (oc35 P ++ (oc36 P ++ (oc37 P ++ (oc38 P ++ (oc39 P ++ (oc40 P ++ (oc41 P ++ (oc42 P ++ (oc43 P ++ (oc44 P ++ (oc45 P ++ (oc46 P ++ (oc47 P ++ (oc48 P ++ (oc49 P ++ (oc50 P ++ (oc51 P ++ (oc52 P ++ (oc53 P ++ (oc54 P ++ (oc55 P ++ (oc56 P ++ (oc57 P ++ (oc58 P ++ (oc59 P ++ (oc60 P ++ (oc61 P ++ (oc62 P ++ (oc63 P ++ (oc64 P ++ (oc65 P ++ (oc66 P ++ (oc67 P ++ (oc68 P ++ (oc69 P ++ (oc70 P ++ (oc71 P ++ (oc72 P ++ (oc73 P ++ (oc74 P ++ (oc75 P ++ (oc76 P ++ (oc77 P ++ (oc78 P ++ (oc79 P ++ (oc80 P ++ (oc81 P ++ (oc82 P ++ (oc83 P ++ (oc84 P ++ (oc85 P ++ (oc86 P ++ (oc87 P ++ (oc88 P ++ (oc89 P ++ (oc90 P ++ (oc91 P ++ (oc92 P ++ (oc93 P ++ (oc94 P ++ (oc95 P ++ (oc96 P ++ (oc97 P ++ (oc98 P ++ (oc99 P ++ (oc100 P ++ (oc101 P ++ (oc102 P ++ (oc103 P ++ (oc104 P ++ (oc105 P ++ (oc106 P ++ (oc107 P ++ (oc108 P ++ (oc109 P ++ (oc110 P ++ (oc111 P ++ (oc112 P ++ (oc113 P ++ (oc114 P ++ (oc115 P ++ (oc116 P ++ (oc117 P ++ (oc118 P ++ (oc119 P ++ (oc120 P ++ (oc121 P ++ (oc122 P ++ (oc123 P ++ (oc124 P ++ (oc125 P ++ (oc126 P ++ (oc127 P ++ (oc128 P ++ (oc129 P ++ (oc130 P ++ (oc131 P ++ (oc132 P ++ (oc133 P ++ (oc134 P ++ (oc135 P ++ (oc136 P ++ (oc137 P ++ (oc138 P ++ (oc139 P ++ (oc140 P ++ (oc141 P ++ (oc142 P ++ (oc143 P ++ (oc144 P ++ (oc145 P ++ (oc146 P ++ (oc147 P ++ (oc148 P ++ (oc149 P ++ (oc150 P ++ (oc151 P ++ (oc152 P ++ (oc153 P ++ (oc154 P ++ (oc155 P ++ (oc156 P ++ (oc157 P ++ (oc158 P ++ (oc159 P ++ (oc160 P ++ (oc161 P ++ (oc162 P ++ (oc163 P ++ (oc164 P ++ (oc165 P ++ (oc166 P ++ (oc167 P ++ (oc168 P ++ (oc169 P ++ (oc170 P ++ (oc171 P ++ (oc172 P ++ (oc173 P ++ (oc174 P ++ (oc175 P ++ (oc176 P ++ (oc177 P ++ (oc178 P ++ (oc179 P ++ (oc180 P ++ (oc181 P ++ (oc182 P ++ (oc183 P ++ (oc184 P ++ (oc185 P ++ (oc186 P ++ (oc187 P ++ (oc188 P ++ (oc189 P ++ (oc190 P ++ (oc191 P ++ (oc192 P ++ (oc193 P ++ (oc194 P ++ (oc195 P ++ (oc196 P ++ (oc197 P ++ (oc198 P ++ (oc199 P ++ (oc200 P ++ (oc201 P ++ (oc202 P ++ (oc203 P ++ (oc204 P ++ (oc205 P ++ (oc206 P ++ (oc207 P ++ (oc208 P ++ (oc209 P ++ (oc210 P ++ (oc211 P ++ (oc212 P ++ (oc213 P ++ (oc214 P ++ (oc215 P ++ (oc216 P ++ (oc217 P ++ (oc218 P ++ (oc219 P ++ (oc220 P ++ (oc221 P ++ (oc222 P ++ (oc223 P ++ (oc224 P ++ (oc225 P ++ (oc226 P ++ (oc227 P ++ (oc228 P ++ (oc229 P ++ (oc230 P ++ (oc231 P ++ (oc232 P ++ (oc233 P ++ (oc234 P ++ (oc235 P ++ (oc236 P ++ (oc237 P ++ (oc238 P ++ (oc239 P ++ (oc240 P ++ (oc241 P ++ (oc242 P ++ (oc243 P ++ (oc244 P ++ (oc245 P ++ (oc246 P ++ (oc247 P ++ (oc248 P ++ (oc249 P)))))))))))))))))))))))))))))))))))))))))))))))))))))))))))))))))))))))))))))))))))))))))))))))))))))))))))))))))))))))))))))))))))))))))))))))))))))))))))))))))))))))))))))))))))))))))))))))))))))))))))))))))))))))))))))))))))))))))))))))))))))))))
noncomputable def K0 (P : Params) : List Obj := oc1 P ++ (oc3 P ++ (oc5 P ++ (oc7 P ++ (oc9 P ++ (oc11 P ++ (oc13 P ++ (oc15 P ++ (oc17 P ++ (oc19 P ++ (oc21 P ++ (oc23 P ++ (oc25 P ++ (oc27 P ++ (oc29 P ++ (oc31 P ++ (oc33 P ++ (oc35 P ++ (oc37 P ++ (oc39 P ++ (oc41 P ++ (oc43 P ++ (oc45 P ++ (oc47 P ++ (oc49 P ++ (oc51 P ++ (oc53 P ++ (oc55 P ++ (oc57 P ++ (oc59 P ++ (oc61 P ++ (oc63 P ++ (oc65 P ++ (oc67 P ++ (oc69 P ++ (oc71 P ++ (oc73 P ++ (oc75 P ++ (oc77 P ++ (oc79 P ++ (oc81 P ++ (oc83 P ++ (oc85 P ++ (oc87 P ++ (oc89 P ++ (oc91 P ++ (oc93 P ++ (oc95 P ++ (oc97 P ++ (oc99 P ++ (oc101 P ++ (oc103 P ++ (oc105 P ++ (oc107 P ++ (oc109 P ++ (oc111 P ++ (oc113 P ++ (oc115 P ++ (oc117 P ++ (oc119 P ++ (oc121 P ++ (oc123 P ++ (oc125 P ++ (oc127 P ++ (oc129 P ++ (oc131 P ++ (oc133 P ++ (oc135 P ++ (oc137 P ++ (oc139 P ++ (oc141 P ++ (oc143 P ++ (oc145 P ++ (oc147 P ++ (oc149 P ++ (oc151 P ++ (oc153 P ++ (oc155 P ++ (oc157 P ++ (oc159 P ++ (oc161 P ++ (oc163 P ++ (oc165 P ++ (oc167 P ++ (oc169 P ++ (oc171 P ++ (oc173 P ++ (oc175 P ++ (oc177 P ++ (oc179 P ++ (oc181 P ++ (oc183 P ++ (oc185 P ++ (oc187 P ++ (oc189 P ++ (oc191 P ++ (oc193 P ++ (oc195 P ++ (oc197 P ++ (oc199 P ++ (oc201 P ++ (oc203 P ++ (oc205 P ++ (oc207 P ++ (oc209 P ++ (oc211 P ++ (oc213 P ++ (oc215 P ++ (oc217 P ++ (oc219 P ++ (oc221 P ++ (oc223 P ++ (oc225 P ++ (oc227 P ++ (oc229 P ++ (oc231 P ++ (oc233 P ++ (oc235 P ++ (oc237 P ++ (oc239 P ++ (oc241 P ++ (oc243 P ++ (oc245 P ++ (oc247 P ++ (oc249 P))))))))))))))))))))))))))))))))))))))))))))))))))))))))))))))))))))))))))))))))))))))))))))))))))))))))))))))))))))))))))))
noncomputable def KK : Params → Frag := fun P => (fun {b2 b3 b15 b18 b23 b24 b25 b27 b28 b30 b31 b32 b33 b34 b35 b45 b47 b48 b50 b51 b52 b53 b54 b55
  b56 b66 b68 b69 b71 b72 b73 b74 b75 b76 b77 b87 b89 b90 b92 b93 b94 b95 b96 b97 b98 b108 b110 b111
  b113 b114 b115 b116 b117 b118 b119 b129 b131 b132 b134 b135 b136 b137 b138 b139 b140 b143 b145 b146 b148 b149 b150 b152
  b153 b155 b156 b157 b159 b160 b162 b163 b164 b166 b167 b169 b170 b171 b173 b174 b176 b177 b178 b180 b181 b183 b184 b185
  b187 b188 b190 b191 b192 b194 b195 b197 b198 b199 b201 b202 b204 b205 b206 b213 b215 b216 b218 b219 b220 b221 b222 b225
  b232 b234 b235 b237 b238 b239 b240 b241 b244 b251 b253 b254 b256 b257 b258 b259 b260 b263 b265 b266 b268 b269 b270 b272
  b273 b275 b276 b277 b279 b280 b282 b283 b284 b286 b287 b289 b290 b291 b293 b294 b296 b297 b298 b300 b301 b303 b304 b305
  b307 b308 b310 b311 b319 b320 b322 b323 b325 b326 b327 b328 b329 b330 b331 b334 b336 b337 b339 b340 b341 b343 b344 b346
  b347 b348 b350 b351 b353 b354 b355 b357 b358 b360 b361 b362 b364 b365 b367 b368 b369 b371 b372 b374 b375 b376 b378 b379
  b381 b382 b383 b386 b387 b388 b390 b391 b393 b394 b395 b398 b399 b400 b403 b404 b405 b407 b408 b410 b411 b412 b414 b415
  b417 b418 b419 b421 b422 b424 b425 b426 b429 b430 b431 b433 b434 b436 b437 b438 b440 b441 b443 b444 b445 b447 b448 b450
  b451 b452 b454 b455 b457 b458 b459 b461 b462 b464 b465 b466 b468 b469 b471 b472 b473 b475 b476 b478 b479 b480 b482 b483
  b485 b486 b487 b489 b490 b492 b493 b494 b496 b497 b499 b500 b501 b503 b504 b506 b507 b508 b510 b511 b513 b514 b515 b517
  b518 b520 b521 b522 b524 b525 b527 b528 b529 b532 b533 : Obj} (_ : K0 P =
  b2 :: b3 :: b15 :: b18 :: b23 :: b24 :: b25 :: b27 :: b28 :: b30 :: b31 :: b32 :: b33 :: b34 :: b35 :: b45 :: b47 :: b48 :: b50 :: b51 :: b52 :: b53 :: b54 :: b55 ::
  b56 :: b66 :: b68 :: b69 :: b71 :: b72 :: b73 :: b74 :: b75 :: b76 :: b77 :: b87 :: b89 :: b90 :: b92 :: b93 :: b94 :: b95 :: b96 :: b97 :: b98 :: b108 :: b110 :: b111 ::
  b113 :: b114 :: b115 :: b116 :: b117 :: b118 :: b119 :: b129 :: b131 :: b132 :: b134 :: b135 :: b136 :: b137 :: b138 :: b139 :: b140 :: b143 :: b145 :: b146 :: b148 :: b149 :: b150 :: b152 ::
  b153 :: b155 :: b156 :: b157 :: b159 :: b160 :: b162 :: b163 :: b164 :: b166 :: b167 :: b169 :: b170 :: b171 :: b173 :: b174 :: b176 :: b177 :: b178 :: b180 :: b181 :: b183 :: b184 :: b185 ::
  b187 :: b188 :: b190 :: b191 :: b192 :: b194 :: b195 :: b197 :: b198 :: b199 :: b201 :: b202 :: b204 :: b205 :: b206 :: b213 :: b215 :: b216 :: b218 :: b219 :: b220 :: b221 :: b222 :: b225 ::
  b232 :: b234 :: b235 :: b237 :: b238 :: b239 :: b240 :: b241 :: b244 :: b251 :: b253 :: b254 :: b256 :: b257 :: b258 :: b259 :: b260 :: b263 :: b265 :: b266 :: b268 :: b269 :: b270 :: b272 ::
  b273 :: b275 :: b276 :: b277 :: b279 :: b280 :: b282 :: b283 :: b284 :: b286 :: b287 :: b289 :: b290 :: b291 :: b293 :: b294 :: b296 :: b297 :: b298 :: b300 :: b301 :: b303 :: b304 :: b305 ::
  b307 :: b308 :: b310 :: b311 :: b319 :: b320 :: b322 :: b323 :: b325 :: b326 :: b327 :: b328 :: b329 :: b330 :: b331 :: b334 :: b336 :: b337 :: b339 :: b340 :: b341 :: b343 :: b344 :: b346 ::
  b347 :: b348 :: b350 :: b351 :: b353 :: b354 :: b355 :: b357 :: b358 :: b360 :: b361 :: b362 :: b364 :: b365 :: b367 :: b368 :: b369 :: b371 :: b372 :: b374 :: b375 :: b376 :: b378 :: b379 ::
  b381 :: b382 :: b383 :: b386 :: b387 :: b388 :: b390 :: b391 :: b393 :: b394 :: b395 :: b398 :: b399 :: b400 :: b403 :: b404 :: b405 :: b407 :: b408 :: b410 :: b411 :: b412 :: b414 :: b415 ::
  b417 :: b418 :: b419 :: b421 :: b422 :: b424 :: b425 :: b426 :: b429 :: b430 :: b431 :: b433 :: b434 :: b436 :: b437 :: b438 :: b440 :: b441 :: b443 :: b444 :: b445 :: b447 :: b448 :: b450 ::
  b451 :: b452 :: b454 :: b455 :: b457 :: b458 :: b459 :: b461 :: b462 :: b464 :: b465 :: b466 :: b468 :: b469 :: b471 :: b472 :: b473 :: b475 :: b476 :: b478 :: b479 :: b480 :: b482 :: b483 ::
  b485 :: b486 :: b487 :: b489 :: b490 :: b492 :: b493 :: b494 :: b496 :: b497 :: b499 :: b500 :: b501 :: b503 :: b504 :: b506 :: b507 :: b508 :: b510 :: b511 :: b513 :: b514 :: b515 :: b517 ::
  b518 :: b520 :: b521 :: b522 :: b524 :: b525 :: b527 :: b528 :: b529 :: b532 :: b533 :: []) => (((nat_lit 2, b2) :: (nat_lit 3, b3) :: (nat_lit 15, b15) :: (nat_lit 18, b18) :: (nat_lit 23, b23) :: (nat_lit 24, b24) :: (nat_lit 25, b25) :: (nat_lit 27, b27) :: (nat_lit 28, b28) :: (nat_lit 30, b30) :: (nat_lit 31, b31) :: (nat_lit 32, b32) ::
  (nat_lit 33, b33) :: (nat_lit 34, b34) :: (nat_lit 35, b35) :: (nat_lit 45, b45) :: (nat_lit 47, b47) :: (nat_lit 48, b48) :: (nat_lit 50, b50) :: (nat_lit 51, b51) :: (nat_lit 52, b52) :: (nat_lit 53, b53) :: (nat_lit 54, b54) :: (nat_lit 55, b55) ::
  (nat_lit 56, b56) :: (nat_lit 66, b66) :: (nat_lit 68, b68) :: (nat_lit 69, b69) :: (nat_lit 71, b71) :: (nat_lit 72, b72) :: (nat_lit 73, b73) :: (nat_lit 74, b74) :: (nat_lit 75, b75) :: (nat_lit 76, b76) :: (nat_lit 77, b77) :: (nat_lit 87, b87) ::
  (nat_lit 89, b89) :: (nat_lit 90, b90) :: (nat_lit 92, b92) :: (nat_lit 93, b93) :: (nat_lit 94, b94) :: (nat_lit 95, b95) :: (nat_lit 96, b96) :: (nat_lit 97, b97) :: (nat_lit 98, b98) :: (nat_lit 108, b108) :: (nat_lit 110, b110) :: (nat_lit 111, b111) ::
  (nat_lit 113, b113) :: (nat_lit 114, b114) :: (nat_lit 115, b115) :: (nat_lit 116, b116) :: (nat_lit 117, b117) :: (nat_lit 118, b118) :: (nat_lit 119, b119) :: (nat_lit 129, b129) :: (nat_lit 131, b131) :: (nat_lit 132, b132) :: (nat_lit 134, b134) :: (nat_lit 135, b135) ::
  (nat_lit 136, b136) :: (nat_lit 137, b137) :: (nat_lit 138, b138) :: (nat_lit 139, b139) :: (nat_lit 140, b140) :: (nat_lit 143, b143) :: (nat_lit 145, b145) :: (nat_lit 146, b146) :: (nat_lit 148, b148) :: (nat_lit 149, b149) :: (nat_lit 150, b150) :: (nat_lit 152, b152) ::
  (nat_lit 153, b153) :: (nat_lit 155, b155) :: (nat_lit 156, b156) :: (nat_lit 157, b157) :: (nat_lit 159, b159) :: (nat_lit 160, b160) :: (nat_lit 162, b162) :: (nat_lit 163, b163) :: (nat_lit 164, b164) :: (nat_lit 166, b166) :: (nat_lit 167, b167) :: (nat_lit 169, b169) ::
  (nat_lit 170, b170) :: (nat_lit 171, b171) :: (nat_lit 173, b173) :: (nat_lit 174, b174) :: (nat_lit 176, b176) :: (nat_lit 177, b177) :: (nat_lit 178, b178) :: (nat_lit 180, b180) :: (nat_lit 181, b181) :: (nat_lit 183, b183) :: (nat_lit 184, b184) :: (nat_lit 185, b185) ::
  (nat_lit 187, b187) :: (nat_lit 188, b188) :: (nat_lit 190, b190) :: (nat_lit 191, b191) :: (nat_lit 192, b192) :: (nat_lit 194, b194) :: (nat_lit 195, b195) :: (nat_lit 197, b197) :: (nat_lit 198, b198) :: (nat_lit 199, b199) :: (nat_lit 201, b201) :: (nat_lit 202, b202) ::
  (nat_lit 204, b204) :: (nat_lit 205, b205) :: (nat_lit 206, b206) :: (nat_lit 213, b213) :: (nat_lit 215, b215) :: (nat_lit 216, b216) :: (nat_lit 218, b218) :: (nat_lit 219, b219) :: (nat_lit 220, b220) :: (nat_lit 221, b221) :: (nat_lit 222, b222) :: (nat_lit 225, b225) ::
  (nat_lit 232, b232) :: (nat_lit 234, b234) :: (nat_lit 235, b235) :: (nat_lit 237, b237) :: (nat_lit 238, b238) :: (nat_lit 239, b239) :: (nat_lit 240, b240) :: (nat_lit 241, b241) :: (nat_lit 244, b244) :: (nat_lit 251, b251) :: (nat_lit 253, b253) :: (nat_lit 254, b254) ::
  (nat_lit 256, b256) :: (nat_lit 257, b257) :: (nat_lit 258, b258) :: (nat_lit 259, b259) :: (nat_lit 260, b260) :: (nat_lit 263, b263) :: (nat_lit 265, b265) :: (nat_lit 266, b266) :: (nat_lit 268, b268) :: (nat_lit 269, b269) :: (nat_lit 270, b270) :: (nat_lit 272, b272) ::
  (nat_lit 273, b273) :: (nat_lit 275, b275) :: (nat_lit 276, b276) :: (nat_lit 277, b277) :: (nat_lit 279, b279) :: (nat_lit 280, b280) :: (nat_lit 282, b282) :: (nat_lit 283, b283) :: (nat_lit 284, b284) :: (nat_lit 286, b286) :: (nat_lit 287, b287) :: (nat_lit 289, b289) ::
  (nat_lit 290, b290) :: (nat_lit 291, b291) :: (nat_lit 293, b293) :: (nat_lit 294, b294) :: (nat_lit 296, b296) :: (nat_lit 297, b297) :: (nat_lit 298, b298) :: (nat_lit 300, b300) :: (nat_lit 301, b301) :: (nat_lit 303, b303) :: (nat_lit 304, b304) :: (nat_lit 305, b305) ::
  (nat_lit 307, b307) :: (nat_lit 308, b308) :: (nat_lit 310, b310) :: (nat_lit 311, b311) :: (nat_lit 319, b319) :: (nat_lit 320, b320) :: (nat_lit 322, b322) :: (nat_lit 323, b323) :: (nat_lit 325, b325) :: (nat_lit 326, b326) :: (nat_lit 327, b327) :: (nat_lit 328, b328) ::
  (nat_lit 329, b329) :: (nat_lit 330, b330) :: (nat_lit 331, b331) :: (nat_lit 334, b334) :: (nat_lit 336, b336) :: (nat_lit 337, b337) :: (nat_lit 339, b339) :: (nat_lit 340, b340) :: (nat_lit 341, b341) :: (nat_lit 343, b343) :: (nat_lit 344, b344) :: (nat_lit 346, b346) ::
  (nat_lit 347, b347) :: (nat_lit 348, b348) :: (nat_lit 350, b350) :: (nat_lit 351, b351) :: (nat_lit 353, b353) :: (nat_lit 354, b354) :: (nat_lit 355, b355) :: (nat_lit 357, b357) :: (nat_lit 358, b358) :: (nat_lit 360, b360) :: (nat_lit 361, b361) :: (nat_lit 362, b362) ::
  (nat_lit 364, b364) :: (nat_lit 365, b365) :: (nat_lit 367, b367) :: (nat_lit 368, b368) :: (nat_lit 369, b369) :: (nat_lit 371, b371) :: (nat_lit 372, b372) :: (nat_lit 374, b374) :: (nat_lit 375, b375) :: (nat_lit 376, b376) :: (nat_lit 378, b378) :: (nat_lit 379, b379) ::
  (nat_lit 381, b381) :: (nat_lit 382, b382) :: (nat_lit 383, b383) :: (nat_lit 386, b386) :: (nat_lit 387, b387) :: (nat_lit 388, b388) :: (nat_lit 390, b390) :: (nat_lit 391, b391) :: (nat_lit 393, b393) :: (nat_lit 394, b394) :: (nat_lit 395, b395) :: (nat_lit 398, b398) ::
  (nat_lit 399, b399) :: (nat_lit 400, b400) :: (nat_lit 403, b403) :: (nat_lit 404, b404) :: (nat_lit 405, b405) :: (nat_lit 407, b407) :: (nat_lit 408, b408) :: (nat_lit 410, b410) :: (nat_lit 411, b411) :: (nat_lit 412, b412) :: (nat_lit 414, b414) :: (nat_lit 415, b415) ::
  (nat_lit 417, b417) :: (nat_lit 418, b418) :: (nat_lit 419, b419) :: (nat_lit 421, b421) :: (nat_lit 422, b422) :: (nat_lit 424, b424) :: (nat_lit 425, b425) :: (nat_lit 426, b426) :: (nat_lit 429, b429) :: (nat_lit 430, b430) :: (nat_lit 431, b431) :: (nat_lit 433, b433) ::
  (nat_lit 434, b434) :: (nat_lit 436, b436) :: (nat_lit 437, b437) :: (nat_lit 438, b438) :: (nat_lit 440, b440) :: (nat_lit 441, b441) :: (nat_lit 443, b443) :: (nat_lit 444, b444) :: (nat_lit 445, b445) :: (nat_lit 447, b447) :: (nat_lit 448, b448) :: (nat_lit 450, b450) ::
  (nat_lit 451, b451) :: (nat_lit 452, b452) :: (nat_lit 454, b454) :: (nat_lit 455, b455) :: (nat_lit 457, b457) :: (nat_lit 458, b458) :: (nat_lit 459, b459) :: (nat_lit 461, b461) :: (nat_lit 462, b462) :: (nat_lit 464, b464) :: (nat_lit 465, b465) :: (nat_lit 466, b466) ::
  (nat_lit 468, b468) :: (nat_lit 469, b469) :: (nat_lit 471, b471) :: (nat_lit 472, b472) :: (nat_lit 473, b473) :: (nat_lit 475, b475) :: (nat_lit 476, b476) :: (nat_lit 478, b478) :: (nat_lit 479, b479) :: (nat_lit 480, b480) :: (nat_lit 482, b482) :: (nat_lit 483, b483) ::
  (nat_lit 485, b485) :: (nat_lit 486, b486) :: (nat_lit 487, b487) :: (nat_lit 489, b489) :: (nat_lit 490, b490) :: (nat_lit 492, b492) :: (nat_lit 493, b493) :: (nat_lit 494, b494) :: (nat_lit 496, b496) :: (nat_lit 497, b497) :: (nat_lit 499, b499) :: (nat_lit 500, b500) ::
  (nat_lit 501, b501) :: (nat_lit 503, b503) :: (nat_lit 504, b504) :: (nat_lit 506, b506) :: (nat_lit 507, b507) :: (nat_lit 508, b508) :: (nat_lit 510, b510) :: (nat_lit 511, b511) :: (nat_lit 513, b513) :: (nat_lit 514, b514) :: (nat_lit 515, b515) :: (nat_lit 517, b517) ::
  (nat_lit 518, b518) :: (nat_lit 520, b520) :: (nat_lit 521, b521) :: (nat_lit 522, b522) :: (nat_lit 524, b524) :: (nat_lit 525, b525) :: (nat_lit 527, b527) :: (nat_lit 528, b528) :: (nat_lit 529, b529) :: (nat_lit 532, b532) :: (nat_lit 533, b533) :: []) : Frag))
  (by dsimp only [Addr, Tok, K0, oc1, oc3, oc5, oc7, oc9, oc11, oc13, oc15, oc17, oc19, oc21, oc23, oc25, oc27, oc29, oc31, oc33, oc35, oc37, oc39, oc41, oc43, oc45, oc47,
  oc49, oc51, oc53, oc55, oc57, oc59, oc61, oc63, oc65, oc67, oc69, oc71, oc73, oc75, oc77, oc79, oc81, oc83, oc85, oc87, oc89, oc91, oc93, oc95,
  oc97, oc99, oc101, oc103, oc105, oc107, oc109, oc111, oc113, oc115, oc117, oc119, oc121, oc123, oc125, oc127, oc129, oc131, oc133, oc135, oc137, oc139, oc141, oc143,
  oc145, oc147, oc149, oc151, oc153, oc155, oc157, oc159, oc161, oc163, oc165, oc167, oc169, oc171, oc173, oc175, oc177, oc179, oc181, oc183, oc185, oc187, oc189, oc191,
  oc193, oc195, oc197, oc199, oc201, oc203, oc205, oc207, oc209, oc211, oc213, oc215, oc217, oc219, oc221, oc223, oc225, oc227, oc229, oc231, oc233, oc235, oc237, oc239,
  oc241, oc243, oc245, oc247, oc249, List.cons_append, List.nil_append, en, S, fo, at_, inC, clsBody, stmtAt, PW, PySem.Challenge.pw_sa0599_01])
end
section
set_option maxRecDepth 100000
set_option maxHeartbeats 8000000
noncomputable def o43 : Obj := ⟨.type "tuple", none, .seq #[] 0, #[]⟩
noncomputable def o44 : Obj := ⟨.none, none, .fields #[], #[]⟩
noncomputable def o45 : Obj := ⟨.type "code", none, .fields #[.str (S "<module>") 182, .str (S "<module>") 183, .str (S "/claim/cut.py") 184, .int 1 0, .int 0 0, .int 0 0, .int 0 0, .int 0 0, .ref 11, .bool false, .int 181 0, .ref 12, .none, .none, .none, .none, .int 185 0, .int 1 0, .str (S "/claim/cut.py") 186], #[]⟩
noncomputable def o46 : Obj := ⟨.type "frame", none, .plain, #[some (.ref 13), some (.ref 3), some (.ref 3), none, some (.str (S "__main__") 164), none, some (.ref 0)]⟩
noncomputable def Tb (P : Params) : BT :=
  .node (boot_o_0 P)
    (.node (boot_o_1 P) (.node (boot_o_3 P) (.node (boot_o_7 P) .nil .nil) (.node o43 .nil .nil)) (.node (boot_o_5 P) (.node (boot_o_9 P) .nil .nil) (.node o45 .nil .nil)))
    (.node (boot_o_2 P) (.node (boot_o_4 P) (.node (boot_o_8 P) .nil .nil) (.node o44 .nil .nil)) (.node (boot_o_6 P) (.node (boot_o_10 P) .nil .nil) (.node o46 .nil .nil)))
noncomputable abbrev body : List Stmt := behindTheImports PW
noncomputable abbrev envE : Env := { scope := PW.main.scope, locals := mainNs, globals := mainNs, cells := [], code := .ref 13, frame := some 14 }
noncomputable abbrev cE : Code := .body body envE
noncomputable abbrev pos0 : Pos := ⟨0, 0, 0, 0⟩
noncomputable abbrev Sb (w : World) (os : OsState) : SharedT := ⟨Tb w.params, 15, {}, #[], {}, 187, os⟩
noncomputable abbrev keepL : List Nat := [1, 2, 3, 4, 5, 6, 7, 8, 9, 10, 11, 12, 13, 14, 15, 17, 18, 19, 20, 21, 22, 23, 24, 25, 26, 28, 29, 30, 31, 33, 34, 35, 36, 37, 38, 39, 40, 41, 42, 44, 45, 46, 47, 48, 49, 50, 51, 53, 54, 56, 57, 58, 59, 60, 61, 62, 63, 64]
noncomputable def QV : Program := view PW keepL
noncomputable abbrev LS : List Str := [Str.ofString "SnobolError"]
noncomputable abbrev ROW := PySem.Challenge.rw_sa0599_01.row
noncomputable abbrev XtF (s : Shared) : Bool := xlAt QV [] s && recOk (RowW.records ROW.toRowW) s
noncomputable abbrev asL : List Addr := [2, 3, 15, 18, 23, 24, 25, 27, 28, 30, 31, 32, 33, 34, 35, 45, 47, 48, 50, 51, 52, 53, 54, 55, 56, 66, 68, 69, 71, 72,
  73, 74, 75, 76, 77, 87, 89, 90, 92, 93, 94, 95, 96, 97, 98, 108, 110, 111, 113, 114, 115, 116, 117, 118, 119, 129, 131, 132, 134, 135,
  136, 137, 138, 139, 140, 143, 145, 146, 148, 149, 150, 152, 153, 155, 156, 157, 159, 160, 162, 163, 164, 166, 167, 169, 170, 171, 173, 174, 176, 177,
  178, 180, 181, 183, 184, 185, 187, 188, 190, 191, 192, 194, 195, 197, 198, 199, 201, 202, 204, 205, 206, 213, 215, 216, 218, 219, 220, 221, 222, 225,
  232, 234, 235, 237, 238, 239, 240, 241, 244, 251, 253, 254, 256, 257, 258, 259, 260, 263, 265, 266, 268, 269, 270, 272, 273, 275, 276, 277, 279, 280,
  282, 283, 284, 286, 287, 289, 290, 291, 293, 294, 296, 297, 298, 300, 301, 303, 304, 305, 307, 308, 310, 311, 319, 320, 322, 323, 325, 326, 327, 328,
  329, 330, 331, 334, 336, 337, 339, 340, 341, 343, 344, 346, 347, 348, 350, 351, 353, 354, 355, 357, 358, 360, 361, 362, 364, 365, 367, 368, 369, 371,
  372, 374, 375, 376, 378, 379, 381, 382, 383, 386, 387, 388, 390, 391, 393, 394, 395, 398, 399, 400, 403, 404, 405, 407, 408, 410, 411, 412, 414, 415,
  417, 418, 419, 421, 422, 424, 425, 426, 429, 430, 431, 433, 434, 436, 437, 438, 440, 441, 443, 444, 445, 447, 448, 450, 451, 452, 454, 455, 457, 458,
  459, 461, 462, 464, 465, 466, 468, 469, 471, 472, 473, 475, 476, 478, 479, 480, 482, 483, 485, 486, 487, 489, 490, 492, 493, 494, 496, 497, 499, 500,
  501, 503, 504, 506, 507, 508, 510, 511, 513, 514, 515, 517, 518, 520, 521, 522, 524, 525, 527, 528, 529, 532, 533]
noncomputable abbrev HH : Hook := kmHook KK asL (fun _ => by kernel_rfl) [530]
noncomputable abbrev mods : List Str := importedModules PW.main.body
noncomputable def alt : List Obj → List Obj
  | [] => []
  | [a] => [a]
  | a :: _ :: r => a :: alt r
noncomputable def mkT : Nat → List Obj → BT
  | 0, _ => .nil
  | _ + 1, [] => .nil
  | f + 1, o :: r => .node o (mkT f (alt r)) (mkT f (alt r.tail))
noncomputable def setN : List Obj → Nat → Obj → List Obj
  | [], _, _ => []
  | _ :: r, 0, o => o :: r
  | a :: r, n + 1, o => a :: setN r n o
noncomputable def o2e : Obj := ⟨.none, none, .dict #[] 0, #[]⟩
noncomputable abbrev g1 : List Stmt := (body.drop 0).take 2
noncomputable abbrev S1 (w : World) (os : OsState) : SharedT := ⟨mkT 12 ((setN (setN (OBJS w.params) 3 (o3 w.params "snobol.values" 187 10)) 12 (o12 3)).take 38), 38, {}, #[], {}, 223, os⟩
theorem p1 (w : World) (os : OsState) : segRunT treeTable PW w 11 (some (.ref 6)) 1 317 (Sb w os) (piecesOf g1 envE cE ⟨0, 0, 0, 0⟩ [topFrame pos0]) = some (.next, S1 w os, cE, ⟨2, 0, 7, 24⟩) := by
  unfold piecesOf
  rw [Fast.te10110043849684766642, Fast.te14364793385576792824, Fast.te12563942051412417395]
  kernel_rfl
noncomputable abbrev g2 : List Stmt := (body.drop 2).take 1
noncomputable abbrev S2 (w : World) (os : OsState) : SharedT := ⟨mkT 12 ((setN (setN (OBJS w.params) 3 (o3 w.params "snobol.values" 187 11)) 12 (o12 6)).take 59), 59, {}, #[], {}, 252, os⟩
theorem p2 (w : World) (os : OsState) : segRunT treeTable PW w 11 (some (.ref 6)) 1 282 (S1 w os) (piecesOf g2 envE cE ⟨2, 0, 7, 24⟩ [topFrame pos0]) = some (.next, S2 w os, cE, ⟨8, 0, 11, 24⟩) := by
  unfold piecesOf
  rw [Fast.te10110043849684766642, Fast.te14364793385576792824, Fast.te12563942051412417395]
  kernel_rfl
noncomputable abbrev g3 : List Stmt := (body.drop 3).take 1
noncomputable abbrev S3 (w : World) (os : OsState) : SharedT := ⟨mkT 12 ((setN (setN (OBJS w.params) 3 (o3 w.params "snobol.values" 187 12)) 12 (o12 9)).take 80), 80, {}, #[], {}, 281, os⟩
theorem p3 (w : World) (os : OsState) : segRunT treeTable PW w 11 (some (.ref 6)) 1 282 (S2 w os) (piecesOf g3 envE cE ⟨8, 0, 11, 24⟩ [topFrame pos0]) = some (.next, S3 w os, cE, ⟨12, 0, 15, 24⟩) := by
  unfold piecesOf
  rw [Fast.te10110043849684766642, Fast.te14364793385576792824, Fast.te12563942051412417395]
  kernel_rfl
noncomputable abbrev g4 : List Stmt := (body.drop 4).take 1
noncomputable abbrev S4 (w : World) (os : OsState) : SharedT := ⟨mkT 12 ((setN (setN (OBJS w.params) 3 (o3 w.params "snobol.values" 187 13)) 12 (o12 12)).take 101), 101, {}, #[], {}, 310, os⟩
theorem p4 (w : World) (os : OsState) : segRunT treeTable PW w 11 (some (.ref 6)) 1 282 (S3 w os) (piecesOf g4 envE cE ⟨12, 0, 15, 24⟩ [topFrame pos0]) = some (.next, S4 w os, cE, ⟨16, 0, 19, 26⟩) := by
  unfold piecesOf
  rw [Fast.te10110043849684766642, Fast.te14364793385576792824, Fast.te12563942051412417395]
  kernel_rfl
noncomputable abbrev g5 : List Stmt := (body.drop 5).take 1
noncomputable abbrev S5 (w : World) (os : OsState) : SharedT := ⟨mkT 12 ((setN (setN (OBJS w.params) 3 (o3 w.params "snobol.values" 187 14)) 12 (o12 15)).take 122), 122, {}, #[], {}, 343, os⟩
theorem p5 (w : World) (os : OsState) : segRunT treeTable PW w 11 (some (.ref 6)) 1 286 (S4 w os) (piecesOf g5 envE cE ⟨16, 0, 19, 26⟩ [topFrame pos0]) = some (.next, S5 w os, cE, ⟨20, 0, 25, 22⟩) := by
  unfold piecesOf
  rw [Fast.te10110043849684766642, Fast.te14364793385576792824, Fast.te12563942051412417395]
  kernel_rfl
noncomputable abbrev g6 : List Stmt := (body.drop 6).take 4
noncomputable abbrev S6 (w : World) (os : OsState) : SharedT := ⟨mkT 12 ((setN (setN (setN (OBJS w.params) 3 (o3 w.params "snobol.values" 187 18)) 12 (o12 27)) 138 (o138 0)).take 164), 164, {}, #[], {}, 401, os⟩
theorem p6 (w : World) (os : OsState) : segRunT treeTable PW w 11 (some (.ref 6)) 1 377 (S5 w os) (piecesOf g6 envE cE ⟨20, 0, 25, 22⟩ [topFrame pos0]) = some (.next, S6 w os, cE, ⟨48, 0, 60, 50⟩) := by
  unfold piecesOf
  rw [Fast.te10110043849684766642, Fast.te14364793385576792824, Fast.te12563942051412417395]
  kernel_rfl
noncomputable abbrev g7 : List Stmt := (body.drop 10).take 7
noncomputable abbrev S7 (w : World) (os : OsState) : SharedT := ⟨mkT 12 ((setN (setN (setN (OBJS w.params) 3 (o3 w.params "snobol.aggregates" 451 24)) 12 (o12 45)) 138 (o138 0)).take 206), 206, {}, #[], {}, 453, os⟩
theorem p7 (w : World) (os : OsState) : segRunT treeTable PW w 11 (some (.ref 6)) 1 251 (S6 w os) (piecesOf g7 envE cE ⟨48, 0, 60, 50⟩ [topFrame pos0]) = some (.next, S7 w os, cE, ⟨90, 0, 90, 8⟩) := by
  unfold piecesOf
  rw [Fast.te10110043849684766642, Fast.te14364793385576792824, Fast.te12563942051412417395]
  kernel_rfl
noncomputable abbrev g8 : List Stmt := (body.drop 17).take 1
noncomputable abbrev S8 (w : World) (os : OsState) : SharedT := ⟨mkT 12 ((setN (setN (setN (OBJS w.params) 3 (o3 w.params "snobol.aggregates" 451 25)) 12 (o12 48)) 138 (o138 1)).take 225), 225, {}, #[], {}, 483, os⟩
theorem p8 (w : World) (os : OsState) : segRunT treeTable PW w 11 (some (.ref 6)) 1 310 (S7 w os) (piecesOf g8 envE cE ⟨90, 0, 90, 8⟩ [topFrame pos0]) = some (.next, S8 w os, cE, ⟨91, 0, 97, 53⟩) := by
  unfold piecesOf
  rw [Fast.te10110043849684766642, Fast.te14364793385576792824, Fast.te12563942051412417395]
  kernel_rfl
noncomputable abbrev g9 : List Stmt := (body.drop 18).take 1
noncomputable abbrev S9 (w : World) (os : OsState) : SharedT := ⟨mkT 12 ((setN (setN (setN (OBJS w.params) 3 (o3 w.params "snobol.aggregates" 451 26)) 12 (o12 51)) 138 (o138 2)).take 244), 244, {}, #[], {}, 510, os⟩
theorem p9 (w : World) (os : OsState) : segRunT treeTable PW w 11 (some (.ref 6)) 1 307 (S8 w os) (piecesOf g9 envE cE ⟨91, 0, 97, 53⟩ [topFrame pos0]) = some (.next, S9 w os, cE, ⟨98, 0, 104, 22⟩) := by
  unfold piecesOf
  rw [Fast.te10110043849684766642, Fast.te14364793385576792824, Fast.te12563942051412417395]
  kernel_rfl
noncomputable abbrev g10 : List Stmt := (body.drop 19).take 3
noncomputable abbrev S10 (w : World) (os : OsState) : SharedT := ⟨mkT 12 ((setN (setN (OBJS w.params) 3 (o3 w.params "snobol.aggregates" 451 29)) 12 (o12 60)).take 277), 277, {}, #[], {}, 558, os⟩
theorem p10 (w : World) (os : OsState) : segRunT treeTable PW w 11 (some (.ref 6)) 1 372 (S9 w os) (piecesOf g10 envE cE ⟨98, 0, 104, 22⟩ [topFrame pos0]) = some (.next, S10 w os, cE, ⟨116, 0, 119, 27⟩) := by
  unfold piecesOf
  rw [Fast.te10110043849684766642, Fast.te14364793385576792824, Fast.te12563942051412417395]
  kernel_rfl
noncomputable abbrev g11 : List Stmt := (body.drop 22).take 6
noncomputable abbrev S11 (w : World) (os : OsState) : SharedT := ⟨mkT 12 ((setN (setN (OBJS w.params) 3 (o3 w.params "snobol.world" 601 34)) 12 (o12 75)).take 312), 312, {}, #[], {}, 603, os⟩
theorem p11 (w : World) (os : OsState) : segRunT treeTable PW w 11 (some (.ref 6)) 1 222 (S10 w os) (piecesOf g11 envE cE ⟨116, 0, 119, 27⟩ [topFrame pos0]) = some (.next, S11 w os, cE, ⟨154, 0, 154, 8⟩) := by
  unfold piecesOf
  rw [Fast.te10110043849684766642, Fast.te14364793385576792824, Fast.te12563942051412417395]
  kernel_rfl
noncomputable abbrev g12 : List Stmt := (body.drop 28).take 3
noncomputable abbrev S12 (w : World) (os : OsState) : SharedT := ⟨mkT 12 ((setN (setN (OBJS w.params) 3 (o3 w.params "snobol.world" 601 37)) 12 (o12 84)).take 348), 348, {}, #[], {}, 680, os⟩
theorem p12 (w : World) (os : OsState) : segRunT treeTable PW w 11 (some (.ref 6)) 1 375 (S11 w os) (piecesOf g12 envE cE ⟨154, 0, 154, 8⟩ [topFrame pos0]) = some (.next, S12 w os, cE, ⟨187, 0, 196, 36⟩) := by
  unfold piecesOf
  rw [Fast.te10110043849684766642, Fast.te14364793385576792824, Fast.te12563942051412417395]
  kernel_rfl
noncomputable abbrev g13 : List Stmt := (body.drop 31).take 14
noncomputable abbrev S13 (w : World) (os : OsState) : SharedT := ⟨mkT 12 ((setN (setN (OBJS w.params) 3 (o3 w.params "snobol.keywords" 759 49)) 12 (o12 114)).take 412), 412, {}, #[], {}, 767, os⟩
theorem p13 (w : World) (os : OsState) : segRunT treeTable PW w 11 (some (.ref 6)) 1 389 (S12 w os) (piecesOf g13 envE cE ⟨187, 0, 196, 36⟩ [topFrame pos0]) = some (.next, S13 w os, cE, ⟨255, 0, 256, 170⟩) := by
  unfold piecesOf
  rw [Fast.te10110043849684766642, Fast.te14364793385576792824, Fast.te12563942051412417395]
  kernel_rfl
noncomputable abbrev g14 : List Stmt := (body.drop 45).take 12
noncomputable abbrev S14 (w : World) (os : OsState) : SharedT := ⟨mkT 12 ((setN (setN (OBJS w.params) 3 (o3 w.params "law_sa0599_01" 835 59)) 12 (o12 144)).take 480), 480, {}, #[], {}, 847, os⟩
theorem p14 (w : World) (os : OsState) : segRunT treeTable PW w 11 (some (.ref 6)) 1 372 (S13 w os) (piecesOf g14 envE cE ⟨255, 0, 256, 170⟩ [topFrame pos0]) = some (.next, S14 w os, cE, ⟨300, 0, 303, 87⟩) := by
  unfold piecesOf
  rw [Fast.te10110043849684766642, Fast.te14364793385576792824, Fast.te12563942051412417395]
  kernel_rfl
noncomputable abbrev g15 : List Stmt := (body.drop 57).take 8
noncomputable abbrev S15 (w : World) (os : OsState) : SharedT := ⟨mkT 12 ((OBJS w.params).take 534), 534, {}, #[], {}, 917, os⟩
theorem p15 (w : World) (os : OsState) : segRunT treeTable PW w 11 (some (.ref 6)) 1 304 (S14 w os) (piecesOf g15 envE cE ⟨300, 0, 303, 87⟩ [topFrame pos0]) = some (.next, S15 w os, cE, ⟨350, 0, 385, 129⟩) := by
  unfold piecesOf
  rw [Fast.te10110043849684766642, Fast.te14364793385576792824, Fast.te12563942051412417395]
  kernel_rfl
noncomputable abbrev SF (w : World) (os : OsState) : Shared := ⟨⟨⟨OBJS w.params⟩, {}⟩, #[], {}, 917, os⟩
theorem sf_eq (w : World) (os : OsState) : (S15 w os).abs = SF w os := by kernel_rfl
theorem la (w : World) (os : OsState) : (staticsOk mods (boot_heap w.params) (SF w os).heap && namesBound PW (SF w os).heap && gensDone (SF w os) && laidKept (boot_heap w.params) (SF w os).heap) = true := by
  unfold mods
  rw [Fast.te5923862056798008813]
  kernel_rfl
theorem lc (w : World) (os : OsState) : HH.obs (SF w os) = HH.val w := by kernel_rfl
theorem two_eq {α β : Type} {a a' : α} {b b' : β} (h : a = a') (h' : b = b') : (a, b) = (a', b') := by rw [h, h']
theorem lb1 (w : World) (os : OsState) : Fast.tw5160383126252970620 (R.mapR (fun x => x.name) (Fast.tw3399658132070893891 QV)) (Fast.tw5991557255702980513 QV) [] { SF w os with gens := #[] } = expectedOf QV := by kernel_rfl
theorem lb2 (w : World) (os : OsState) : Fast.tw479339242167458305 QV (SF w os) = true := by kernel_rfl
theorem lb3 (w : World) (os : OsState) : Fast.tw2386780881361962483 QV (Fast.tw821141287760084731 QV LS) (SF w os) = plainGoodE QV (looseW QV LS) := by kernel_rfl
theorem lb (w : World) (os : OsState) : openSeen QV LS mods XtF true (SF w os) = openGood QV LS := by
  unfold mods
  rw [Fast.te4187177175401517315, Fast.te5923862056798008813]
  unfold Fast.tw4187177175401517315 openGood
  exact two_eq (lb1 w os) (two_eq (by kernel_rfl) (two_eq (by kernel_rfl) (two_eq (lb2 w os) (two_eq (by kernel_rfl) (two_eq (lb3 w os) (two_eq (by kernel_rfl) (two_eq (by kernel_rfl) (by kernel_rfl))))))))
theorem body_eq : body = g1 ++ (g2 ++ (g3 ++ (g4 ++ (g5 ++ (g6 ++ (g7 ++ (g8 ++ (g9 ++ (g10 ++ (g11 ++ (g12 ++ (g13 ++ (g14 ++ (g15 ++ [])))))))))))))) := by kernel_rfl
theorem fin_ (w : World) (s : Shared) (c : Code) (p : Pos) : topRun treeTable PW w 11 (some (.ref 6)) 2 s ⟨doneF .next, c, p, [topFrame pos0]⟩ = some s := by
  obtain ⟨h, g, d, t, o⟩ := s
  rfl
theorem chain_ (w : World) (os : OsState) : topRun treeTable PW w 11 (some (.ref 6)) (317 + (282 + (282 + (282 + (286 + (377 + (251 + (310 + (307 + (372 + (222 + (375 + (389 + (372 + (304 + 2))))))))))))))) (Sb w os).abs (restOf body envE cE pos0 [topFrame pos0]) = some (SF w os) := by
  rw [body_eq]
  have k := piece_app (rest := (g2 ++ (g3 ++ (g4 ++ (g5 ++ (g6 ++ (g7 ++ (g8 ++ (g9 ++ (g10 ++ (g11 ++ (g12 ++ (g13 ++ (g14 ++ (g15 ++ []))))))))))))))) (segRun_of (p1 w os))
    (piece_app (rest := (g3 ++ (g4 ++ (g5 ++ (g6 ++ (g7 ++ (g8 ++ (g9 ++ (g10 ++ (g11 ++ (g12 ++ (g13 ++ (g14 ++ (g15 ++ [])))))))))))))) (segRun_of (p2 w os))
    (piece_app (rest := (g4 ++ (g5 ++ (g6 ++ (g7 ++ (g8 ++ (g9 ++ (g10 ++ (g11 ++ (g12 ++ (g13 ++ (g14 ++ (g15 ++ []))))))))))))) (segRun_of (p3 w os))
    (piece_app (rest := (g5 ++ (g6 ++ (g7 ++ (g8 ++ (g9 ++ (g10 ++ (g11 ++ (g12 ++ (g13 ++ (g14 ++ (g15 ++ [])))))))))))) (segRun_of (p4 w os))
    (piece_app (rest := (g6 ++ (g7 ++ (g8 ++ (g9 ++ (g10 ++ (g11 ++ (g12 ++ (g13 ++ (g14 ++ (g15 ++ []))))))))))) (segRun_of (p5 w os))
    (piece_app (rest := (g7 ++ (g8 ++ (g9 ++ (g10 ++ (g11 ++ (g12 ++ (g13 ++ (g14 ++ (g15 ++ [])))))))))) (segRun_of (p6 w os))
    (piece_app (rest := (g8 ++ (g9 ++ (g10 ++ (g11 ++ (g12 ++ (g13 ++ (g14 ++ (g15 ++ []))))))))) (segRun_of (p7 w os))
    (piece_app (rest := (g9 ++ (g10 ++ (g11 ++ (g12 ++ (g13 ++ (g14 ++ (g15 ++ [])))))))) (segRun_of (p8 w os))
    (piece_app (rest := (g10 ++ (g11 ++ (g12 ++ (g13 ++ (g14 ++ (g15 ++ []))))))) (segRun_of (p9 w os))
    (piece_app (rest := (g11 ++ (g12 ++ (g13 ++ (g14 ++ (g15 ++ [])))))) (segRun_of (p10 w os))
    (piece_app (rest := (g12 ++ (g13 ++ (g14 ++ (g15 ++ []))))) (segRun_of (p11 w os))
    (piece_app (rest := (g13 ++ (g14 ++ (g15 ++ [])))) (segRun_of (p12 w os))
    (piece_app (rest := (g14 ++ (g15 ++ []))) (segRun_of (p13 w os))
    (piece_app (rest := (g15 ++ [])) (segRun_of (p14 w os))
    (piece_app (rest := []) (segRun_of (p15 w os))
    (piece_nil (fin_ w (S15 w os).abs cE ⟨350, 0, 385, 129⟩))))))))))))))))
  rw [sf_eq] at k
  exact k
noncomputable abbrev MM : Nat := (317 + (282 + (282 + (282 + (286 + (377 + (251 + (310 + (307 + (372 + (222 + (375 + (389 + (372 + (304 + 2)))))))))))))))
end
section
set_option maxRecDepth 100000
set_option maxHeartbeats 8000000
theorem left_of {p q : Program} {loose : List Str} {Xt : Shared → Bool} {α : Type} {Yf : Shared → α} {Ya : World → α} {N : Nat} {g0 : Bool} {H₀ : Params → Heap} {gs₀ : Array GenState} {d₀ : Drawn} {k₀ : Nat} {m₀ : Nat} {ann : Option Value} {M : Nat}
    (open_ : ∀ w : World, (fencedOpening treeTable p w N).map (fun s => (s.heap, s.gens, s.drawn, s.toks)) = some (H₀ w.params, gs₀, d₀, k₀))
    (size : ∀ w : World, ((H₀ w.params).isNs mainGlobals && gs₀.size == 0, (H₀ w.params).objs.size, (H₀ w.params).nsMap mainGlobals "__annotations__") = (true, m₀, ann))
    (run : ∀ (w : World) (os : OsState), ∃ s₁, topRun treeTable p w m₀ ann M ⟨H₀ w.params, gs₀, d₀, k₀, os⟩ (topStub p) = some s₁ ∧
      ((staticsOk (importedModules p.main.body) (H₀ w.params) s₁.heap && namesBound p s₁.heap && gensDone s₁ && laidKept (H₀ w.params) s₁.heap), openSeen q loose (importedModules p.main.body) Xt g0 s₁, Yf s₁) = (true, openGood q loose, Ya w)) (le : Nat.ble M N = true) : LeftO p q loose Xt Yf Ya N g0 := fun w => by
  obtain ⟨⟨h, gs, d, k, os⟩, e, e'⟩ := Option.map_eq_some_iff.mp (open_ w)
  obtain ⟨rfl, rfl, rfl, rfl⟩ : h = H₀ w.params ∧ gs = gs₀ ∧ d = d₀ ∧ k = k₀ := by simpa using e'
  obtain ⟨z1, z2, z3⟩ : _ ∧ _ ∧ _ := by simpa only [Prod.mk.injEq] using size w
  obtain ⟨s₁, r, lk⟩ := run w os
  obtain ⟨l1, l2, l3⟩ : _ ∧ _ ∧ _ := by simpa only [Prod.mk.injEq] using lk
  have r := topRun_mono (N - M) _ _ _ _ r
  rw [show M + (N - M) = N by have := Nat.le_of_ble_eq_true le; omega] at r
  have t : topFrom treeTable p w N ⟨H₀ w.params, gs, d, k, os⟩ = some s₁ := by
    unfold topFrom
    dsimp only
    rw [z1, z2, z3, r]
    show (match staticsOk (importedModules p.main.body) (H₀ w.params) s₁.heap && namesBound p s₁.heap && gensDone s₁ && laidKept (H₀ w.params) s₁.heap with | true => _ | false => _) = _
    rw [l1]
  unfold openEnds
  rw [e]
  show (topFrom treeTable p w N _).map _ = _
  rw [t]
  exact congrArg some (Prod.ext l2 l3)
noncomputable abbrev Sa (w : World) (os : OsState) : Shared := ⟨absHeap (Tb w.params) 15 {}, #[], {}, 187, os⟩
theorem pre_ (w : World) (os : OsState) : topGo treeTable PW w 11 (some (.ref 6)) 12 ⟨boot_heap w.params, #[], boot_drawn, boot_toks, os⟩ (topStub PW) = some (Sa w os, ⟨denote treeTable cE, cE, pos0, [topFrame pos0]⟩) := by
  have h : Fast.tw15667345088766844465 Fast.tw14364793385576792824 PW w 11 (some (.ref 6)) 12 ⟨boot_heap w.params, #[], boot_drawn, boot_toks, os⟩ (topStub PW) = some (Sa w os, ⟨Fast.tw11892475500146522536 Fast.tw14364793385576792824 cE, cE, pos0, [topFrame pos0]⟩) := by kernel_rfl
  rw [Fast.te15667345088766844465, Fast.te14364793385576792824, Fast.te11892475500146522536]
  exact h
theorem block_ (w : World) (os : OsState) : segRun treeTable PW w 11 (some (.ref 6)) 1 1 (Sa w os) (blockOf body envE cE pos0 [topFrame pos0]) = some (.next, (Sb w os).abs, cE, pos0) := by
  rw [Fast.te14374325043358763698, Fast.te14364793385576792824]
  kernel_rfl
theorem size_ (w : World) : ((boot_heap w.params).isNs mainGlobals && (#[] : Array GenState).size == 0, (boot_heap w.params).objs.size, (boot_heap w.params).nsMap mainGlobals "__annotations__") = (true, 11, some (.ref 6)) := by
  rw [Fast.te8920871248978507458]
  kernel_rfl
theorem fence_ (s : Shared) : fenceModules? PW s = some s := by kernel_rfl
theorem opening_ : opening PW = plainProg PW.main.scope.names := by kernel_rfl
theorem LEFT : LeftO PW QV LS XtF HH.obs HH.val 7782 true :=
  left_of (M := 12 + (1 + MM)) (boot_open opening_ (by decide) fence_) size_ (fun w os => ⟨SF w os, go_top (pre_ w os) (piece_block (block_ w os) (chain_ w os)), Prod.ext (la w os) (Prod.ext (lb w os) (lc w os))⟩) (by decide)
end
section
set_option genSizeOf false
set_option genInjectivity false
/-- small linear sums over the natural and the whole numbers, judged by evaluation -/
inductive Tm where
  | v (i : Nat) | n (k : Nat) | ad (p q : Tm) | sb (p q : Tm) | ml (k : Nat) (p : Tm) | ct (p : Tm) | tn (p : Tm) | ng (p : Tm)
inductive Fm where
  | le (b : Bool) (s t : Tm) | lt (b : Bool) (s t : Tm) | eq (b : Bool) (s t : Tm) | no (f : Fm) | an (f g : Fm) | or (f g : Fm) | im (f g : Fm) | ff
noncomputable def nth : List Nat → Nat → Nat
  | [], _ => 0
  | a :: _, 0 => a
  | _ :: r, i + 1 => nth r i
noncomputable def nti : List Int → Nat → Int
  | [], _ => 0
  | a :: _, 0 => a
  | _ :: r, i + 1 => nti r i
noncomputable def Tm.ev (x : List Nat) (y : List Int) : Tm → Nat × Int
  | .v i => (nth x i, nti y i)
  | .n k => (k, k)
  | .ad s t => ((s.ev x y).1 + (t.ev x y).1, (s.ev x y).2 + (t.ev x y).2)
  | .sb s t => ((s.ev x y).1 - (t.ev x y).1, (s.ev x y).2 - (t.ev x y).2)
  | .ml k t => (k * (t.ev x y).1, k * (t.ev x y).2)
  | .ct t => (0, ((t.ev x y).1 : Int))
  | .tn t => ((t.ev x y).2.toNat, 0)
  | .ng t => (0, -(t.ev x y).2)
noncomputable def Fm.ev (x : List Nat) (y : List Int) : Fm → Prop
  | .le true s t => (s.ev x y).1 ≤ (t.ev x y).1
  | .le false s t => (s.ev x y).2 ≤ (t.ev x y).2
  | .lt true s t => (s.ev x y).1 < (t.ev x y).1
  | .lt false s t => (s.ev x y).2 < (t.ev x y).2
  | .eq true s t => (s.ev x y).1 = (t.ev x y).1
  | .eq false s t => (s.ev x y).2 = (t.ev x y).2
  | .no f => ¬ f.ev x y
  | .an f g => f.ev x y ∧ g.ev x y
  | .or f g => f.ev x y ∨ g.ev x y
  | .im f g => f.ev x y → g.ev x y
  | .ff => False
noncomputable abbrev Cn := Int × List Int
noncomputable def dot : List Int → List Int → Int
  | [], _ => 0
  | a :: c, e => a * nti e 0 + dot c e.tail
noncomputable def lmul (k : Int) : List Int → List Int
  | [] => []
  | b :: d => k * b :: lmul k d
noncomputable def ladd (k : Int) : List Int → List Int → List Int
  | [], b => lmul k b
  | a :: c, b => (a + k * b.headD 0) :: ladd k c b.tail
noncomputable def unit : Nat → List Int
  | 0 => [1]
  | i + 1 => 0 :: unit i
noncomputable def Cn.v (e : List Int) (p : Cn) : Int := p.1 + dot p.2 e
/-- p + k q -/
noncomputable def cadd (k : Int) (p q : Cn) : Cn := (p.1 + k * q.1, ladd k p.2 q.2)
theorem dot_step (c : List Int) (e : List Int) : dot c e = c.headD 0 * nti e 0 + dot c.tail e.tail := by
  cases c with
  | nil => simp [dot]
  | cons a c => rfl
theorem dot_lmul (k : Int) (b : List Int) : ∀ (e : List Int), dot (lmul k b) e = k * dot b e := by
  induction b with
  | nil => intro e; exact (Int.mul_zero k).symm
  | cons x a ih => intro e; show k * x * nti e 0 + dot (lmul k a) e.tail = k * (x * nti e 0 + dot a e.tail); rw [ih, Int.mul_add, Int.mul_assoc]
theorem dot_ladd (k : Int) (a : List Int) : ∀ (b : List Int) (e : List Int), dot (ladd k a b) e = dot a e + k * dot b e := by
  induction a with
  | nil => intro b e; show dot (lmul k b) e = 0 + _; rw [dot_lmul, Int.zero_add]
  | cons x a ih =>
    intro b e
    rw [dot_step b]
    show (x + k * b.headD 0) * nti e 0 + dot (ladd k a b.tail) e.tail = x * nti e 0 + dot a e.tail + k * (b.headD 0 * nti e 0 + dot b.tail e.tail)
    rw [ih, Int.add_mul, Int.mul_add, Int.mul_assoc]
    simp only [Int.add_assoc, Int.add_left_comm]
theorem v_add (e : List Int) (k : Int) (p q : Cn) : (cadd k p q).v e = p.v e + k * q.v e := by
  simp only [Cn.v, cadd, dot_ladd, Int.mul_add, Int.add_assoc, Int.add_left_comm]
theorem v_num (e : List Int) (k : Int) : Cn.v e (k, []) = k := Int.add_zero k
theorem dot_unit (i : Nat) : ∀ (e : List Int), dot (unit i) e = nti e i := by
  induction i with
  | zero => intro e; show 1 * nti e 0 + 0 = _; rw [Int.one_mul, Int.add_zero]
  | succ i ih => intro e; show 0 * nti e 0 + dot (unit i) e.tail = _; rw [ih, Int.zero_mul, Int.zero_add]; cases e <;> rfl
theorem v_unit (e : List Int) (i : Nat) : Cn.v e (0, unit i) = nti e i := (Int.zero_add _).trans (dot_unit i e)
noncomputable def head (p : Cn) : Int := p.2.headD 0
noncomputable def tail (p : Cn) : Cn := (p.1, p.2.tail)
noncomputable def comb (p q : Cn) : Cn := cadd (head p) (cadd (-(head q)) (0, []) (tail p)) (tail q)
theorem v_step (e : List Int) (p : Cn) : p.v e = head p * nti e 0 + (tail p).v e.tail := by
  rw [Cn.v, dot_step]; exact Int.add_left_comm ..
theorem comb_le (e : List Int) (p q : Cn) (h1 : 0 < head p) (h2 : head q < 0) (hp : 0 ≤ p.v e) (hq : 0 ≤ q.v e) : 0 ≤ (comb p q).v e.tail := by
  have a := Int.add_nonneg (Int.mul_nonneg (Int.neg_nonneg.mpr (Int.le_of_lt h2)) hp) (Int.mul_nonneg (Int.le_of_lt h1) hq)
  rw [v_step, v_step e q, Int.mul_add, Int.mul_add, Int.neg_mul, Int.mul_left_comm, Int.add_left_comm, Int.add_assoc, Int.add_left_comm, ← Int.add_assoc (-_), Int.add_left_neg, Int.zero_add] at a
  rw [comb, v_add, v_add, v_num, Int.zero_add]
  exact a
noncomputable def fm : Nat → List Cn → Bool
  | 0, l => l.any fun p => decide (p.1 < 0) && p.2.all fun c => c == 0
  | n + 1, l => fm n ((l.filter fun p => head p == 0).map tail ++ (l.filter fun p => decide (0 < head p)).flatMap fun p => (l.filter fun q => decide (head q < 0)).map (comb p))
theorem dot_zero (c : List Int) (h : c.all (fun c => c == 0) = true) : ∀ (e : List Int), dot c e = 0 := by
  induction c with
  | nil => intro e; rfl
  | cons a c ih =>
    intro e
    have h := Bool.and_eq_true_iff.mp h
    show a * nti e 0 + dot c e.tail = 0
    rw [beq_iff_eq.mp h.1, ih h.2, Int.zero_mul]; rfl
noncomputable def Holds (e : List Int) (l : List Cn) : Prop := ∀ p ∈ l, 0 ≤ p.v e
theorem fm_no (n : Nat) : ∀ (l : List Cn) (e : List Int), fm n l = true → Holds e l → False := by
  induction n with
  | zero =>
    intro l e h k
    obtain ⟨p, hp, h⟩ := List.any_eq_true.mp h
    have h := Bool.and_eq_true_iff.mp h
    have q := k p hp
    rw [Cn.v, dot_zero _ h.2, Int.add_zero] at q
    exact Int.not_le.mpr (of_decide_eq_true h.1) q
  | succ n ih =>
    intro l e h k
    refine ih _ e.tail h fun p hp => ?_
    rcases List.mem_append.mp hp with hp | hp
    · obtain ⟨q, hq, rfl⟩ := List.mem_map.mp hp
      have h1 := List.mem_filter.mp hq
      have := k q h1.1
      rwa [v_step, beq_iff_eq.mp h1.2, Int.zero_mul, Int.zero_add] at this
    · obtain ⟨p', hp', hp⟩ := List.mem_flatMap.mp hp
      obtain ⟨q, hq, rfl⟩ := List.mem_map.mp hp
      have h1 := List.mem_filter.mp hp'
      have h3 := List.mem_filter.mp hq
      exact comb_le e p' q (of_decide_eq_true h1.2) (of_decide_eq_true h3.2) (k p' h1.1) (k q h3.1)
theorem Holds.app {e : List Int} {l m : List Cn} (h : Holds e l) (k : Holds e m) : Holds e (l ++ m) := fun p hp => (List.mem_append.mp hp).elim (h p) (k p)
theorem Holds.cons {e : List Int} {l : List Cn} {p : Cn} (h : 0 ≤ p.v e) (k : Holds e l) : Holds e (p :: l) := fun q hq => (List.mem_cons.mp hq).elim (fun h' => h' ▸ h) (k q)
theorem Holds.nil {e : List Int} : Holds e [] := fun _ h => nomatch h
/-- the cases of a sum: what is so there, and the sum -/
noncomputable def bi (a b : List (List Cn × Cn)) (f : Cn → Cn → List (List Cn × Cn)) : List (List Cn × Cn) := a.flatMap fun p => b.flatMap fun q => (f p.2 q.2).map fun r => (p.1 ++ q.1 ++ r.1, r.2)
noncomputable def Is (e : List Int) (l : List (List Cn × Cn)) (z : Int) : Prop := ∃ p ∈ l, Holds e p.1 ∧ p.2.v e = z
theorem Is.one {e : List Int} {p : Cn} : Is e [([], p)] (p.v e) := ⟨_, List.mem_singleton.mpr rfl, .nil, rfl⟩
theorem Is.bi {e : List Int} {a b : List (List Cn × Cn)} {f : Cn → Cn → List (List Cn × Cn)} {s t z : Int} (ha : Is e a s) (hb : Is e b t) (hf : ∀ p q : Cn, p.v e = s → q.v e = t → Is e (f p q) z) : Is e (bi a b f) z :=
  let ⟨p, hp, h1, h2⟩ := ha
  let ⟨q, hq, h3, h4⟩ := hb
  let ⟨r, hr, h5, h6⟩ := hf _ _ h2 h4
  ⟨_, List.mem_flatMap.mpr ⟨p, hp, List.mem_flatMap.mpr ⟨q, hq, List.mem_map.mpr ⟨r, hr, rfl⟩⟩⟩, (h1.app h3).app h5, h6⟩
noncomputable def pos (p : Cn) : List (List Cn × Cn) := [([p], p), ([cadd (-1) (0, []) p], (0, []))]
theorem pos_ok {e : List Int} {p : Cn} {z : Int} (h : (z = p.v e ∧ 0 ≤ p.v e) ∨ (z = 0 ∧ p.v e ≤ 0)) : Is e (pos p) z := by
  rcases h with ⟨rfl, h⟩ | ⟨rfl, h⟩
  · exact ⟨_, .head _, .cons h .nil, rfl⟩
  · exact ⟨_, .tail _ (.head _), .cons (by rw [v_add, v_num]; omega) .nil, v_num ..⟩
noncomputable def Tm.lin (n : Nat) : Tm → Bool → List (List Cn × Cn)
  | .v i, true => if i < n then [([], (0, unit i))] else [([], (0, []))]
  | .v i, false => [([], (0, unit (n + i)))]
  | .n k, _ => [([], ((k : Int), []))]
  | .ad s t, b => bi (s.lin n b) (t.lin n b) fun p q => [([], cadd 1 p q)]
  | .sb s t, true => bi (s.lin n true) (t.lin n true) fun p q => pos (cadd (-1) p q)
  | .sb s t, false => bi (s.lin n false) (t.lin n false) fun p q => [([], cadd (-1) p q)]
  | .ml k t, b => bi (t.lin n b) [([], (0, []))] fun p q => [([], cadd k q p)]
  | .ct _, true => [([], (0, []))]
  | .ct t, false => t.lin n true
  | .tn t, true => bi (t.lin n false) [([], (0, []))] fun p _ => pos p
  | .tn _, false => [([], (0, []))]
  | .ng _, true => [([], (0, []))]
  | .ng t, false => bi (t.lin n false) [([], (0, []))] fun p q => [([], cadd (-1) q p)]
noncomputable def envs (x : List Nat) (y : List Int) : List Int := x.map (fun i : Nat => (i : Int)) ++ y
theorem envs_left (x : List Nat) (y : List Int) (i : Nat) : i < x.length → nti (envs x y) i = (nth x i : Nat) := by
  induction x generalizing i with
  | nil => intro h; cases h
  | cons a x ih => intro h; cases i with
    | zero => rfl
    | succ i => exact ih i (Nat.lt_of_succ_lt_succ h)
theorem nth_out (x : List Nat) : ∀ (i : Nat), ¬ i < x.length → nth x i = 0 := by
  induction x with
  | nil => intro i _; rfl
  | cons a x ih => intro i h; cases i with
    | zero => exact absurd (Nat.succ_pos _) h
    | succ i => exact ih i fun q => h (Nat.succ_lt_succ q)
theorem envs_right (x : List Nat) (y : List Int) (i : Nat) : nti (envs x y) (x.length + i) = nti y i := by
  induction x with
  | nil => show nti y (0 + i) = _; rw [Nat.zero_add]
  | cons a x ih => show nti (_ :: envs x y) (x.length + 1 + i) = _; rw [Nat.succ_add]; exact ih
theorem sub_cases (a b : Nat) : (((a - b : Nat) : Int) = a + -1 * b ∧ 0 ≤ (a : Int) + -1 * b) ∨ (((a - b : Nat) : Int) = 0 ∧ (a : Int) + -1 * b ≤ 0) := by omega
theorem tn_cases (z : Int) : ((z.toNat : Int) = z ∧ 0 ≤ z) ∨ ((z.toNat : Int) = 0 ∧ z ≤ 0) := by omega
theorem less {u v k : Int} (h : u + k ≤ v) : 0 ≤ v + -1 * u + -1 * k := by omega
theorem lin_ok (x : List Nat) (y : List Int) (t : Tm) : Is (envs x y) (t.lin x.length true) ((t.ev x y).1 : Nat) ∧ Is (envs x y) (t.lin x.length false) (t.ev x y).2 := by
  have z0 : Is (envs x y) [([], (0, []))] 0 := Is.one
  induction t with
  | v i =>
    refine ⟨?_, ?_⟩
    · show Is _ (if _ then _ else _) ((nth x i : Nat) : Int)
      by_cases c : i < x.length
      · rw [if_pos c, ← envs_left x y i c, ← v_unit]; exact .one
      · rw [if_neg c, nth_out x i c]; exact z0
    · show Is _ _ (nti y i)
      rw [← envs_right x y i, ← v_unit]; exact .one
  | n k =>
    have : Is (envs x y) [([], ((k : Int), []))] k := (v_num (envs x y) k) ▸ (Is.one (e := envs x y) (p := ((k : Int), [])))
    exact ⟨this, this⟩
  | ad s t hs ht =>
    refine ⟨hs.1.bi ht.1 fun p q h1 h2 => ⟨_, List.mem_singleton.mpr rfl, .nil, ?_⟩, hs.2.bi ht.2 fun p q h1 h2 => ⟨_, List.mem_singleton.mpr rfl, .nil, ?_⟩⟩
    · rw [v_add, h1, h2, Int.one_mul]; rfl
    · rw [v_add, h1, h2, Int.one_mul]; rfl
  | sb s t hs ht =>
    refine ⟨hs.1.bi ht.1 fun p q h1 h2 => pos_ok ?_, hs.2.bi ht.2 fun p q h1 h2 => ⟨_, List.mem_singleton.mpr rfl, .nil, ?_⟩⟩
    · rw [v_add, h1, h2]; exact sub_cases _ _
    · rw [v_add, h1, h2, Int.neg_mul, Int.one_mul]; rfl
  | ml k t ht =>
    refine ⟨ht.1.bi z0 fun p q h1 h2 => ⟨_, List.mem_singleton.mpr rfl, .nil, ?_⟩, ht.2.bi z0 fun p q h1 h2 => ⟨_, List.mem_singleton.mpr rfl, .nil, ?_⟩⟩
    · rw [v_add, h1, h2, Int.zero_add]; rfl
    · rw [v_add, h1, h2, Int.zero_add]; rfl
  | ct t ht => exact ⟨z0, ht.1⟩
  | tn t ht =>
    refine ⟨ht.2.bi z0 fun p q h1 h2 => pos_ok ?_, z0⟩
    rw [h1]; exact tn_cases _
  | ng t ht =>
    refine ⟨z0, ht.2.bi z0 fun p q h1 h2 => ⟨_, List.mem_singleton.mpr rfl, .nil, ?_⟩⟩
    rw [v_add, h1, h2, Int.zero_add, Int.neg_mul, Int.one_mul]; rfl
noncomputable def les (n : Nat) (b : Bool) (s t : Tm) (k : Int) : List (List Cn) := (bi (s.lin n b) (t.lin n b) fun p q => [([cadd (-1) (cadd (-1) q p) (k, [])], (0, []))]).map (·.1)
noncomputable def Case (e : List Int) (l : List (List Cn)) : Prop := ∃ c ∈ l, Holds e c
theorem les_ok {e : List Int} {n : Nat} {b : Bool} {s t : Tm} {u v : Int} (k : Int) (hs : Is e (s.lin n b) u) (ht : Is e (t.lin n b) v) (h : u + k ≤ v) : Case e (les n b s t k) :=
  let ⟨p, hp, h1, _⟩ := Is.bi (z := 0) hs ht (f := fun p q => [([cadd (-1) (cadd (-1) q p) (k, [])], (0, []))]) fun p q h1 h2 => ⟨_, List.mem_singleton.mpr rfl, .cons (by rw [v_add, v_add, h1, h2, v_num]; exact less h) .nil, v_num ..⟩
  ⟨p.1, List.mem_map.mpr ⟨p, hp, rfl⟩, h1⟩
noncomputable def prods (a b : List (List Cn)) : List (List Cn) := a.flatMap fun l => b.map fun m => l ++ m
theorem prods_ok {e : List Int} {a b : List (List Cn)} (h : Case e a) (k : Case e b) : Case e (prods a b) :=
  let ⟨l, hl, h⟩ := h
  let ⟨m, hm, k⟩ := k
  ⟨_, List.mem_flatMap.mpr ⟨l, hl, List.mem_map.mpr ⟨m, hm, rfl⟩⟩, h.app k⟩
theorem left_ok {e : List Int} {a : List (List Cn)} (b : List (List Cn)) (h : Case e a) : Case e (a ++ b) := let ⟨l, hl, h⟩ := h; ⟨l, List.mem_append_left _ hl, h⟩
theorem right_ok {e : List Int} {b : List (List Cn)} (a : List (List Cn)) (h : Case e b) : Case e (a ++ b) := let ⟨l, hl, h⟩ := h; ⟨l, List.mem_append_right _ hl, h⟩
noncomputable def Fm.dnf (n : Nat) : Fm → Bool → List (List Cn)
  | .le b s t, true => les n b s t 0
  | .le b s t, false => les n b t s 1
  | .lt b s t, true => les n b s t 1
  | .lt b s t, false => les n b t s 0
  | .eq b s t, true => prods (les n b s t 0) (les n b t s 0)
  | .eq b s t, false => les n b s t 1 ++ les n b t s 1
  | .no f, b => f.dnf n (!b)
  | .an f g, true => prods (f.dnf n true) (g.dnf n true)
  | .an f g, false => f.dnf n false ++ g.dnf n false
  | .or f g, true => f.dnf n true ++ g.dnf n true
  | .or f g, false => prods (f.dnf n false) (g.dnf n false)
  | .im f g, true => f.dnf n false ++ g.dnf n true
  | .im f g, false => prods (f.dnf n true) (g.dnf n false)
  | .ff, true => []
  | .ff, false => [[]]
theorem dnf_ok (x : List Nat) (y : List Int) (f : Fm) : (f.ev x y → Case (envs x y) (f.dnf x.length true)) ∧ (¬ f.ev x y → Case (envs x y) (f.dnf x.length false)) := by
  have L := lin_ok x y
  induction f with
  | le b s t => cases b with
    | true => exact ⟨fun h => les_ok 0 (L s).1 (L t).1 (Int.ofNat_le.mpr h), fun h => les_ok 1 (L t).1 (L s).1 (Int.ofNat_lt.mpr (Nat.lt_of_not_le h))⟩
    | false => exact ⟨fun h => les_ok 0 (L s).2 (L t).2 ((Int.add_zero _).symm ▸ h), fun h => les_ok 1 (L t).2 (L s).2 (Int.lt_of_not_ge h)⟩
  | lt b s t => cases b with
    | true => exact ⟨fun h => les_ok 1 (L s).1 (L t).1 (Int.ofNat_lt.mpr h), fun h => les_ok 0 (L t).1 (L s).1 (Int.ofNat_le.mpr (Nat.le_of_not_lt h))⟩
    | false => exact ⟨fun h => les_ok 1 (L s).2 (L t).2 h, fun h => les_ok 0 (L t).2 (L s).2 ((Int.add_zero _).symm ▸ Int.le_of_not_gt h)⟩
  | eq b s t => cases b with
    | true =>
      refine ⟨fun h => ?_, fun h => ?_⟩
      · have h : (s.ev x y).1 = (t.ev x y).1 := h
        exact prods_ok (les_ok 0 (L s).1 (L t).1 (Int.ofNat_le.mpr (Nat.le_of_eq h))) (les_ok 0 (L t).1 (L s).1 (Int.ofNat_le.mpr (Nat.le_of_eq h.symm)))
      · exact (Nat.lt_or_gt_of_ne h).elim (fun c => left_ok _ (les_ok 1 (L s).1 (L t).1 (Int.ofNat_lt.mpr c))) fun c => right_ok _ (les_ok 1 (L t).1 (L s).1 (Int.ofNat_lt.mpr c))
    | false =>
      refine ⟨fun h => ?_, fun h => ?_⟩
      · have h : (s.ev x y).2 = (t.ev x y).2 := h
        exact prods_ok (les_ok 0 (L s).2 (L t).2 ((Int.add_zero _).symm ▸ Int.le_of_eq h)) (les_ok 0 (L t).2 (L s).2 ((Int.add_zero _).symm ▸ Int.le_of_eq h.symm))
      · exact (Int.lt_or_gt_of_ne h).elim (fun c => left_ok _ (les_ok 1 (L s).2 (L t).2 c)) fun c => right_ok _ (les_ok 1 (L t).2 (L s).2 c)
  | no f ih => exact ⟨fun h => ih.2 h, fun h => ih.1 (Classical.not_not.mp h)⟩
  | an f g ih1 ih2 =>
    refine ⟨fun h => prods_ok (ih1.1 h.1) (ih2.1 h.2), fun h => ?_⟩
    by_cases c : f.ev x y
    · exact right_ok _ (ih2.2 fun q => h ⟨c, q⟩)
    · exact left_ok _ (ih1.2 c)
  | or f g ih1 ih2 => exact ⟨fun h => h.elim (fun h => left_ok _ (ih1.1 h)) fun h => right_ok _ (ih2.1 h), fun h => prods_ok (ih1.2 fun q => h (.inl q)) (ih2.2 fun q => h (.inr q))⟩
  | im f g ih1 ih2 =>
    refine ⟨fun h => ?_, fun h => prods_ok (ih1.1 (Classical.byContradiction fun c => h fun q => (c q).elim)) (ih2.2 fun q => h fun _ => q)⟩
    by_cases c : f.ev x y
    · exact right_ok _ (ih2.1 (h c))
    · exact left_ok _ (ih1.2 c)
  | ff => exact ⟨False.elim, fun _ => ⟨[], List.mem_singleton.mpr rfl, .nil⟩⟩
noncomputable def units : Nat → List Cn
  | 0 => []
  | i + 1 => (0, unit i) :: units i
theorem units_ok (x : List Nat) (y : List Int) (n : Nat) : n ≤ x.length → Holds (envs x y) (units n) := by
  induction n with
  | zero => exact fun _ => .nil
  | succ n ih => exact fun h => .cons (by rw [v_unit, envs_left x y n h]; exact Int.natCast_nonneg _) (ih (Nat.le_of_lt h))
theorem half1 (n : Nat) : 2 * (n / 2) ≤ n := by omega
theorem half2 (n : Nat) : n < 2 * (n / 2) + 2 := by omega
noncomputable def chk (n m : Nat) (f : Fm) : Bool := (f.dnf n false).all fun l => fm (n + m) (l ++ units n)
/-- what the sums say, holds -/
theorem sums (m : Nat) (f : Fm) (x : List Nat) (y : List Int) (h : chk x.length m f = true) : f.ev x y := Classical.byContradiction fun c =>
  let ⟨l, hl, k⟩ := (dnf_ok x y f).2 c
  fm_no _ _ (envs x y) (List.all_eq_true.mp h l hl) (k.app (units_ok x y _ (Nat.le_refl _)))
/-- the goal put away: destructuring then bears no motive -/
theorem byC {P : Prop} (h : ¬ P → False) : P := Classical.byContradiction h
end
section
set_option maxRecDepth 100000
theorem om1 : ∀ {x0 x1 x2 : Nat}, (x1 = x2) → (x0 < x2) → (x0 < x1) := fun {x0} {x1} {x2} => sums 0 (.im (.eq true (.v 1) (.v 2)) (.im (.lt true (.v 0) (.v 2)) (.lt true (.v 0) (.v 1)))) [x0, x1, x2] [] (by kernel_rfl)
theorem om2 : ∀ {x0 x1 : Nat} {x2 x3 : Nat}, (x2 = x1) → (x3 < x1) → (x0 < x3) → (x0 < x1) := fun {x0} {x1} {x2} {x3} => sums 0 (.im (.eq true (.v 2) (.v 1)) (.im (.lt true (.v 3) (.v 1)) (.im (.lt true (.v 0) (.v 3)) (.lt true (.v 0) (.v 1))))) [x0, x1, x2, x3] [] (by kernel_rfl)
theorem om3 : ∀ {x0 : Nat}, (x0 ≤ 1000) → (x0 ≤ (16777216 + 1)) := fun {x0} => sums 0 (.im (.le true (.v 0) (.n 1000)) (.le true (.v 0) (.ad (.n 16777216) (.n 1)))) [x0] [] (by kernel_rfl)
theorem om4 : ∀ {x0 x1 : Nat}, (x1 ≤ 48) → (x1 = x0) → (x0 ≤ 48) := fun {x0} {x1} => sums 0 (.im (.le true (.v 1) (.n 48)) (.im (.eq true (.v 1) (.v 0)) (.le true (.v 0) (.n 48)))) [x0, x1] [] (by kernel_rfl)
theorem om5 : ∀ {x0 : Int}, ((1 : Int) ≤ x0) → (x0 ≤ (10 : Int)) → ((0 : Int) < x0) := fun {x0} => sums 1 (.im (.le false (.n 1) (.v 0)) (.im (.le false (.v 0) (.n 10)) (.lt false (.n 0) (.v 0)))) [] [x0] (by kernel_rfl)
theorem om6 : ∀ {x0 : Nat}, (x0 < 64) → (x0 ≤ 16777216) := fun {x0} => sums 0 (.im (.lt true (.v 0) (.n 64)) (.le true (.v 0) (.n 16777216))) [x0] [] (by kernel_rfl)
theorem om7 : ∀ {x0 x1 : Nat}, (x1 < 64) → (x0 = x1) → (x0 < 64) := fun {x0} {x1} => sums 0 (.im (.lt true (.v 1) (.n 64)) (.im (.eq true (.v 0) (.v 1)) (.lt true (.v 0) (.n 64)))) [x0, x1] [] (by kernel_rfl)
theorem om8 : ∀ {x0 x1 : Nat}, ((x0 + 0) = x1) → (x0 = x1) := fun {x0} {x1} => sums 0 (.im (.eq true (.ad (.v 0) (.n 0)) (.v 1)) (.eq true (.v 0) (.v 1))) [x0, x1] [] (by kernel_rfl)
theorem om9 : ∀ {x0 x1 x2 : Nat}, ((x0 + (x2 + 1)) = x1) → (x0 < x1) := fun {x0} {x1} {x2} => sums 0 (.im (.eq true (.ad (.v 0) (.ad (.v 2) (.n 1))) (.v 1)) (.lt true (.v 0) (.v 1))) [x0, x1, x2] [] (by kernel_rfl)
theorem om10 : ∀ {x0 x1 x2 : Nat}, ((x0 + (x1 + 1)) = x2) → (((x0 + 1) + x1) = x2) := fun {x0} {x1} {x2} => sums 0 (.im (.eq true (.ad (.v 0) (.ad (.v 1) (.n 1))) (.v 2)) (.eq true (.ad (.ad (.v 0) (.n 1)) (.v 1)) (.v 2))) [x0, x1, x2] [] (by kernel_rfl)
theorem om11 : ∀ {x0 : Nat}, ((0 + x0) = x0) := fun {x0} => sums 0 (.eq true (.ad (.n 0) (.v 0)) (.v 0)) [x0] [] (by kernel_rfl)
theorem om12 : ∀ {x0 x1 x2 : Nat}, (x1 < 64) → (x0 = x2) → (x2 = x1) → (x0 ≤ 16777216) := fun {x0} {x1} {x2} => sums 0 (.im (.lt true (.v 1) (.n 64)) (.im (.eq true (.v 0) (.v 2)) (.im (.eq true (.v 2) (.v 1)) (.le true (.v 0) (.n 16777216))))) [x0, x1, x2] [] (by kernel_rfl)
theorem om13 : ∀ {x0 : Nat}, (x0 < 100000) → (x0 ≤ 16777215) := fun {x0} => sums 0 (.im (.lt true (.v 0) (.n 100000)) (.le true (.v 0) (.n 16777215))) [x0] [] (by kernel_rfl)
theorem om14 : ∀ {x0 x1 : Nat}, ((x0 + x1) < 100000) → (¬ ((x0 + x1) > 16777216)) := fun {x0} {x1} => sums 0 (.im (.lt true (.ad (.v 0) (.v 1)) (.n 100000)) (.no (.lt true (.n 16777216) (.ad (.v 0) (.v 1))))) [x0, x1] [] (by kernel_rfl)
theorem om15 : ∀ {x0 x1 : Nat}, ((x0 + x1) < 100000) → (x0 ≤ 16777216) := fun {x0} {x1} => sums 0 (.im (.lt true (.ad (.v 0) (.v 1)) (.n 100000)) (.le true (.v 0) (.n 16777216))) [x0, x1] [] (by kernel_rfl)
theorem om16 : ∀ {x0 x1 : Nat}, ((x0 + x1) < 100000) → ((x0 + x1) ≤ (16777216 + 1)) := fun {x0} {x1} => sums 0 (.im (.lt true (.ad (.v 0) (.v 1)) (.n 100000)) (.le true (.ad (.v 0) (.v 1)) (.ad (.n 16777216) (.n 1)))) [x0, x1] [] (by kernel_rfl)
theorem om17 : ∀ {x0 : Nat}, (x0 < 100000) → (x0 ≤ 16777216) := fun {x0} => sums 0 (.im (.lt true (.v 0) (.n 100000)) (.le true (.v 0) (.n 16777216))) [x0] [] (by kernel_rfl)
theorem om18 : ∀ {x0 x1 : Nat}, (x0 ≤ (x1 - 1)) → (0 < x1) → ((x0 + 1) ≤ x1) := fun {x0} {x1} => sums 0 (.im (.le true (.v 0) (.sb (.v 1) (.n 1))) (.im (.lt true (.n 0) (.v 1)) (.le true (.ad (.v 0) (.n 1)) (.v 1)))) [x0, x1] [] (by kernel_rfl)
theorem om19 : ∀ {x0 x1 : Nat} {x2 x3 : Nat}, (x0 = ((4 * (x1 - x2)) + (x3 + 1))) → ((x0 - 1) = ((4 * (x1 - x2)) + x3)) := fun {x0} {x1} {x2} {x3} => sums 0 (.im (.eq true (.v 0) (.ad (.ml 4 (.sb (.v 1) (.v 2))) (.ad (.v 3) (.n 1)))) (.eq true (.sb (.v 0) (.n 1)) (.ad (.ml 4 (.sb (.v 1) (.v 2))) (.v 3)))) [x0, x1, x2, x3] [] (by kernel_rfl)
theorem om20 : ∀ {x0 x1 x2 : Nat}, (((x0 + 1) + (3 * (x1 - x2))) ≤ 5000) → ((x0 + (3 * (x1 - x2))) ≤ 5000) := fun {x0} {x1} {x2} => sums 0 (.im (.le true (.ad (.ad (.v 0) (.n 1)) (.ml 3 (.sb (.v 1) (.v 2)))) (.n 5000)) (.le true (.ad (.v 0) (.ml 3 (.sb (.v 1) (.v 2)))) (.n 5000))) [x0, x1, x2] [] (by kernel_rfl)
theorem om21 : ∀ {x0 x1 : Nat}, ((x0 + 1) ≤ x1) → (x0 < x1) := fun {x0} {x1} => sums 0 (.im (.le true (.ad (.v 0) (.n 1)) (.v 1)) (.lt true (.v 0) (.v 1))) [x0, x1] [] (by kernel_rfl)
theorem om22 : ∀ {x0 x1 : Nat} {x2 x3 x4 : Nat}, (x1 < x0) → (x3 ≤ 3) → (x4 = ((4 * (x0 - x1)) + (x2 + 1))) → (((4 * (x0 - (x1 + 1))) + (x2 + x3)) < x4) := fun {x0} {x1} {x2} {x3} {x4} => sums 0 (.im (.lt true (.v 1) (.v 0)) (.im (.le true (.v 3) (.n 3)) (.im (.eq true (.v 4) (.ad (.ml 4 (.sb (.v 0) (.v 1))) (.ad (.v 2) (.n 1)))) (.lt true (.ad (.ml 4 (.sb (.v 0) (.ad (.v 1) (.n 1)))) (.ad (.v 2) (.v 3))) (.v 4))))) [x0, x1, x2, x3, x4] [] (by kernel_rfl)
theorem om23 : ∀ {x0 x1 : Nat} {x2 x3 : Nat}, (x3 < x2) → (x1 ≤ 3) → (((x0 + 1) + (3 * (x2 - x3))) ≤ 5000) → (((x0 + x1) + (3 * (x2 - (x3 + 1)))) ≤ 5000) := fun {x0} {x1} {x2} {x3} => sums 0 (.im (.lt true (.v 3) (.v 2)) (.im (.le true (.v 1) (.n 3)) (.im (.le true (.ad (.ad (.v 0) (.n 1)) (.ml 3 (.sb (.v 2) (.v 3)))) (.n 5000)) (.le true (.ad (.ad (.v 0) (.v 1)) (.ml 3 (.sb (.v 2) (.ad (.v 3) (.n 1))))) (.n 5000))))) [x0, x1, x2, x3] [] (by kernel_rfl)
theorem om24 : ∀ {x0 x1 : Nat}, (x0 < x1) → ((x0 + 1) ≤ x1) := fun {x0} {x1} => sums 0 (.im (.lt true (.v 0) (.v 1)) (.le true (.ad (.v 0) (.n 1)) (.v 1))) [x0, x1] [] (by kernel_rfl)
theorem om25 : ∀ {x0 x1 : Nat}, (x1 ≤ 50) → (x0 ≤ 1000) → ((x0 + (3 * x1)) ≤ 5000) := fun {x0} {x1} => sums 0 (.im (.le true (.v 1) (.n 50)) (.im (.le true (.v 0) (.n 1000)) (.le true (.ad (.v 0) (.ml 3 (.v 1))) (.n 5000)))) [x0, x1] [] (by kernel_rfl)
theorem om26 : ∀ {x0 x1 : Nat}, (x1 ≤ 50) → (x0 ≤ x1) → (x0 < 64) := fun {x0} {x1} => sums 0 (.im (.le true (.v 1) (.n 50)) (.im (.le true (.v 0) (.v 1)) (.lt true (.v 0) (.n 64)))) [x0, x1] [] (by kernel_rfl)
theorem om27 : ∀ {x0 x1 : Nat} {x2 x3 : Nat}, (((x1 + 1) + (3 * (x2 - x3))) ≤ 5000) → (x0 = ((4 * (x2 - x3)) + (x1 + 1))) → ((x0 - 1) < x0) := fun {x0} {x1} {x2} {x3} => sums 0 (.im (.le true (.ad (.ad (.v 1) (.n 1)) (.ml 3 (.sb (.v 2) (.v 3)))) (.n 5000)) (.im (.eq true (.v 0) (.ad (.ml 4 (.sb (.v 2) (.v 3))) (.ad (.v 1) (.n 1)))) (.lt true (.sb (.v 0) (.n 1)) (.v 0)))) [x0, x1, x2, x3] [] (by kernel_rfl)
theorem om28 : ∀ {x0 x1 : Nat}, (x1 ≤ 50) → (x0 ≤ x1) → (x0 < 100000) := fun {x0} {x1} => sums 0 (.im (.le true (.v 1) (.n 50)) (.im (.le true (.v 0) (.v 1)) (.lt true (.v 0) (.n 100000)))) [x0, x1] [] (by kernel_rfl)
theorem om29 : ∀ {x0 x1 : Nat}, ((x0 + 40) < x1) → (((x0 + 1) + 5) < x1) := fun {x0} {x1} => sums 0 (.im (.lt true (.ad (.v 0) (.n 40)) (.v 1)) (.lt true (.ad (.ad (.v 0) (.n 1)) (.n 5)) (.v 1))) [x0, x1] [] (by kernel_rfl)
theorem om30 : ∀ {x0 x1 : Nat}, ((x0 + 400) < x1) → (((x0 + 3) + 50) < x1) := fun {x0} {x1} => sums 0 (.im (.lt true (.ad (.v 0) (.n 400)) (.v 1)) (.lt true (.ad (.ad (.v 0) (.n 3)) (.n 50)) (.v 1))) [x0, x1] [] (by kernel_rfl)
theorem om31 : ∀ {x0 x1 x2 : Nat}, (x1 < 64) → (x0 ≤ x2) → (x2 = x1) → (x0 ≤ 64) := fun {x0} {x1} {x2} => sums 0 (.im (.lt true (.v 1) (.n 64)) (.im (.le true (.v 0) (.v 2)) (.im (.eq true (.v 2) (.v 1)) (.le true (.v 0) (.n 64))))) [x0, x1, x2] [] (by kernel_rfl)
theorem om32 : ∀ {x0 : Nat}, (x0 ≤ 64) → (x0 ≤ 16777216) := fun {x0} => sums 0 (.im (.le true (.v 0) (.n 64)) (.le true (.v 0) (.n 16777216))) [x0] [] (by kernel_rfl)
theorem om33 : ∀ {x0 : Nat}, (x0 ≤ 64) → (x0 ≤ 1000) := fun {x0} => sums 0 (.im (.le true (.v 0) (.n 64)) (.le true (.v 0) (.n 1000))) [x0] [] (by kernel_rfl)
theorem om34 : ∀ {x0 x1 : Nat}, ((x0 + 40) < x1) → (((x0 + 1) + 20) < x1) := fun {x0} {x1} => sums 0 (.im (.lt true (.ad (.v 0) (.n 40)) (.v 1)) (.lt true (.ad (.ad (.v 0) (.n 1)) (.n 20)) (.v 1))) [x0, x1] [] (by kernel_rfl)
theorem om35 : ∀ {x0 x1 : Nat}, ((x0 + 400) < x1) → (((x0 + 3) + 200) < x1) := fun {x0} {x1} => sums 0 (.im (.lt true (.ad (.v 0) (.n 400)) (.v 1)) (.lt true (.ad (.ad (.v 0) (.n 3)) (.n 200)) (.v 1))) [x0, x1] [] (by kernel_rfl)
theorem om36 : ∀ {x0 : Nat}, (x0 ≤ 50) → (x0 ≤ 16777216) := fun {x0} => sums 0 (.im (.le true (.v 0) (.n 50)) (.le true (.v 0) (.n 16777216))) [x0] [] (by kernel_rfl)
theorem om37 : ∀ {x0 : Nat}, (x0 ≤ 500) → (x0 ≤ 1000) := fun {x0} => sums 0 (.im (.le true (.v 0) (.n 500)) (.le true (.v 0) (.n 1000))) [x0] [] (by kernel_rfl)
theorem om38 : ∀ {x0 : Nat}, (x0 ≤ 6) → (x0 < 64) := fun {x0} => sums 0 (.im (.le true (.v 0) (.n 6)) (.lt true (.v 0) (.n 64))) [x0] [] (by kernel_rfl)
theorem om39 : ∀ {x0 : Nat}, (x0 ≤ 3) → (x0 ≤ 1000) := fun {x0} => sums 0 (.im (.le true (.v 0) (.n 3)) (.le true (.v 0) (.n 1000))) [x0] [] (by kernel_rfl)
theorem om40 : ∀ {x0 x1 : Nat}, (x0 < x1) → (x1 ≤ 3) → (x0 < 1000) := fun {x0} {x1} => sums 0 (.im (.lt true (.v 0) (.v 1)) (.im (.le true (.v 1) (.n 3)) (.lt true (.v 0) (.n 1000)))) [x0, x1] [] (by kernel_rfl)
theorem om41 : ∀ {x0 x1 : Nat}, (x0 < x1) → (((x0 : Nat) : Int) < ((x1 : Nat) : Int)) := fun {x0} {x1} => sums 0 (.im (.lt true (.v 0) (.v 1)) (.lt false (.ct (.v 0)) (.ct (.v 1)))) [x0, x1] [] (by kernel_rfl)
theorem om42 : ∀ {x0 : Nat}, (x0 ≤ 3) → (x0 < 1000) := fun {x0} => sums 0 (.im (.le true (.v 0) (.n 3)) (.lt true (.v 0) (.n 1000))) [x0] [] (by kernel_rfl)
theorem om43 : ∀ {x0 : Int}, (x0 < (1000 : Int)) → ((0 : Int) ≤ x0) → ((0 : Int) ≤ (x0 + (1 : Int))) := fun {x0} => sums 1 (.im (.lt false (.v 0) (.n 1000)) (.im (.le false (.n 0) (.v 0)) (.le false (.n 0) (.ad (.v 0) (.n 1))))) [] [x0] (by kernel_rfl)
theorem om44 : ∀ {x0 : Nat}, (x0 ≤ 10) → (x0 ≤ 50) := fun {x0} => sums 0 (.im (.le true (.v 0) (.n 10)) (.le true (.v 0) (.n 50))) [x0] [] (by kernel_rfl)
theorem om45 : ∀ {x0 : Int}, ((0 : Int) ≤ x0) → (x0 < (2 : Int)) → ((x0 = (0 : Int)) ∨ (x0 = (1 : Int))) := fun {x0} => sums 1 (.im (.le false (.n 0) (.v 0)) (.im (.lt false (.v 0) (.n 2)) (.or (.eq false (.v 0) (.n 0)) (.eq false (.v 0) (.n 1))))) [] [x0] (by kernel_rfl)
theorem om46 : ∀ {x0 : Int}, (x0 ≤ (x0 + (1 : Int))) := fun {x0} => sums 1 (.le false (.v 0) (.ad (.v 0) (.n 1))) [] [x0] (by kernel_rfl)
theorem om47 : ∀ {x0 : Int}, ((x0 + (1 : Int)) ≤ (x0 + (1 : Int))) := fun {x0} => sums 1 (.le false (.ad (.v 0) (.n 1)) (.ad (.v 0) (.n 1))) [] [x0] (by kernel_rfl)
theorem om48 : ∀ {x0 x1 : Nat}, (x0 ≤ x1) → ((x0 + 1) ≤ (x1 + 1)) := fun {x0} {x1} => sums 0 (.im (.le true (.v 0) (.v 1)) (.le true (.ad (.v 0) (.n 1)) (.ad (.v 1) (.n 1)))) [x0, x1] [] (by kernel_rfl)
theorem om49 : ∀ {x0 x1 : Int} {x2 x3 x4 : Nat}, ((x1 + (10 : Int)) < (900 : Int)) → (x2 ≤ 10) → (x2 = (x3 + (x4 + 1))) → (x0 ≤ (x1 + ((x3 : Nat) : Int))) → (x0 < (1000 : Int)) := fun {x0} {x1} {x2} {x3} {x4} => sums 2 (.im (.lt false (.ad (.v 1) (.n 10)) (.n 900)) (.im (.le true (.v 0) (.n 10)) (.im (.eq true (.v 0) (.ad (.v 1) (.ad (.v 2) (.n 1)))) (.im (.le false (.v 0) (.ad (.v 1) (.ct (.v 1)))) (.lt false (.v 0) (.n 1000)))))) [x2, x3, x4] [x0, x1] (by kernel_rfl)
theorem om50 : ∀ {x0 x1 : Nat}, (x1 = (x0 + 1)) → (x0 < x1) := fun {x0} {x1} => sums 0 (.im (.eq true (.v 1) (.ad (.v 0) (.n 1))) (.lt true (.v 0) (.v 1))) [x0, x1] [] (by kernel_rfl)
theorem om51 : ∀ {x0 x1 : Int} {x2 x3 x4 : Nat} {x5 : Int}, (x2 ≤ 10) → (x2 = (x3 + (x4 + 1))) → (x0 ≤ x5) → (x5 ≤ (x0 + ((x3 : Nat) : Int))) → (x5 ≤ x1) → (x0 ≤ x1) := fun {x0} {x1} {x2} {x3} {x4} {x5} => sums 3 (.im (.le true (.v 0) (.n 10)) (.im (.eq true (.v 0) (.ad (.v 1) (.ad (.v 2) (.n 1)))) (.im (.le false (.v 0) (.v 2)) (.im (.le false (.v 2) (.ad (.v 0) (.ct (.v 1)))) (.im (.le false (.v 2) (.v 1)) (.le false (.v 0) (.v 1))))))) [x2, x3, x4] [x0, x1, x5] (by kernel_rfl)
theorem om52 : ∀ {x0 : Int} {x1 : Int} {x2 : Nat} {x3 : Int}, (x3 ≤ (x1 + ((x2 : Nat) : Int))) → (x0 ≤ (x3 + (1 : Int))) → (x0 ≤ (x1 + (((x2 : Nat) : Int) + (1 : Int)))) := fun {x0} {x1} {x2} {x3} => sums 3 (.im (.le false (.v 2) (.ad (.v 1) (.ct (.v 0)))) (.im (.le false (.v 0) (.ad (.v 2) (.n 1))) (.le false (.v 0) (.ad (.v 1) (.ad (.ct (.v 0)) (.n 1)))))) [x2] [x0, x1, x3] (by kernel_rfl)
theorem om53 : ∀ {x0 x1 : Int} {x2 : Nat} {x3 : Int} {x4 x5 : Nat}, ((x1 + (10 : Int)) < (900 : Int)) → (x2 ≤ 10) → (x3 = x0) → (x2 = (x4 + (x5 + 1))) → (x0 ≤ (x1 + ((x4 : Nat) : Int))) → (x0 < (1000 : Int)) := fun {x0} {x1} {x2} {x3} {x4} {x5} => sums 3 (.im (.lt false (.ad (.v 1) (.n 10)) (.n 900)) (.im (.le true (.v 0) (.n 10)) (.im (.eq false (.v 2) (.v 0)) (.im (.eq true (.v 0) (.ad (.v 1) (.ad (.v 2) (.n 1)))) (.im (.le false (.v 0) (.ad (.v 1) (.ct (.v 1)))) (.lt false (.v 0) (.n 1000))))))) [x2, x4, x5] [x0, x1, x3] (by kernel_rfl)
theorem om54 : ∀ {x0 : Int} {x1 : Int} {x2 : Int} {x3 : Int}, (x2 = x3) → (x0 ≤ x3) → (x2 ≤ x1) → (x1 ≤ (x2 + (1 : Int))) → (x0 ≤ x1) := fun {x0} {x1} {x2} {x3} => sums 4 (.im (.eq false (.v 2) (.v 3)) (.im (.le false (.v 0) (.v 3)) (.im (.le false (.v 2) (.v 1)) (.im (.le false (.v 1) (.ad (.v 2) (.n 1))) (.le false (.v 0) (.v 1)))))) [] [x0, x1, x2, x3] (by kernel_rfl)
theorem om55 : ∀ {x0 : Int} {x1 : Int} {x2 : Nat} {x3 : Int} {x4 : Int}, (x3 = x4) → (x4 ≤ (x1 + ((x2 : Nat) : Int))) → (x3 ≤ x0) → (x0 ≤ (x3 + (1 : Int))) → (x0 ≤ (x1 + (((x2 : Nat) : Int) + (1 : Int)))) := fun {x0} {x1} {x2} {x3} {x4} => sums 4 (.im (.eq false (.v 2) (.v 3)) (.im (.le false (.v 3) (.ad (.v 1) (.ct (.v 0)))) (.im (.le false (.v 2) (.v 0)) (.im (.le false (.v 0) (.ad (.v 2) (.n 1))) (.le false (.v 0) (.ad (.v 1) (.ad (.ct (.v 0)) (.n 1)))))))) [x2] [x0, x1, x3, x4] (by kernel_rfl)
theorem om56 : ∀ {x0 x1 : Nat} {x2 x3 : Nat}, (x1 ≤ 10) → (x0 = x2) → (x1 = (x2 + x3)) → (x0 ≤ 10) := fun {x0} {x1} {x2} {x3} => sums 0 (.im (.le true (.v 1) (.n 10)) (.im (.eq true (.v 0) (.v 2)) (.im (.eq true (.v 1) (.ad (.v 2) (.v 3))) (.le true (.v 0) (.n 10))))) [x0, x1, x2, x3] [] (by kernel_rfl)
theorem om57 : ∀ {x0 x1 : Nat}, (x1 ≤ 1000) → (x0 < x1) → (x0 < 1000) := fun {x0} {x1} => sums 0 (.im (.le true (.v 1) (.n 1000)) (.im (.lt true (.v 0) (.v 1)) (.lt true (.v 0) (.n 1000)))) [x0, x1] [] (by kernel_rfl)
theorem om58 : ∀ {x0 : Nat}, (x0 < 10) → ((x0 + 1) ≤ 10) := fun {x0} => sums 0 (.im (.lt true (.v 0) (.n 10)) (.le true (.ad (.v 0) (.n 1)) (.n 10))) [x0] [] (by kernel_rfl)
theorem om59 : ∀ {x0 : Nat}, (x0 ≤ 3) → ((1 * (Int.toNat ((x0 : Nat) : Int))) ≤ 256) := fun {x0} => sums 0 (.im (.le true (.v 0) (.n 3)) (.le true (.ml 1 (.tn (.ct (.v 0)))) (.n 256))) [x0] [] (by kernel_rfl)
theorem om60 : ∀ {x0 x1 : Nat}, (x0 = x1) → (x1 ≤ 3) → ((x0 + x1) ≤ 16777216) := fun {x0} {x1} => sums 0 (.im (.eq true (.v 0) (.v 1)) (.im (.le true (.v 1) (.n 3)) (.le true (.ad (.v 0) (.v 1)) (.n 16777216)))) [x0, x1] [] (by kernel_rfl)
theorem om61 : ∀ {x0 : Nat}, (x0 ≤ 3) → (¬ (((x0 : Nat) : Int) < (0 : Int))) := fun {x0} => sums 0 (.im (.le true (.v 0) (.n 3)) (.no (.lt false (.ct (.v 0)) (.n 0)))) [x0] [] (by kernel_rfl)
theorem om62 : ∀ {x0 x1 : Nat}, (x0 = x1) → (x1 ≤ 3) → (x0 ≤ 3) := fun {x0} {x1} => sums 0 (.im (.eq true (.v 0) (.v 1)) (.im (.le true (.v 1) (.n 3)) (.le true (.v 0) (.n 3)))) [x0, x1] [] (by kernel_rfl)
theorem om63 : ∀ {x0 : Int} {x1 : Int}, (x0 ≤ x1) → (x0 ≠ (x1 + (1 : Int))) := fun {x0} {x1} => sums 2 (.im (.le false (.v 0) (.v 1)) (.no (.eq false (.v 0) (.ad (.v 1) (.n 1))))) [] [x0, x1] (by kernel_rfl)
theorem om64 : ∀ {x0 x1 : Nat}, (x0 < x1) → (x0 < x1) := fun {x0} {x1} => sums 0 (.im (.lt true (.v 0) (.v 1)) (.lt true (.v 0) (.v 1))) [x0, x1] [] (by kernel_rfl)
theorem om65 : ∀ {x0 x1 : Nat}, (x1 < x0) → (((x0 + 1) - (x1 + 1)) < ((x0 + 1) - x1)) := fun {x0} {x1} => sums 0 (.im (.lt true (.v 1) (.v 0)) (.lt true (.sb (.ad (.v 0) (.n 1)) (.ad (.v 1) (.n 1))) (.sb (.ad (.v 0) (.n 1)) (.v 1)))) [x0, x1] [] (by kernel_rfl)
theorem om66 : ∀ {x0 x1 : Nat}, (x0 ≤ x1) → (¬ (x0 < x1)) → (x0 = x1) := fun {x0} {x1} => sums 0 (.im (.le true (.v 0) (.v 1)) (.im (.no (.lt true (.v 0) (.v 1))) (.eq true (.v 0) (.v 1)))) [x0, x1] [] (by kernel_rfl)
theorem om67 : ∀ {x0 : Nat}, (x0 < 1000) → (x0 ≤ 16777216) := fun {x0} => sums 0 (.im (.lt true (.v 0) (.n 1000)) (.le true (.v 0) (.n 16777216))) [x0] [] (by kernel_rfl)
theorem om68 : ∀ {x0 : Nat}, ((x0 + 1) ≠ (((x0 + 1) + 1) + 1)) := fun {x0} => sums 0 (.no (.eq true (.ad (.v 0) (.n 1)) (.ad (.ad (.ad (.v 0) (.n 1)) (.n 1)) (.n 1)))) [x0] [] (by kernel_rfl)
theorem om69 : ∀ {x0 : Nat}, (((x0 + 1) + 1) ≠ (((x0 + 1) + 1) + 1)) := fun {x0} => sums 0 (.no (.eq true (.ad (.ad (.v 0) (.n 1)) (.n 1)) (.ad (.ad (.ad (.v 0) (.n 1)) (.n 1)) (.n 1)))) [x0] [] (by kernel_rfl)
theorem om70 : ∀ {x0 : Nat}, (((((x0 + 1) + 1) + 1) + 1) ≠ (((x0 + 1) + 1) + 1)) := fun {x0} => sums 0 (.no (.eq true (.ad (.ad (.ad (.ad (.v 0) (.n 1)) (.n 1)) (.n 1)) (.n 1)) (.ad (.ad (.ad (.v 0) (.n 1)) (.n 1)) (.n 1)))) [x0] [] (by kernel_rfl)
theorem om71 : ∀ {x0 : Nat}, ((x0 + 1) ≠ ((((x0 + 1) + 1) + 1) + 1)) := fun {x0} => sums 0 (.no (.eq true (.ad (.v 0) (.n 1)) (.ad (.ad (.ad (.ad (.v 0) (.n 1)) (.n 1)) (.n 1)) (.n 1)))) [x0] [] (by kernel_rfl)
theorem om72 : ∀ {x0 : Nat}, (((x0 + 1) + 1) ≠ ((((x0 + 1) + 1) + 1) + 1)) := fun {x0} => sums 0 (.no (.eq true (.ad (.ad (.v 0) (.n 1)) (.n 1)) (.ad (.ad (.ad (.ad (.v 0) (.n 1)) (.n 1)) (.n 1)) (.n 1)))) [x0] [] (by kernel_rfl)
theorem om73 : ∀ {x0 : Nat}, ((((x0 + 1) + 1) + 1) ≠ ((((x0 + 1) + 1) + 1) + 1)) := fun {x0} => sums 0 (.no (.eq true (.ad (.ad (.ad (.v 0) (.n 1)) (.n 1)) (.n 1)) (.ad (.ad (.ad (.ad (.v 0) (.n 1)) (.n 1)) (.n 1)) (.n 1)))) [x0] [] (by kernel_rfl)
theorem om74 : ∀ {x0 : Nat}, (530 < x0) → ((530 ≠ ((((x0 + 1) + 1) + 1) + 1)) ∧ (530 ≠ (((x0 + 1) + 1) + 1))) := fun {x0} => sums 0 (.im (.lt true (.n 530) (.v 0)) (.an (.no (.eq true (.n 530) (.ad (.ad (.ad (.ad (.v 0) (.n 1)) (.n 1)) (.n 1)) (.n 1)))) (.no (.eq true (.n 530) (.ad (.ad (.ad (.v 0) (.n 1)) (.n 1)) (.n 1)))))) [x0] [] (by kernel_rfl)
theorem om75 : ∀ {x0 x1 : Nat}, (((((x0 + 1) + 1) + 1) + 1) < x1) → (((x0 + 1) ≠ x1) ∧ ((((x0 + 1) + 1) ≠ x1) ∧ (((((x0 + 1) + 1) + 1) ≠ x1) ∧ (((((x0 + 1) + 1) + 1) + 1) ≠ x1)))) := fun {x0} {x1} => sums 0 (.im (.lt true (.ad (.ad (.ad (.ad (.v 0) (.n 1)) (.n 1)) (.n 1)) (.n 1)) (.v 1)) (.an (.no (.eq true (.ad (.v 0) (.n 1)) (.v 1))) (.an (.no (.eq true (.ad (.ad (.v 0) (.n 1)) (.n 1)) (.v 1))) (.an (.no (.eq true (.ad (.ad (.ad (.v 0) (.n 1)) (.n 1)) (.n 1)) (.v 1))) (.no (.eq true (.ad (.ad (.ad (.ad (.v 0) (.n 1)) (.n 1)) (.n 1)) (.n 1)) (.v 1))))))) [x0, x1] [] (by kernel_rfl)
theorem om76 : ∀ {x0 x1 : Nat}, (530 < x1) → (((((x1 + 1) + 1) + 1) + 1) < x0) → (530 ≠ x0) := fun {x0} {x1} => sums 0 (.im (.lt true (.n 530) (.v 1)) (.im (.lt true (.ad (.ad (.ad (.ad (.v 1) (.n 1)) (.n 1)) (.n 1)) (.n 1)) (.v 0)) (.no (.eq true (.n 530) (.v 0))))) [x0, x1] [] (by kernel_rfl)
theorem om77 : ∀ {x0 : Nat}, (x0 ≤ 3) → (4 ≤ x0) → False := fun {x0} => sums 0 (.im (.le true (.v 0) (.n 3)) (.im (.le true (.n 4) (.v 0)) .ff)) [x0] [] (by kernel_rfl)
theorem om78 : ∀ {x0 x1 : Nat} {x2 : Int}, ((((x0 + 1) : Nat) : Int) = x2) → (x0 < x1) → ((((x0 + 1) : Nat) : Int) ≤ ((x1 : Nat) : Int)) := fun {x0} {x1} {x2} => sums 1 (.im (.eq false (.ct (.ad (.v 0) (.n 1))) (.v 0)) (.im (.lt true (.v 0) (.v 1)) (.le false (.ct (.ad (.v 0) (.n 1))) (.ct (.v 1))))) [x0, x1] [x2] (by kernel_rfl)
theorem om79 : ∀ {x0 x1 : Nat}, (x0 ≤ x1) → (x0 ≤ x1) := fun {x0} {x1} => sums 0 (.im (.le true (.v 0) (.v 1)) (.le true (.v 0) (.v 1))) [x0, x1] [] (by kernel_rfl)
theorem om80 : ∀ {x0 x1 : Nat}, (x0 = x1) → (x1 ≤ 3) → (x0 ≤ 16777216) := fun {x0} {x1} => sums 0 (.im (.eq true (.v 0) (.v 1)) (.im (.le true (.v 1) (.n 3)) (.le true (.v 0) (.n 16777216)))) [x0, x1] [] (by kernel_rfl)
theorem om81 : ∀ {x0 x1 : Nat} {x2 x3 : Nat}, (x1 < 2) → (x2 ≤ 3) → (x0 ≤ ((3 * x1) + x3)) → (x3 < x2) → (x0 < 10) := fun {x0} {x1} {x2} {x3} => sums 0 (.im (.lt true (.v 1) (.n 2)) (.im (.le true (.v 2) (.n 3)) (.im (.le true (.v 0) (.ad (.ml 3 (.v 1)) (.v 3))) (.im (.lt true (.v 3) (.v 2)) (.lt true (.v 0) (.n 10)))))) [x0, x1, x2, x3] [] (by kernel_rfl)
theorem om82 : ∀ {x0 x1 : Nat} {x2 x3 : Nat}, (x1 ≤ 3) → (x0 = x2) → (x3 < x1) → (x2 = x3) → (x0 < 900) := fun {x0} {x1} {x2} {x3} => sums 0 (.im (.le true (.v 1) (.n 3)) (.im (.eq true (.v 0) (.v 2)) (.im (.lt true (.v 3) (.v 1)) (.im (.eq true (.v 2) (.v 3)) (.lt true (.v 0) (.n 900)))))) [x0, x1, x2, x3] [] (by kernel_rfl)
theorem om83 : ∀ {x0 x1 : Nat} {x2 x3 : Nat} {x4 x5 : Nat}, (x2 < 2) → (x3 ≤ 3) → (x0 = x4) → (x1 = x5) → (x4 = x3) → (x5 ≤ (3 * x2)) → ((x0 + x1) ≤ 16777216) := fun {x0} {x1} {x2} {x3} {x4} {x5} => sums 0 (.im (.lt true (.v 2) (.n 2)) (.im (.le true (.v 3) (.n 3)) (.im (.eq true (.v 0) (.v 4)) (.im (.eq true (.v 1) (.v 5)) (.im (.eq true (.v 4) (.v 3)) (.im (.le true (.v 5) (.ml 3 (.v 2))) (.le true (.ad (.v 0) (.v 1)) (.n 16777216)))))))) [x0, x1, x2, x3, x4, x5] [] (by kernel_rfl)
theorem om84 : ∀ {x0 x1 : Nat} {x2 x3 : Nat}, (x2 ≤ 3) → (x3 = x2) → (x0 ≤ ((3 * x1) + x2)) → (x0 ≤ (3 * (x1 + 1))) := fun {x0} {x1} {x2} {x3} => sums 0 (.im (.le true (.v 2) (.n 3)) (.im (.eq true (.v 3) (.v 2)) (.im (.le true (.v 0) (.ad (.ml 3 (.v 1)) (.v 2))) (.le true (.v 0) (.ml 3 (.ad (.v 1) (.n 1))))))) [x0, x1, x2, x3] [] (by kernel_rfl)
theorem om85 : ∀ {x0 : Int} {x1 : Nat}, (x1 < 2) → (x0 ≤ ((1 : Int) + ((4 : Int) * ((x1 : Nat) : Int)))) → (x0 < (1000 : Int)) := fun {x0} {x1} => sums 1 (.im (.lt true (.v 0) (.n 2)) (.im (.le false (.v 0) (.ad (.n 1) (.ml 4 (.ct (.v 0))))) (.lt false (.v 0) (.n 1000)))) [x1] [x0] (by kernel_rfl)
theorem om86 : ∀ {x0 : Int}, ((0 : Int) ≤ x0) → (x0 < (4 : Int)) → ((Int.toNat x0) ≤ 16777216) := fun {x0} => sums 1 (.im (.le false (.n 0) (.v 0)) (.im (.lt false (.v 0) (.n 4)) (.le true (.tn (.v 0)) (.n 16777216)))) [] [x0] (by kernel_rfl)
theorem om87 : ∀ {x0 : Int} {x1 : Nat} {x2 : Int} {x3 x4 : Nat} {x5 : Int} {x6 x7 x8 : Nat}, (x1 < 2) → ((0 : Int) ≤ x2) → (x2 < (4 : Int)) → (x3 < (Int.toNat x2)) → (x4 = x3) → (x0 = ((x5 + (1 : Int)) + ((x3 : Nat) : Int))) → ((x6 ≠ x7) ∧ ((x6 ≠ x8) ∧ (x7 ≠ x8))) → (x5 ≤ ((1 : Int) + ((4 : Int) * ((x1 : Nat) : Int)))) → (x0 < (1000 : Int)) := fun {x0} {x1} {x2} {x3} {x4} {x5} {x6} {x7} {x8} => sums 3 (.im (.lt true (.v 0) (.n 2)) (.im (.le false (.n 0) (.v 1)) (.im (.lt false (.v 1) (.n 4)) (.im (.lt true (.v 1) (.tn (.v 1))) (.im (.eq true (.v 2) (.v 1)) (.im (.eq false (.v 0) (.ad (.ad (.v 2) (.n 1)) (.ct (.v 1)))) (.im (.an (.no (.eq true (.v 3) (.v 4))) (.an (.no (.eq true (.v 3) (.v 5))) (.no (.eq true (.v 4) (.v 5))))) (.im (.le false (.v 2) (.ad (.n 1) (.ml 4 (.ct (.v 0))))) (.lt false (.v 0) (.n 1000)))))))))) [x1, x3, x4, x6, x7, x8] [x0, x2, x5] (by kernel_rfl)
theorem om88 : ∀ {x0 x1 : Int} {x2 x3 : Nat}, (x3 = x2) → (x0 = ((x1 + (1 : Int)) + ((x2 : Nat) : Int))) → ((x0 + (1 : Int)) = ((x1 + (1 : Int)) + (((x2 + 1) : Nat) : Int))) := fun {x0} {x1} {x2} {x3} => sums 2 (.im (.eq true (.v 1) (.v 0)) (.im (.eq false (.v 0) (.ad (.ad (.v 1) (.n 1)) (.ct (.v 0)))) (.eq false (.ad (.v 0) (.n 1)) (.ad (.ad (.v 1) (.n 1)) (.ct (.ad (.v 0) (.n 1))))))) [x2, x3] [x0, x1] (by kernel_rfl)
theorem om89 : ∀ {x0 : Nat} {x1 : Int} {x2 : Int} {x3 : Int}, ((0 : Int) ≤ x1) → (x1 < (4 : Int)) → (x0 = (Int.toNat x1)) → (x2 = ((x3 + (1 : Int)) + (((Int.toNat x1) : Nat) : Int))) → (x0 ≤ 3) := fun {x0} {x1} {x2} {x3} => sums 3 (.im (.le false (.n 0) (.v 0)) (.im (.lt false (.v 0) (.n 4)) (.im (.eq true (.v 0) (.tn (.v 0))) (.im (.eq false (.v 1) (.ad (.ad (.v 2) (.n 1)) (.ct (.tn (.v 0))))) (.le true (.v 0) (.n 3)))))) [x0] [x1, x2, x3] (by kernel_rfl)
theorem om90 : ∀ {x0 : Int} {x1 : Int} {x2 : Int} {x3 : Int} {x4 : Int}, ((0 : Int) ≤ x1) → (x1 < (4 : Int)) → (x2 = ((x3 + (1 : Int)) + (((Int.toNat x1) : Nat) : Int))) → (x0 = x4) → (x3 ≤ ((1 : Int) + ((4 : Int) * (0 : Int)))) → (x0 = x2) → (x0 ≤ ((1 : Int) + ((4 : Int) * (((0 + 1) : Nat) : Int)))) := fun {x0} {x1} {x2} {x3} {x4} => sums 5 (.im (.le false (.n 0) (.v 1)) (.im (.lt false (.v 1) (.n 4)) (.im (.eq false (.v 2) (.ad (.ad (.v 3) (.n 1)) (.ct (.tn (.v 1))))) (.im (.eq false (.v 0) (.v 4)) (.im (.le false (.v 3) (.ad (.n 1) (.ml 4 (.n 0)))) (.im (.eq false (.v 0) (.v 2)) (.le false (.v 0) (.ad (.n 1) (.ml 4 (.ct (.ad (.n 0) (.n 1)))))))))))) [] [x0, x1, x2, x3, x4] (by kernel_rfl)
theorem om91 : ∀ {x0 : Int} {x1 : Int} {x2 : Int} {x3 : Int} {x4 : Int}, ((0 : Int) ≤ x1) → (x1 < (4 : Int)) → (x2 = ((x3 + (1 : Int)) + (((Int.toNat x1) : Nat) : Int))) → (x0 = x4) → (x3 ≤ ((1 : Int) + ((4 : Int) * (1 : Int)))) → (x0 = x2) → (x0 ≤ ((1 : Int) + ((4 : Int) * (((1 + 1) : Nat) : Int)))) := fun {x0} {x1} {x2} {x3} {x4} => sums 5 (.im (.le false (.n 0) (.v 1)) (.im (.lt false (.v 1) (.n 4)) (.im (.eq false (.v 2) (.ad (.ad (.v 3) (.n 1)) (.ct (.tn (.v 1))))) (.im (.eq false (.v 0) (.v 4)) (.im (.le false (.v 3) (.ad (.n 1) (.ml 4 (.n 1)))) (.im (.eq false (.v 0) (.v 2)) (.le false (.v 0) (.ad (.n 1) (.ml 4 (.ct (.ad (.n 1) (.n 1)))))))))))) [] [x0, x1, x2, x3, x4] (by kernel_rfl)
theorem om92 : ∀ {x0 : Int} {x1 : Int} {x2 : Nat} {x3 : Int}, (x2 ≤ 6) → (x0 ≤ (x3 + ((x2 : Nat) : Int))) → (x3 ≤ x1) → (x0 ≤ (x1 + (6 : Int))) := fun {x0} {x1} {x2} {x3} => sums 3 (.im (.le true (.v 0) (.n 6)) (.im (.le false (.v 0) (.ad (.v 2) (.ct (.v 0)))) (.im (.le false (.v 2) (.v 1)) (.le false (.v 0) (.ad (.v 1) (.n 6)))))) [x2] [x0, x1, x3] (by kernel_rfl)
theorem om93 : ∀ {x0 x1 : Nat}, (x0 = x1) → (x1 ≤ (3 * 2)) → (x0 ≤ 6) := fun {x0} {x1} => sums 0 (.im (.eq true (.v 0) (.v 1)) (.im (.le true (.v 1) (.ml 3 (.n 2))) (.le true (.v 0) (.n 6)))) [x0, x1] [] (by kernel_rfl)
theorem om94 : ∀ {x0 : Nat}, (x0 ≤ (3 * 2)) → (x0 ≤ 6) := fun {x0} => sums 0 (.im (.le true (.v 0) (.ml 3 (.n 2))) (.le true (.v 0) (.n 6))) [x0] [] (by kernel_rfl)
theorem om95 : ∀ {x0 x1 : Nat}, (x1 = x0) → (x0 ≤ (3 * 2)) → (x0 ≤ 10) := fun {x0} {x1} => sums 0 (.im (.eq true (.v 1) (.v 0)) (.im (.le true (.v 0) (.ml 3 (.n 2))) (.le true (.v 0) (.n 10)))) [x0, x1] [] (by kernel_rfl)
theorem om96 : ∀ {x0 : Int}, (x0 ≤ (9 : Int)) → ((x0 + (10 : Int)) < (900 : Int)) := fun {x0} => sums 1 (.im (.le false (.v 0) (.n 9)) (.lt false (.ad (.v 0) (.n 10)) (.n 900))) [] [x0] (by kernel_rfl)
theorem om97 : ∀ {x0 : Nat}, (x0 ≤ 6) → (x0 ≤ 16777216) := fun {x0} => sums 0 (.im (.le true (.v 0) (.n 6)) (.le true (.v 0) (.n 16777216))) [x0] [] (by kernel_rfl)
theorem om98 : ∀ {x0 : Int}, (x0 ≤ ((9 : Int) + (6 : Int))) → ((x0 + (10 : Int)) < (900 : Int)) := fun {x0} => sums 1 (.im (.le false (.v 0) (.ad (.n 9) (.n 6))) (.lt false (.ad (.v 0) (.n 10)) (.n 900))) [] [x0] (by kernel_rfl)
theorem om99 : ∀ {x0 : Nat}, (x0 ≤ 6) → (x0 ≤ 6) := fun {x0} => sums 0 (.im (.le true (.v 0) (.n 6)) (.le true (.v 0) (.n 6))) [x0] [] (by kernel_rfl)
theorem om100 : ∀ {x0 : Nat}, (((x0 : Nat) : Int) = (0 : Int)) → (((x0 : Nat) : Int) ≠ (0 : Int)) → False := fun {x0} => sums 0 (.im (.eq false (.ct (.v 0)) (.n 0)) (.im (.no (.eq false (.ct (.v 0)) (.n 0))) .ff)) [x0] [] (by kernel_rfl)
theorem om101 : ∀ {x0 x1 : Nat}, ((((x0 + 1) : Nat) : Int) = (((x1 + 1) : Nat) : Int)) → (x0 = x1) := fun {x0} {x1} => sums 0 (.im (.eq false (.ct (.ad (.v 0) (.n 1))) (.ct (.ad (.v 1) (.n 1)))) (.eq true (.v 0) (.v 1))) [x0, x1] [] (by kernel_rfl)
theorem om102 : ∀ {x0 : Nat}, (x0 ≤ 6) → (x0 < 10) := fun {x0} => sums 0 (.im (.le true (.v 0) (.n 6)) (.lt true (.v 0) (.n 10))) [x0] [] (by kernel_rfl)
theorem om103 : ∀ {x0 x1 : Nat}, (x0 = (x1 + 1)) → (x1 ≤ 5) → (x0 ≤ 6) := fun {x0} {x1} => sums 0 (.im (.eq true (.v 0) (.ad (.v 1) (.n 1))) (.im (.le true (.v 1) (.n 5)) (.le true (.v 0) (.n 6)))) [x0, x1] [] (by kernel_rfl)
theorem om104 : ∀ {x0 : Nat}, (x0 ≤ 5) → (x0 ≤ 9) := fun {x0} => sums 0 (.im (.le true (.v 0) (.n 5)) (.le true (.v 0) (.n 9))) [x0] [] (by kernel_rfl)
theorem om105 : ∀ {x0 x1 : Nat}, (x0 = (x1 + 1)) → (x1 ≤ 5) → ((1 + (x0 - 1)) ≤ 16777216) := fun {x0} {x1} => sums 0 (.im (.eq true (.v 0) (.ad (.v 1) (.n 1))) (.im (.le true (.v 1) (.n 5)) (.le true (.ad (.n 1) (.sb (.v 0) (.n 1))) (.n 16777216)))) [x0, x1] [] (by kernel_rfl)
theorem om106 : ∀ {x0 x1 : Nat}, (x0 ≤ 6) → (x1 = x0) → (x0 ≤ 10) := fun {x0} {x1} => sums 0 (.im (.le true (.v 0) (.n 6)) (.im (.eq true (.v 1) (.v 0)) (.le true (.v 0) (.n 10)))) [x0, x1] [] (by kernel_rfl)
theorem om107 : ∀ {x0 : Int} {x1 : Int}, (x0 = x1) → (x1 ≤ (21 : Int)) → ((0 : Int) ≤ x1) → ((x0 + (10 : Int)) < (900 : Int)) := fun {x0} {x1} => sums 2 (.im (.eq false (.v 0) (.v 1)) (.im (.le false (.v 1) (.n 21)) (.im (.le false (.n 0) (.v 1)) (.lt false (.ad (.v 0) (.n 10)) (.n 900))))) [] [x0, x1] (by kernel_rfl)
theorem om108 : ∀ {x0 : Nat} {x1 : Int} {x2 : Int} {x3 : Int} {x4 : Nat} {x5 : Int}, (x1 = ((x0 : Nat) : Int)) → (x2 = (x3 + (1 : Int))) → (x0 ≤ 6) → (x4 = x0) → (x3 = x1) → (x5 = (x3 + (1 : Int))) → (x0 ≤ 10) := fun {x0} {x1} {x2} {x3} {x4} {x5} => sums 4 (.im (.eq false (.v 0) (.ct (.v 0))) (.im (.eq false (.v 1) (.ad (.v 2) (.n 1))) (.im (.le true (.v 0) (.n 6)) (.im (.eq true (.v 1) (.v 0)) (.im (.eq false (.v 2) (.v 0)) (.im (.eq false (.v 3) (.ad (.v 2) (.n 1))) (.le true (.v 0) (.n 10)))))))) [x0, x4] [x1, x2, x3, x5] (by kernel_rfl)
theorem om109 : ∀ {x0 : Int} {x1 : Int} {x2 : Nat} {x3 : Int} {x4 : Int} {x5 : Nat} {x6 : Int} {x7 : Int} {x8 : Int}, (x1 = ((x2 : Nat) : Int)) → (x3 = (x4 + (1 : Int))) → (x2 ≤ 6) → (x5 = x2) → (x4 = x1) → (x6 = x7) → (x8 = (x4 + (1 : Int))) → (x7 ≤ (21 : Int)) → ((0 : Int) ≤ x7) → (x0 ≤ (x7 + ((x2 : Nat) : Int))) → (x0 ≤ (30 : Int)) := fun {x0} {x1} {x2} {x3} {x4} {x5} {x6} {x7} {x8} => sums 7 (.im (.eq false (.v 1) (.ct (.v 0))) (.im (.eq false (.v 2) (.ad (.v 3) (.n 1))) (.im (.le true (.v 0) (.n 6)) (.im (.eq true (.v 1) (.v 0)) (.im (.eq false (.v 3) (.v 1)) (.im (.eq false (.v 4) (.v 5)) (.im (.eq false (.v 6) (.ad (.v 3) (.n 1))) (.im (.le false (.v 5) (.n 21)) (.im (.le false (.n 0) (.v 5)) (.im (.le false (.v 0) (.ad (.v 5) (.ct (.v 0)))) (.le false (.v 0) (.n 30)))))))))))) [x2, x5] [x0, x1, x3, x4, x6, x7, x8] (by kernel_rfl)
theorem om110 : ∀ {x0 x1 x2 : Nat}, (x2 < x1) → (x0 ≤ x2) → (x0 ≤ x1) := fun {x0} {x1} {x2} => sums 0 (.im (.lt true (.v 2) (.v 1)) (.im (.le true (.v 0) (.v 2)) (.le true (.v 0) (.v 1)))) [x0, x1, x2] [] (by kernel_rfl)
theorem om111 : ∀ {x0 x1 x2 : Nat}, (x0 < x2) → (x2 < x1) → (x0 < x1) := fun {x0} {x1} {x2} => sums 0 (.im (.lt true (.v 0) (.v 2)) (.im (.lt true (.v 2) (.v 1)) (.lt true (.v 0) (.v 1)))) [x0, x1, x2] [] (by kernel_rfl)
theorem om112 : ∀ {x0 x1 x2 : Nat}, (x2 < x1) → (x0 ≤ (((x0 + x1) - 1) - x2)) := fun {x0} {x1} {x2} => sums 0 (.im (.lt true (.v 2) (.v 1)) (.le true (.v 0) (.sb (.sb (.ad (.v 0) (.v 1)) (.n 1)) (.v 2)))) [x0, x1, x2] [] (by kernel_rfl)
theorem om113 : ∀ {x0 x1 : Nat} {x2 x3 : Nat}, (x3 < x2) → (x2 < x1) → ((((x0 + x1) - 1) - x2) < (((x0 + x1) - 1) - x3)) := fun {x0} {x1} {x2} {x3} => sums 0 (.im (.lt true (.v 3) (.v 2)) (.im (.lt true (.v 2) (.v 1)) (.lt true (.sb (.sb (.ad (.v 0) (.v 1)) (.n 1)) (.v 2)) (.sb (.sb (.ad (.v 0) (.v 1)) (.n 1)) (.v 3))))) [x0, x1, x2, x3] [] (by kernel_rfl)
theorem om114 : ∀ {x0 x1 : Nat} {x2 x3 : Nat}, (x2 < x3) → (x3 < x1) → (x0 ≤ x2) → ((((x0 + x1) - 1) - x2) < x1) := fun {x0} {x1} {x2} {x3} => sums 0 (.im (.lt true (.v 2) (.v 3)) (.im (.lt true (.v 3) (.v 1)) (.im (.le true (.v 0) (.v 2)) (.lt true (.sb (.sb (.ad (.v 0) (.v 1)) (.n 1)) (.v 2)) (.v 1))))) [x0, x1, x2, x3] [] (by kernel_rfl)
theorem om115 : ∀ {x0 x1 x2 : Nat}, (¬ (x0 ≤ x1)) → (¬ ((x0 ≤ x1) ∧ (x1 < x2))) := fun {x0} {x1} {x2} => sums 0 (.im (.no (.le true (.v 0) (.v 1))) (.no (.an (.le true (.v 0) (.v 1)) (.lt true (.v 1) (.v 2))))) [x0, x1, x2] [] (by kernel_rfl)
theorem om116 : ∀ {x0 x1 : Nat}, (¬ (x1 ≤ x0)) → (x0 < x1) := fun {x0} {x1} => sums 0 (.im (.no (.le true (.v 1) (.v 0))) (.lt true (.v 0) (.v 1))) [x0, x1] [] (by kernel_rfl)
theorem om117 : ∀ {x0 x1 : Nat} {x2 x3 : Nat}, (x2 < x1) → (¬ (x0 ≤ x3)) → (x0 ≤ (((x0 + x1) - 1) - x2)) := fun {x0} {x1} {x2} {x3} => sums 0 (.im (.lt true (.v 2) (.v 1)) (.im (.no (.le true (.v 0) (.v 3))) (.le true (.v 0) (.sb (.sb (.ad (.v 0) (.v 1)) (.n 1)) (.v 2))))) [x0, x1, x2, x3] [] (by kernel_rfl)
theorem om118 : ∀ {x0 x1 : Nat} {x2 x3 : Nat}, (x2 < x1) → (¬ (x0 ≤ x3)) → (x0 ≤ x2) → ((((x0 + x1) - 1) - x2) < x1) := fun {x0} {x1} {x2} {x3} => sums 0 (.im (.lt true (.v 2) (.v 1)) (.im (.no (.le true (.v 0) (.v 3))) (.im (.le true (.v 0) (.v 2)) (.lt true (.sb (.sb (.ad (.v 0) (.v 1)) (.n 1)) (.v 2)) (.v 1))))) [x0, x1, x2, x3] [] (by kernel_rfl)
theorem om119 : ∀ {x0 x1 : Nat}, (x0 < x1) → (x0 ≤ (x1 - 1)) := fun {x0} {x1} => sums 0 (.im (.lt true (.v 0) (.v 1)) (.le true (.v 0) (.sb (.v 1) (.n 1)))) [x0, x1] [] (by kernel_rfl)
theorem om120 : ∀ {x0 x1 : Nat}, (x1 < x0) → ((x0 - 1) < x0) := fun {x0} {x1} => sums 0 (.im (.lt true (.v 1) (.v 0)) (.lt true (.sb (.v 0) (.n 1)) (.v 0))) [x0, x1] [] (by kernel_rfl)
theorem om121 : ∀ {x0 x1 : Nat}, (¬ (x1 < x0)) → (x0 ≤ x1) := fun {x0} {x1} => sums 0 (.im (.no (.lt true (.v 1) (.v 0))) (.le true (.v 0) (.v 1))) [x0, x1] [] (by kernel_rfl)
theorem om122 : ∀ {x0 x1 x2 : Nat}, (x0 < x1) → (x2 < x1) → (¬ (x0 = (x1 - 1))) → (x0 < (x1 - 1)) := fun {x0} {x1} {x2} => sums 0 (.im (.lt true (.v 0) (.v 1)) (.im (.lt true (.v 2) (.v 1)) (.im (.no (.eq true (.v 0) (.sb (.v 1) (.n 1)))) (.lt true (.v 0) (.sb (.v 1) (.n 1)))))) [x0, x1, x2] [] (by kernel_rfl)
theorem om123 : ∀ {x0 : Nat}, (x0 < (x0 + 1)) := fun {x0} => sums 0 (.lt true (.v 0) (.ad (.v 0) (.n 1))) [x0] [] (by kernel_rfl)
theorem om124 : ∀ {x0 x1 : Int} {x2 x3 : Nat} {x4 x5 x6 : Nat}, (x4 ≤ x5) → (x5 < x6) → (x6 < (x4 + 1)) → ((x0 = x1) ∧ (x2 < x3)) := fun {x0} {x1} {x2} {x3} {x4} {x5} {x6} => sums 2 (.im (.le true (.v 2) (.v 3)) (.im (.lt true (.v 3) (.v 4)) (.im (.lt true (.v 4) (.ad (.v 2) (.n 1))) (.an (.eq false (.v 0) (.v 1)) (.lt true (.v 0) (.v 1)))))) [x2, x3, x4, x5, x6] [x0, x1] (by kernel_rfl)
theorem om125 : ∀ {x0 x1 : Nat}, (x1 ≤ x0) → (x0 < (x1 + 1)) → (x0 = x1) := fun {x0} {x1} => sums 0 (.im (.le true (.v 1) (.v 0)) (.im (.lt true (.v 0) (.ad (.v 1) (.n 1))) (.eq true (.v 0) (.v 1)))) [x0, x1] [] (by kernel_rfl)
theorem om126 : ∀ {x0 x1 : Nat}, (¬ ((x0 ≤ x1) ∧ (x1 < x1))) := fun {x0} {x1} => sums 0 (.no (.an (.le true (.v 0) (.v 1)) (.lt true (.v 1) (.v 1)))) [x0, x1] [] (by kernel_rfl)
theorem om127 : ∀ {x0 x1 x2 : Nat}, (x2 < x1) → ((x0 ≤ x2) ∧ (x2 < x1)) → ((((x0 + x1) - 1) - x2) < x1) := fun {x0} {x1} {x2} => sums 0 (.im (.lt true (.v 2) (.v 1)) (.im (.an (.le true (.v 0) (.v 2)) (.lt true (.v 2) (.v 1))) (.lt true (.sb (.sb (.ad (.v 0) (.v 1)) (.n 1)) (.v 2)) (.v 1)))) [x0, x1, x2] [] (by kernel_rfl)
theorem om128 : ∀ {x0 x1 : Nat}, (x0 < x1) → (x0 < (x1 + 1)) := fun {x0} {x1} => sums 0 (.im (.lt true (.v 0) (.v 1)) (.lt true (.v 0) (.ad (.v 1) (.n 1)))) [x0, x1] [] (by kernel_rfl)
theorem om129 : ∀ {x0 x1 : Nat}, (x0 < (x1 + 1)) → (¬ (x0 = x1)) → (x0 < x1) := fun {x0} {x1} => sums 0 (.im (.lt true (.v 0) (.ad (.v 1) (.n 1))) (.im (.no (.eq true (.v 0) (.v 1))) (.lt true (.v 0) (.v 1)))) [x0, x1] [] (by kernel_rfl)
theorem om130 : ∀ {x0 x1 x2 : Nat}, (x2 < x0) → (x0 < x1) → (x0 ≤ (x1 - 1)) := fun {x0} {x1} {x2} => sums 0 (.im (.lt true (.v 2) (.v 0)) (.im (.lt true (.v 0) (.v 1)) (.le true (.v 0) (.sb (.v 1) (.n 1))))) [x0, x1, x2] [] (by kernel_rfl)
theorem om131 : ∀ {x0 x1 x2 : Nat}, (x1 < x2) → (x2 < x0) → ((x0 - 1) < x0) := fun {x0} {x1} {x2} => sums 0 (.im (.lt true (.v 1) (.v 2)) (.im (.lt true (.v 2) (.v 0)) (.lt true (.sb (.v 0) (.n 1)) (.v 0)))) [x0, x1, x2] [] (by kernel_rfl)
theorem om132 : ∀ {x0 x1 : Int} {x2 x3 : Nat}, (x2 < x3) → (x3 = 0) → (¬ (x0 < x1)) := fun {x0} {x1} {x2} {x3} => sums 2 (.im (.lt true (.v 0) (.v 1)) (.im (.eq true (.v 1) (.n 0)) (.no (.lt false (.v 0) (.v 1))))) [x2, x3] [x0, x1] (by kernel_rfl)
theorem om133 : ∀ {x0 x1 : Nat}, (x0 < x1) → (¬ (x0 = (x1 - 1))) → (x0 < (x1 - 1)) := fun {x0} {x1} => sums 0 (.im (.lt true (.v 0) (.v 1)) (.im (.no (.eq true (.v 0) (.sb (.v 1) (.n 1)))) (.lt true (.v 0) (.sb (.v 1) (.n 1))))) [x0, x1] [] (by kernel_rfl)
theorem om134 : ∀ {x0 : Int} {x1 : Int}, (x0 < x1) → (x0 ≤ x1) := fun {x0} {x1} => sums 2 (.im (.lt false (.v 0) (.v 1)) (.le false (.v 0) (.v 1))) [] [x0, x1] (by kernel_rfl)
theorem om135 : ∀ {x0 x1 : Int} {x2 x3 : Nat}, ((x0 = x1) ∧ (x2 < x3)) → (x0 ≤ x1) := fun {x0} {x1} {x2} {x3} => sums 2 (.im (.an (.eq false (.v 0) (.v 1)) (.lt true (.v 0) (.v 1))) (.le false (.v 0) (.v 1))) [x2, x3] [x0, x1] (by kernel_rfl)
theorem om136 : ∀ {x0 x1 : Int} {x2 x3 : Nat} {x4 : Int}, (¬ (x1 < x4)) → (x0 ≤ x4) → (x2 < x3) → ((x0 < x1) ∨ ((x0 = x1) ∧ (x2 < x3))) := fun {x0} {x1} {x2} {x3} {x4} => sums 3 (.im (.no (.lt false (.v 1) (.v 2))) (.im (.le false (.v 0) (.v 2)) (.im (.lt true (.v 0) (.v 1)) (.or (.lt false (.v 0) (.v 1)) (.an (.eq false (.v 0) (.v 1)) (.lt true (.v 0) (.v 1))))))) [x2, x3] [x0, x1, x4] (by kernel_rfl)
theorem om137 : ∀ {x0 x1 : Nat}, ((x0 + 1) ≤ x1) → (x0 ≤ x1) := fun {x0} {x1} => sums 0 (.im (.le true (.ad (.v 0) (.n 1)) (.v 1)) (.le true (.v 0) (.v 1))) [x0, x1] [] (by kernel_rfl)
theorem om138 : ∀ {x0 x1 : Nat}, (x0 < (x1 + 1)) → (¬ (x0 < x1)) → (x0 = x1) := fun {x0} {x1} => sums 0 (.im (.lt true (.v 0) (.ad (.v 1) (.n 1))) (.im (.no (.lt true (.v 0) (.v 1))) (.eq true (.v 0) (.v 1)))) [x0, x1] [] (by kernel_rfl)
theorem om139 : ∀ {x0 : Nat}, (x0 ≤ x0) := fun {x0} => sums 0 (.le true (.v 0) (.v 0)) [x0] [] (by kernel_rfl)
theorem om140 : ∀ {x0 : Nat}, (x0 < (x0 + 1)) → (x0 < (x0 + 1)) := fun {x0} => sums 0 (.im (.lt true (.v 0) (.ad (.v 0) (.n 1))) (.lt true (.v 0) (.ad (.v 0) (.n 1)))) [x0] [] (by kernel_rfl)
theorem om141 : ∀ {x0 x1 x2 : Nat}, (x0 ≤ x2) → (x2 ≤ x1) → (x0 ≤ x1) := fun {x0} {x1} {x2} => sums 0 (.im (.le true (.v 0) (.v 2)) (.im (.le true (.v 2) (.v 1)) (.le true (.v 0) (.v 1)))) [x0, x1, x2] [] (by kernel_rfl)
theorem om142 : ∀ {x0 x1 : Nat} {x2 x3 : Nat}, (x2 ≤ x3) → (x3 ≤ x1) → (¬ ((x0 ≤ x1) ∧ (x1 < x2))) := fun {x0} {x1} {x2} {x3} => sums 0 (.im (.le true (.v 2) (.v 3)) (.im (.le true (.v 3) (.v 1)) (.no (.an (.le true (.v 0) (.v 1)) (.lt true (.v 1) (.v 2)))))) [x0, x1, x2, x3] [] (by kernel_rfl)
theorem om143 : ∀ {x0 x1 : Nat} {x2 x3 : Nat}, (x1 ≤ x3) → ((x0 ≤ x2) ∧ (x2 < x1)) → ((((x0 + x1) - 1) - x2) < x3) := fun {x0} {x1} {x2} {x3} => sums 0 (.im (.le true (.v 1) (.v 3)) (.im (.an (.le true (.v 0) (.v 2)) (.lt true (.v 2) (.v 1))) (.lt true (.sb (.sb (.ad (.v 0) (.v 1)) (.n 1)) (.v 2)) (.v 3)))) [x0, x1, x2, x3] [] (by kernel_rfl)
theorem om144 : ∀ {x0 x1 : Nat}, ((x0 + 0) = x1) → (x0 ≤ x1) := fun {x0} {x1} => sums 0 (.im (.eq true (.ad (.v 0) (.n 0)) (.v 1)) (.le true (.v 0) (.v 1))) [x0, x1] [] (by kernel_rfl)
theorem om145 : ∀ {x0 x1 x2 : Nat}, (1 ≤ x0) → ((x0 + (x2 + 1)) = x1) → ((x0 - 1) < x1) := fun {x0} {x1} {x2} => sums 0 (.im (.le true (.n 1) (.v 0)) (.im (.eq true (.ad (.v 0) (.ad (.v 2) (.n 1))) (.v 1)) (.lt true (.sb (.v 0) (.n 1)) (.v 1)))) [x0, x1, x2] [] (by kernel_rfl)
theorem om146 : ∀ {x0 x1 x2 : Nat}, ((x0 + (x2 + 1)) = x1) → (x0 ≤ x1) := fun {x0} {x1} {x2} => sums 0 (.im (.eq true (.ad (.v 0) (.ad (.v 2) (.n 1))) (.v 1)) (.le true (.v 0) (.v 1))) [x0, x1, x2] [] (by kernel_rfl)
theorem om147 : ∀ {x0 x1 x2 : Nat}, (1 ≤ x0) → ((x0 + (x1 + 1)) = x2) → (1 ≤ (x0 + 1)) := fun {x0} {x1} {x2} => sums 0 (.im (.le true (.n 1) (.v 0)) (.im (.eq true (.ad (.v 0) (.ad (.v 1) (.n 1))) (.v 2)) (.le true (.n 1) (.ad (.v 0) (.n 1))))) [x0, x1, x2] [] (by kernel_rfl)
theorem om148 : ∀ {x0 x1 : Nat} {x2 x3 : Nat}, ((x0 + (x2 + 1)) = x3) → ((x0 + 1) ≤ x1) → (x0 ≤ x1) := fun {x0} {x1} {x2} {x3} => sums 0 (.im (.eq true (.ad (.v 0) (.ad (.v 2) (.n 1))) (.v 3)) (.im (.le true (.ad (.v 0) (.n 1)) (.v 1)) (.le true (.v 0) (.v 1)))) [x0, x1, x2, x3] [] (by kernel_rfl)
theorem om149 : ∀ {x0 x1 : Nat} {x2 x3 : Nat}, ((x0 + (x2 + 1)) = x1) → ((x3 + 1) ≤ x0) → ((x0 - 1) < x1) := fun {x0} {x1} {x2} {x3} => sums 0 (.im (.eq true (.ad (.v 0) (.ad (.v 2) (.n 1))) (.v 1)) (.im (.le true (.ad (.v 3) (.n 1)) (.v 0)) (.lt true (.sb (.v 0) (.n 1)) (.v 1)))) [x0, x1, x2, x3] [] (by kernel_rfl)
theorem om150 : ∀ {x0 x1 x2 : Nat}, ((x0 + (x1 + 1)) = x2) → ((0 + 1) ≤ (x0 + 1)) := fun {x0} {x1} {x2} => sums 0 (.im (.eq true (.ad (.v 0) (.ad (.v 1) (.n 1))) (.v 2)) (.le true (.ad (.n 0) (.n 1)) (.ad (.v 0) (.n 1)))) [x0, x1, x2] [] (by kernel_rfl)
theorem om151 : ∀ {x0 : Nat}, (¬ (x0 > 0)) → (x0 = 0) := fun {x0} => sums 0 (.im (.no (.lt true (.n 0) (.v 0))) (.eq true (.v 0) (.n 0))) [x0] [] (by kernel_rfl)
theorem om152 : ∀ {x0 x1 x2 : Nat}, ((x0 + (x1 + 1)) = x2) → ((0 + 1) ≤ x0) → ((0 + 1) ≤ (x0 + 1)) := fun {x0} {x1} {x2} => sums 0 (.im (.eq true (.ad (.v 0) (.ad (.v 1) (.n 1))) (.v 2)) (.im (.le true (.ad (.n 0) (.n 1)) (.v 0)) (.le true (.ad (.n 0) (.n 1)) (.ad (.v 0) (.n 1))))) [x0, x1, x2] [] (by kernel_rfl)
theorem om153 : ∀ {x0 x1 : Nat} {x2 x3 : Nat}, ((x1 + (x2 + 1)) = x3) → ((0 + 1) ≤ x1) → (((x1 - (0 + 1)) ≤ x0) ∧ (x0 < x1)) → (x0 = ((((x1 - (0 + 1)) + x1) - 1) - x0)) := fun {x0} {x1} {x2} {x3} => sums 0 (.im (.eq true (.ad (.v 1) (.ad (.v 2) (.n 1))) (.v 3)) (.im (.le true (.ad (.n 0) (.n 1)) (.v 1)) (.im (.an (.le true (.sb (.v 1) (.ad (.n 0) (.n 1))) (.v 0)) (.lt true (.v 0) (.v 1))) (.eq true (.v 0) (.sb (.sb (.ad (.sb (.v 1) (.ad (.n 0) (.n 1))) (.v 1)) (.n 1)) (.v 0)))))) [x0, x1, x2, x3] [] (by kernel_rfl)
theorem om154 : ∀ {x0 x1 : Nat} {x2 x3 : Nat}, ((x1 + (x2 + 1)) = x3) → ((x0 + 1) ≤ x1) → (((x0 + 1) + 1) ≤ (x1 + 1)) := fun {x0} {x1} {x2} {x3} => sums 0 (.im (.eq true (.ad (.v 1) (.ad (.v 2) (.n 1))) (.v 3)) (.im (.le true (.ad (.v 0) (.n 1)) (.v 1)) (.le true (.ad (.ad (.v 0) (.n 1)) (.n 1)) (.ad (.v 1) (.n 1))))) [x0, x1, x2, x3] [] (by kernel_rfl)
theorem om155 : ∀ {x0 : Int} {x1 : Int}, (¬ (x0 < x1)) → (¬ (x1 < x0)) → (x0 = x1) := fun {x0} {x1} => sums 2 (.im (.no (.lt false (.v 0) (.v 1))) (.im (.no (.lt false (.v 1) (.v 0))) (.eq false (.v 0) (.v 1)))) [] [x0, x1] (by kernel_rfl)
theorem om156 : ∀ {x0 x1 : Nat} {x2 x3 : Nat}, ((x0 + (x2 + 1)) = x3) → ((x1 + 1) ≤ x0) → (((x0 + 1) - ((x1 + 1) + 1)) = (x0 - (x1 + 1))) := fun {x0} {x1} {x2} {x3} => sums 0 (.im (.eq true (.ad (.v 0) (.ad (.v 2) (.n 1))) (.v 3)) (.im (.le true (.ad (.v 1) (.n 1)) (.v 0)) (.eq true (.sb (.ad (.v 0) (.n 1)) (.ad (.ad (.v 1) (.n 1)) (.n 1))) (.sb (.v 0) (.ad (.v 1) (.n 1)))))) [x0, x1, x2, x3] [] (by kernel_rfl)
theorem om157 : ∀ {x0 x1 : Nat}, (x0 ≤ x1) → ((x0 + (x1 - x0)) = x1) := fun {x0} {x1} => sums 0 (.im (.le true (.v 0) (.v 1)) (.eq true (.ad (.v 0) (.sb (.v 1) (.v 0))) (.v 1))) [x0, x1] [] (by kernel_rfl)
theorem om158 : ∀ {x0 x1 : Nat}, (1 ≤ x1) → (x1 ≤ x0) → (1 ≤ x0) := fun {x0} {x1} => sums 0 (.im (.le true (.n 1) (.v 1)) (.im (.le true (.v 1) (.v 0)) (.le true (.n 1) (.v 0)))) [x0, x1] [] (by kernel_rfl)
theorem om159 : ∀ {x0 x1 x2 : Nat}, (x0 < x2) → (x2 < x1) → ((0 ≤ x0) ∧ (x0 < x1)) := fun {x0} {x1} {x2} => sums 0 (.im (.lt true (.v 0) (.v 2)) (.im (.lt true (.v 2) (.v 1)) (.an (.le true (.n 0) (.v 0)) (.lt true (.v 0) (.v 1))))) [x0, x1, x2] [] (by kernel_rfl)
theorem om160 : ∀ {x0 x1 : Nat}, (x0 < x1) → ((0 ≤ x0) ∧ (x0 < x1)) := fun {x0} {x1} => sums 0 (.im (.lt true (.v 0) (.v 1)) (.an (.le true (.n 0) (.v 0)) (.lt true (.v 0) (.v 1)))) [x0, x1] [] (by kernel_rfl)
theorem om161 : ∀ {x0 x1 x2 : Nat}, (x2 < x1) → (x1 < x0) → ((((0 + x0) - 1) - x1) < (((0 + x0) - 1) - x2)) := fun {x0} {x1} {x2} => sums 0 (.im (.lt true (.v 2) (.v 1)) (.im (.lt true (.v 1) (.v 0)) (.lt true (.sb (.sb (.ad (.n 0) (.v 0)) (.n 1)) (.v 1)) (.sb (.sb (.ad (.n 0) (.v 0)) (.n 1)) (.v 2))))) [x0, x1, x2] [] (by kernel_rfl)
theorem om162 : ∀ {x0 x1 x2 : Nat}, (x1 < x2) → (x2 < x0) → ((((0 + x0) - 1) - x1) < x0) := fun {x0} {x1} {x2} => sums 0 (.im (.lt true (.v 1) (.v 2)) (.im (.lt true (.v 2) (.v 0)) (.lt true (.sb (.sb (.ad (.n 0) (.v 0)) (.n 1)) (.v 1)) (.v 0)))) [x0, x1, x2] [] (by kernel_rfl)
theorem om163 : ∀ {x0 x1 : Nat}, (x0 < x1) → (((x0 + 1) + (x1 - (x0 + 1))) = x1) := fun {x0} {x1} => sums 0 (.im (.lt true (.v 0) (.v 1)) (.eq true (.ad (.ad (.v 0) (.n 1)) (.sb (.v 1) (.ad (.v 0) (.n 1)))) (.v 1))) [x0, x1] [] (by kernel_rfl)
theorem om164 : ∀ {x0 : Nat}, (1 ≤ x0) → ((0 + 1) ≤ (x0 + 1)) := fun {x0} => sums 0 (.im (.le true (.n 1) (.v 0)) (.le true (.ad (.n 0) (.n 1)) (.ad (.v 0) (.n 1)))) [x0] [] (by kernel_rfl)
theorem om165 : ∀ {x0 x1 : Nat}, ((x1 + 1) ≤ x0) → (x1 > 0) → (1 ≤ x0) := fun {x0} {x1} => sums 0 (.im (.le true (.ad (.v 1) (.n 1)) (.v 0)) (.im (.lt true (.n 0) (.v 1)) (.le true (.n 1) (.v 0)))) [x0, x1] [] (by kernel_rfl)
theorem om166 : ∀ {x0 : Nat}, ((0 + 1) ≤ x0) → (1 ≤ x0) := fun {x0} => sums 0 (.im (.le true (.ad (.n 0) (.n 1)) (.v 0)) (.le true (.n 1) (.v 0))) [x0] [] (by kernel_rfl)
theorem om167 : ∀ {x0 x1 : Nat}, ((0 + 1) ≤ x1) → (((x1 - (0 + 1)) ≤ x0) ∧ (x0 < x1)) → (x0 = ((((x1 - (0 + 1)) + x1) - 1) - x0)) := fun {x0} {x1} => sums 0 (.im (.le true (.ad (.n 0) (.n 1)) (.v 1)) (.im (.an (.le true (.sb (.v 1) (.ad (.n 0) (.n 1))) (.v 0)) (.lt true (.v 0) (.v 1))) (.eq true (.v 0) (.sb (.sb (.ad (.sb (.v 1) (.ad (.n 0) (.n 1))) (.v 1)) (.n 1)) (.v 0))))) [x0, x1] [] (by kernel_rfl)
theorem om168 : ∀ {x0 x1 : Nat}, (2 ≤ x1) → (x0 < 1) → (x0 < x1) := fun {x0} {x1} => sums 0 (.im (.le true (.n 2) (.v 1)) (.im (.lt true (.v 0) (.n 1)) (.lt true (.v 0) (.v 1)))) [x0, x1] [] (by kernel_rfl)
theorem om169 : ∀ {x0 : Nat}, (2 ≤ x0) → (1 ≤ x0) := fun {x0} => sums 0 (.im (.le true (.n 2) (.v 0)) (.le true (.n 1) (.v 0))) [x0] [] (by kernel_rfl)
theorem om170 : ∀ {x0 : Nat}, (2 ≤ x0) → ((1 + (x0 - 1)) = x0) := fun {x0} => sums 0 (.im (.le true (.n 2) (.v 0)) (.eq true (.ad (.n 1) (.sb (.v 0) (.n 1))) (.v 0))) [x0] [] (by kernel_rfl)
theorem om171 : ∀ {x0 x1 : Nat}, (x0 < x1) → (x1 < 1) → False := fun {x0} {x1} => sums 0 (.im (.lt true (.v 0) (.v 1)) (.im (.lt true (.v 1) (.n 1)) .ff)) [x0, x1] [] (by kernel_rfl)
theorem om172 : ∀ {x0 : Nat}, (2 ≤ x0) → (0 < x0) := fun {x0} => sums 0 (.im (.le true (.n 2) (.v 0)) (.lt true (.n 0) (.v 0))) [x0] [] (by kernel_rfl)
theorem om173 : ∀ {x0 x1 : Nat}, (x0 ≤ x1) → (x0 > 1) → ((x0 - 1) < x1) := fun {x0} {x1} => sums 0 (.im (.le true (.v 0) (.v 1)) (.im (.lt true (.n 1) (.v 0)) (.lt true (.sb (.v 0) (.n 1)) (.v 1)))) [x0, x1] [] (by kernel_rfl)
theorem om174 : ∀ {x0 : Nat}, (¬ (x0 = 0)) → (0 < x0) := fun {x0} => sums 0 (.im (.no (.eq true (.v 0) (.n 0))) (.lt true (.n 0) (.v 0))) [x0] [] (by kernel_rfl)
theorem om175 : ∀ {x0 x1 : Nat}, (x1 > 1) → (x0 < x1) → (¬ (x0 = (x1 - 1))) → (x0 < (x1 - 1)) := fun {x0} {x1} => sums 0 (.im (.lt true (.n 1) (.v 1)) (.im (.lt true (.v 0) (.v 1)) (.im (.no (.eq true (.v 0) (.sb (.v 1) (.n 1)))) (.lt true (.v 0) (.sb (.v 1) (.n 1)))))) [x0, x1] [] (by kernel_rfl)
theorem om176 : ∀ {x0 : Nat}, (x0 > 1) → ((x0 - 1) < x0) := fun {x0} => sums 0 (.im (.lt true (.n 1) (.v 0)) (.lt true (.sb (.v 0) (.n 1)) (.v 0))) [x0] [] (by kernel_rfl)
theorem om177 : ∀ {x0 : Int} {x1 : Int} {x2 : Int}, (¬ (x1 < x2)) → (x1 ≤ x0) → (x0 ≤ x2) → (x0 = x1) := fun {x0} {x1} {x2} => sums 3 (.im (.no (.lt false (.v 1) (.v 2))) (.im (.le false (.v 1) (.v 0)) (.im (.le false (.v 0) (.v 2)) (.eq false (.v 0) (.v 1))))) [] [x0, x1, x2] (by kernel_rfl)
theorem om178 : ∀ {x0 x1 : Nat}, (x0 ≤ x1) → (¬ (x0 = x1)) → (x0 < x1) := fun {x0} {x1} => sums 0 (.im (.le true (.v 0) (.v 1)) (.im (.no (.eq true (.v 0) (.v 1))) (.lt true (.v 0) (.v 1)))) [x0, x1] [] (by kernel_rfl)
theorem om179 : ∀ {x0 : Nat}, (¬ ((0 ≤ x0) ∧ (x0 < x0))) := fun {x0} => sums 0 (.no (.an (.le true (.n 0) (.v 0)) (.lt true (.v 0) (.v 0)))) [x0] [] (by kernel_rfl)
theorem om180 : ∀ {x0 x1 : Nat}, (x1 < x0) → ((((0 + x0) - 1) - x1) < x0) := fun {x0} {x1} => sums 0 (.im (.lt true (.v 1) (.v 0)) (.lt true (.sb (.sb (.ad (.n 0) (.v 0)) (.n 1)) (.v 1)) (.v 0))) [x0, x1] [] (by kernel_rfl)
theorem om181 : ∀ {x0 : Nat}, (1 ≤ x0) → (¬ (x0 > 1)) → (x0 = 1) := fun {x0} => sums 0 (.im (.le true (.n 1) (.v 0)) (.im (.no (.lt true (.n 1) (.v 0))) (.eq true (.v 0) (.n 1)))) [x0] [] (by kernel_rfl)
theorem om182 : ∀ {x0 : Nat}, (2 ≤ x0) → (1 < x0) := fun {x0} => sums 0 (.im (.le true (.n 2) (.v 0)) (.lt true (.n 1) (.v 0))) [x0] [] (by kernel_rfl)
theorem om183 : (1 < (1 + 1)) := sums 0 (.lt true (.n 1) (.ad (.n 1) (.n 1))) [] [] (by kernel_rfl)
theorem om184 : ∀ {x0 x1 : Int} {x2 x3 : Nat} {x4 x5 : Nat}, (1 ≤ x4) → (x4 < x5) → (x5 < (1 + 1)) → ((x0 = x1) ∧ (x2 < x3)) := fun {x0} {x1} {x2} {x3} {x4} {x5} => sums 2 (.im (.le true (.n 1) (.v 2)) (.im (.lt true (.v 2) (.v 3)) (.im (.lt true (.v 3) (.ad (.n 1) (.n 1))) (.an (.eq false (.v 0) (.v 1)) (.lt true (.v 0) (.v 1)))))) [x2, x3, x4, x5] [x0, x1] (by kernel_rfl)
theorem om185 : ∀ {x0 : Nat}, (1 ≤ x0) → (x0 < (1 + 1)) → (x0 = 1) := fun {x0} => sums 0 (.im (.le true (.n 1) (.v 0)) (.im (.lt true (.v 0) (.ad (.n 1) (.n 1))) (.eq true (.v 0) (.n 1)))) [x0] [] (by kernel_rfl)
theorem om186 : ∀ {x0 : Nat}, (x0 < 1) → (x0 = 0) := fun {x0} => sums 0 (.im (.lt true (.v 0) (.n 1)) (.eq true (.v 0) (.n 0))) [x0] [] (by kernel_rfl)
theorem om187 : ∀ {x0 x1 x2 : Nat}, (x2 ≤ x0) → ((x0 - x2) ≤ 0) → (x2 ≤ x1) → (x0 ≤ x1) := fun {x0} {x1} {x2} => sums 0 (.im (.le true (.v 2) (.v 0)) (.im (.le true (.sb (.v 0) (.v 2)) (.n 0)) (.im (.le true (.v 2) (.v 1)) (.le true (.v 0) (.v 1))))) [x0, x1, x2] [] (by kernel_rfl)
theorem om188 : ∀ {x0 x1 x2 : Nat}, (x0 ≤ x2) → (x2 ≤ x1) → (x0 ≥ x2) → (x0 ≤ x1) := fun {x0} {x1} {x2} => sums 0 (.im (.le true (.v 0) (.v 2)) (.im (.le true (.v 2) (.v 1)) (.im (.le true (.v 2) (.v 0)) (.le true (.v 0) (.v 1))))) [x0, x1, x2] [] (by kernel_rfl)
theorem om189 : ∀ {x0 x1 x2 : Nat}, (x2 ≤ x0) → (x2 ≥ x0) → (x2 ≤ x1) → (x0 ≤ x1) := fun {x0} {x1} {x2} => sums 0 (.im (.le true (.v 2) (.v 0)) (.im (.le true (.v 0) (.v 2)) (.im (.le true (.v 2) (.v 1)) (.le true (.v 0) (.v 1))))) [x0, x1, x2] [] (by kernel_rfl)
theorem om190 : ∀ {x0 x1 : Nat} {x2 x3 : Nat}, (x3 < x2) → (x1 ≤ x3) → (¬ (x0 ≥ x1)) → (((x0 + x1) / 2) < x2) := fun {x0} {x1} {x2} {x3} => sums 0 (.im (.le true (.ml 2 (.v 4)) (.ad (.v 0) (.v 1))) (.im (.lt true (.ad (.v 0) (.v 1)) (.ad (.ml 2 (.v 4)) (.n 2))) (.im (.lt true (.v 3) (.v 2)) (.im (.le true (.v 1) (.v 3)) (.im (.no (.le true (.v 1) (.v 0))) (.lt true (.v 4) (.v 2))))))) [x0, x1, x2, x3, (x0 + x1) / 2] [] (by kernel_rfl) (half1 _) (half2 _)
theorem om191 : ∀ {x0 x1 : Nat}, (¬ (x0 ≥ x1)) → (x0 ≤ ((x0 + x1) / 2)) := fun {x0} {x1} => sums 0 (.im (.le true (.ml 2 (.v 2)) (.ad (.v 0) (.v 1))) (.im (.lt true (.ad (.v 0) (.v 1)) (.ad (.ml 2 (.v 2)) (.n 2))) (.im (.no (.le true (.v 1) (.v 0))) (.le true (.v 0) (.v 2))))) [x0, x1, (x0 + x1) / 2] [] (by kernel_rfl) (half1 _) (half2 _)
theorem om192 : ∀ {x0 x1 x2 : Nat}, (x1 ≤ x2) → (¬ (x0 ≥ x1)) → (((x0 + x1) / 2) ≤ x2) := fun {x0} {x1} {x2} => sums 0 (.im (.le true (.ml 2 (.v 3)) (.ad (.v 0) (.v 1))) (.im (.lt true (.ad (.v 0) (.v 1)) (.ad (.ml 2 (.v 3)) (.n 2))) (.im (.le true (.v 1) (.v 2)) (.im (.no (.le true (.v 1) (.v 0))) (.le true (.v 3) (.v 2)))))) [x0, x1, x2, (x0 + x1) / 2] [] (by kernel_rfl) (half1 _) (half2 _)
theorem om193 : ∀ {x0 x1 x2 : Nat}, ((x1 - x0) ≤ (x2 + 1)) → (¬ (x0 ≥ x1)) → ((((x0 + x1) / 2) - x0) ≤ x2) := fun {x0} {x1} {x2} => sums 0 (.im (.le true (.ml 2 (.v 3)) (.ad (.v 0) (.v 1))) (.im (.lt true (.ad (.v 0) (.v 1)) (.ad (.ml 2 (.v 3)) (.n 2))) (.im (.le true (.sb (.v 1) (.v 0)) (.ad (.v 2) (.n 1))) (.im (.no (.le true (.v 1) (.v 0))) (.le true (.sb (.v 3) (.v 0)) (.v 2)))))) [x0, x1, x2, (x0 + x1) / 2] [] (by kernel_rfl) (half1 _) (half2 _)
theorem om194 : ∀ {x0 x1 x2 : Nat}, (((x0 + x1) / 2) ≤ x2) → (¬ (x2 = ((x0 + x1) / 2))) → (((x0 + x1) / 2) < x2) := fun {x0} {x1} {x2} => sums 0 (.im (.le true (.ml 2 (.v 3)) (.ad (.v 0) (.v 1))) (.im (.lt true (.ad (.v 0) (.v 1)) (.ad (.ml 2 (.v 3)) (.n 2))) (.im (.le true (.v 3) (.v 2)) (.im (.no (.eq true (.v 2) (.v 3))) (.lt true (.v 3) (.v 2)))))) [x0, x1, x2, (x0 + x1) / 2] [] (by kernel_rfl) (half1 _) (half2 _)
theorem om195 : ∀ {x0 x1 : Nat}, (¬ (x0 ≥ x1)) → ((((x0 + x1) / 2) + 1) ≤ x1) := fun {x0} {x1} => sums 0 (.im (.le true (.ml 2 (.v 2)) (.ad (.v 0) (.v 1))) (.im (.lt true (.ad (.v 0) (.v 1)) (.ad (.ml 2 (.v 2)) (.n 2))) (.im (.no (.le true (.v 1) (.v 0))) (.le true (.ad (.v 2) (.n 1)) (.v 1))))) [x0, x1, (x0 + x1) / 2] [] (by kernel_rfl) (half1 _) (half2 _)
theorem om196 : ∀ {x0 x1 x2 : Nat}, ((x0 - x1) ≤ (x2 + 1)) → (¬ (x1 ≥ x0)) → ((x0 - (((x1 + x0) / 2) + 1)) ≤ x2) := fun {x0} {x1} {x2} => sums 0 (.im (.le true (.ml 2 (.v 3)) (.ad (.v 1) (.v 0))) (.im (.lt true (.ad (.v 1) (.v 0)) (.ad (.ml 2 (.v 3)) (.n 2))) (.im (.le true (.sb (.v 0) (.v 1)) (.ad (.v 2) (.n 1))) (.im (.no (.le true (.v 0) (.v 1))) (.le true (.sb (.v 0) (.ad (.v 3) (.n 1))) (.v 2)))))) [x0, x1, x2, (x1 + x0) / 2] [] (by kernel_rfl) (half1 _) (half2 _)
theorem om197 : ∀ {x0 x1 x2 : Nat}, (x0 < (((x1 + x2) / 2) + 1)) → (¬ (x0 = ((x1 + x2) / 2))) → (x0 < ((x1 + x2) / 2)) := fun {x0} {x1} {x2} => sums 0 (.im (.le true (.ml 2 (.v 3)) (.ad (.v 1) (.v 2))) (.im (.lt true (.ad (.v 1) (.v 2)) (.ad (.ml 2 (.v 3)) (.n 2))) (.im (.lt true (.v 0) (.ad (.v 3) (.n 1))) (.im (.no (.eq true (.v 0) (.v 3))) (.lt true (.v 0) (.v 3)))))) [x0, x1, x2, (x1 + x2) / 2] [] (by kernel_rfl) (half1 _) (half2 _)
theorem om198 : ∀ {x0 x1 x2 : Nat}, (x1 ≤ x2) → (¬ (x0 ≥ x1)) → (((x0 + x1) / 2) < x2) := fun {x0} {x1} {x2} => sums 0 (.im (.le true (.ml 2 (.v 3)) (.ad (.v 0) (.v 1))) (.im (.lt true (.ad (.v 0) (.v 1)) (.ad (.ml 2 (.v 3)) (.n 2))) (.im (.le true (.v 1) (.v 2)) (.im (.no (.le true (.v 1) (.v 0))) (.lt true (.v 3) (.v 2)))))) [x0, x1, x2, (x0 + x1) / 2] [] (by kernel_rfl) (half1 _) (half2 _)
theorem om199 : ∀ {x0 x1 : Nat} {x2 x3 : Nat}, ((x0 + (x1 + 1)) = x2) → (x3 = x2) → (0 ≤ x0) := fun {x0} {x1} {x2} {x3} => sums 0 (.im (.eq true (.ad (.v 0) (.ad (.v 1) (.n 1))) (.v 2)) (.im (.eq true (.v 3) (.v 2)) (.le true (.n 0) (.v 0)))) [x0, x1, x2, x3] [] (by kernel_rfl)
theorem om200 : ∀ {x0 x1 : Nat} {x2 x3 : Nat}, ((x0 + (x1 + 1)) = x2) → (x3 = x2) → ((x0 - 0) ≤ x0) := fun {x0} {x1} {x2} {x3} => sums 0 (.im (.eq true (.ad (.v 0) (.ad (.v 1) (.n 1))) (.v 2)) (.im (.eq true (.v 3) (.v 2)) (.le true (.sb (.v 0) (.n 0)) (.v 0)))) [x0, x1, x2, x3] [] (by kernel_rfl)
theorem om201 : ∀ {x0 : Int} {x1 : Int} {x2 : Nat}, (x2 < 0) → (¬ (x0 < x1)) := fun {x0} {x1} {x2} => sums 2 (.im (.lt true (.v 0) (.n 0)) (.no (.lt false (.v 0) (.v 1)))) [x2] [x0, x1] (by kernel_rfl)
theorem om202 : ∀ {x0 x1 : Int} {x2 x3 : Nat} {x4 x5 x6 : Nat}, ((x2 + (x3 + 1)) = x4) → (x5 = x4) → (x2 ≤ x6) → (x6 < x2) → (x0 < x1) := fun {x0} {x1} {x2} {x3} {x4} {x5} {x6} => sums 2 (.im (.eq true (.ad (.v 0) (.ad (.v 1) (.n 1))) (.v 2)) (.im (.eq true (.v 3) (.v 2)) (.im (.le true (.v 0) (.v 4)) (.im (.lt true (.v 4) (.v 0)) (.lt false (.v 0) (.v 1)))))) [x2, x3, x4, x5, x6] [x0, x1] (by kernel_rfl)
theorem om203 : ∀ {x0 x1 : Nat} {x2 x3 : Nat}, ((x0 + (x2 + 1)) = x3) → (x1 = x3) → (x0 < x1) := fun {x0} {x1} {x2} {x3} => sums 0 (.im (.eq true (.ad (.v 0) (.ad (.v 2) (.n 1))) (.v 3)) (.im (.eq true (.v 1) (.v 3)) (.lt true (.v 0) (.v 1)))) [x0, x1, x2, x3] [] (by kernel_rfl)
theorem om204 : ∀ {x0 x1 : Nat} {x2 x3 x4 : Nat}, ((x0 + (x2 + 1)) = x3) → (x4 = x3) → (x1 ≤ x0) → ((x0 - x1) ≤ x0) := fun {x0} {x1} {x2} {x3} {x4} => sums 0 (.im (.eq true (.ad (.v 0) (.ad (.v 2) (.n 1))) (.v 3)) (.im (.eq true (.v 4) (.v 3)) (.im (.le true (.v 1) (.v 0)) (.le true (.sb (.v 0) (.v 1)) (.v 0))))) [x0, x1, x2, x3, x4] [] (by kernel_rfl)
theorem om205 : ∀ {x0 x1 : Nat} {x2 x3 x4 : Nat}, ((x0 + (x2 + 1)) = x3) → (x4 = x3) → (x1 ≤ x0) → ((x0 - (x0 - x1)) = x1) := fun {x0} {x1} {x2} {x3} {x4} => sums 0 (.im (.eq true (.ad (.v 0) (.ad (.v 2) (.n 1))) (.v 3)) (.im (.eq true (.v 4) (.v 3)) (.im (.le true (.v 1) (.v 0)) (.eq true (.sb (.v 0) (.sb (.v 0) (.v 1))) (.v 1))))) [x0, x1, x2, x3, x4] [] (by kernel_rfl)
theorem om206 : ∀ {x0 x1 : Nat} {x2 x3 x4 : Nat}, ((x0 + (x2 + 1)) = x1) → (x3 = x1) → (x4 = x0) → ((x0 + 1) ≤ x1) := fun {x0} {x1} {x2} {x3} {x4} => sums 0 (.im (.eq true (.ad (.v 0) (.ad (.v 2) (.n 1))) (.v 1)) (.im (.eq true (.v 3) (.v 1)) (.im (.eq true (.v 4) (.v 0)) (.le true (.ad (.v 0) (.n 1)) (.v 1))))) [x0, x1, x2, x3, x4] [] (by kernel_rfl)
theorem om207 : ∀ {x0 x1 : Nat} {x2 x3 : Nat} {x4 x5 x6 : Nat}, ((x2 + (x3 + 1)) = x4) → (x5 = x4) → (x1 ≤ x2) → (x6 = x2) → ((x2 + 1) ≤ x0) → (¬ (x0 = x1)) := fun {x0} {x1} {x2} {x3} {x4} {x5} {x6} => sums 0 (.im (.eq true (.ad (.v 2) (.ad (.v 3) (.n 1))) (.v 4)) (.im (.eq true (.v 5) (.v 4)) (.im (.le true (.v 1) (.v 2)) (.im (.eq true (.v 6) (.v 2)) (.im (.le true (.ad (.v 2) (.n 1)) (.v 0)) (.no (.eq true (.v 0) (.v 1)))))))) [x0, x1, x2, x3, x4, x5, x6] [] (by kernel_rfl)
theorem om208 : ∀ {x0 x1 : Nat} {x2 x3 : Nat} {x4 x5 x6 : Nat}, ((x2 + (x3 + 1)) = x4) → (x5 = x4) → (x6 = x2) → ((x2 + 1) ≤ x1) → (¬ ((x0 < x1) ∧ (x1 ≤ x2))) := fun {x0} {x1} {x2} {x3} {x4} {x5} {x6} => sums 0 (.im (.eq true (.ad (.v 2) (.ad (.v 3) (.n 1))) (.v 4)) (.im (.eq true (.v 5) (.v 4)) (.im (.eq true (.v 6) (.v 2)) (.im (.le true (.ad (.v 2) (.n 1)) (.v 1)) (.no (.an (.lt true (.v 0) (.v 1)) (.le true (.v 1) (.v 2)))))))) [x0, x1, x2, x3, x4, x5, x6] [] (by kernel_rfl)
theorem om209 : ∀ {x0 x1 : Nat} {x2 x3 : Nat} {x4 x5 : Nat}, ((x0 + (x2 + 1)) = x3) → (x4 = x3) → (x5 = x0) → ((x0 + 1) ≤ x1) → (x0 ≤ x1) := fun {x0} {x1} {x2} {x3} {x4} {x5} => sums 0 (.im (.eq true (.ad (.v 0) (.ad (.v 2) (.n 1))) (.v 3)) (.im (.eq true (.v 4) (.v 3)) (.im (.eq true (.v 5) (.v 0)) (.im (.le true (.ad (.v 0) (.n 1)) (.v 1)) (.le true (.v 0) (.v 1)))))) [x0, x1, x2, x3, x4, x5] [] (by kernel_rfl)
theorem om210 : ∀ {x0 x1 : Nat} {x2 x3 x4 : Nat}, ((x1 + (x2 + 1)) = x3) → (x4 = x3) → (x0 = x1) → (x0 < (x1 + 1)) := fun {x0} {x1} {x2} {x3} {x4} => sums 0 (.im (.eq true (.ad (.v 1) (.ad (.v 2) (.n 1))) (.v 3)) (.im (.eq true (.v 4) (.v 3)) (.im (.eq true (.v 0) (.v 1)) (.lt true (.v 0) (.ad (.v 1) (.n 1)))))) [x0, x1, x2, x3, x4] [] (by kernel_rfl)
theorem om211 : ∀ {x0 x1 : Nat} {x2 x3 : Nat} {x4 x5 x6 : Nat}, ((x1 + (x2 + 1)) = x3) → (x4 = x3) → (x5 = x1) → (x0 < (x1 + 1)) → ((x6 < x0) ∧ (x0 ≤ x1)) → ((x0 - 1) < x1) := fun {x0} {x1} {x2} {x3} {x4} {x5} {x6} => sums 0 (.im (.eq true (.ad (.v 1) (.ad (.v 2) (.n 1))) (.v 3)) (.im (.eq true (.v 4) (.v 3)) (.im (.eq true (.v 5) (.v 1)) (.im (.lt true (.v 0) (.ad (.v 1) (.n 1))) (.im (.an (.lt true (.v 6) (.v 0)) (.le true (.v 0) (.v 1))) (.lt true (.sb (.v 0) (.n 1)) (.v 1))))))) [x0, x1, x2, x3, x4, x5, x6] [] (by kernel_rfl)
theorem om212 : ∀ {x0 x1 : Nat} {x2 x3 : Nat} {x4 x5 : Nat}, ((x1 + (x2 + 1)) = x3) → (x4 = x3) → (x5 = x1) → (x0 < x1) → (x0 < (x1 + 1)) := fun {x0} {x1} {x2} {x3} {x4} {x5} => sums 0 (.im (.eq true (.ad (.v 1) (.ad (.v 2) (.n 1))) (.v 3)) (.im (.eq true (.v 4) (.v 3)) (.im (.eq true (.v 5) (.v 1)) (.im (.lt true (.v 0) (.v 1)) (.lt true (.v 0) (.ad (.v 1) (.n 1))))))) [x0, x1, x2, x3, x4, x5] [] (by kernel_rfl)
theorem om213 : ∀ {x0 x1 : Nat} {x2 x3 : Nat} {x4 x5 x6 : Nat}, ((x1 + (x2 + 1)) = x3) → (x4 = x3) → (x5 ≤ x1) → (x6 = x1) → (x0 < (x1 + 1)) → (¬ (x0 = x5)) → (¬ ((x5 < x0) ∧ (x0 ≤ x1))) → (x0 < x1) := fun {x0} {x1} {x2} {x3} {x4} {x5} {x6} => sums 0 (.im (.eq true (.ad (.v 1) (.ad (.v 2) (.n 1))) (.v 3)) (.im (.eq true (.v 4) (.v 3)) (.im (.le true (.v 5) (.v 1)) (.im (.eq true (.v 6) (.v 1)) (.im (.lt true (.v 0) (.ad (.v 1) (.n 1))) (.im (.no (.eq true (.v 0) (.v 5))) (.im (.no (.an (.lt true (.v 5) (.v 0)) (.le true (.v 0) (.v 1)))) (.lt true (.v 0) (.v 1))))))))) [x0, x1, x2, x3, x4, x5, x6] [] (by kernel_rfl)
theorem om214 : ∀ {x0 x1 x2 : Nat}, (x2 < x0) → (x2 = x1) → (¬ (x0 = x1)) := fun {x0} {x1} {x2} => sums 0 (.im (.lt true (.v 2) (.v 0)) (.im (.eq true (.v 2) (.v 1)) (.no (.eq true (.v 0) (.v 1))))) [x0, x1, x2] [] (by kernel_rfl)
theorem om215 : ∀ {x0 x1 : Nat} {x2 x3 : Nat} {x4 x5 : Nat} {x6 x7 : Nat}, ((x2 + (x3 + 1)) = x4) → (x5 = x4) → (x6 = x2) → (x7 < x1) → (x1 < (x2 + 1)) → (x7 = x0) → ((x0 < x1) ∧ (x1 ≤ x2)) := fun {x0} {x1} {x2} {x3} {x4} {x5} {x6} {x7} => sums 0 (.im (.eq true (.ad (.v 2) (.ad (.v 3) (.n 1))) (.v 4)) (.im (.eq true (.v 5) (.v 4)) (.im (.eq true (.v 6) (.v 2)) (.im (.lt true (.v 7) (.v 1)) (.im (.lt true (.v 1) (.ad (.v 2) (.n 1))) (.im (.eq true (.v 7) (.v 0)) (.an (.lt true (.v 0) (.v 1)) (.le true (.v 1) (.v 2))))))))) [x0, x1, x2, x3, x4, x5, x6, x7] [] (by kernel_rfl)
theorem om216 : ∀ {x0 x1 x2 : Nat}, (x2 < x1) → (x2 = x0) → (x0 ≤ (x1 - 1)) := fun {x0} {x1} {x2} => sums 0 (.im (.lt true (.v 2) (.v 1)) (.im (.eq true (.v 2) (.v 0)) (.le true (.v 0) (.sb (.v 1) (.n 1))))) [x0, x1, x2] [] (by kernel_rfl)
theorem om217 : ∀ {x0 x1 : Nat} {x2 x3 : Nat} {x4 x5 x6 : Nat}, ((x1 + (x2 + 1)) = x3) → (x4 = x3) → (x5 = x1) → (x6 < x0) → (x0 < (x1 + 1)) → ((x0 - 1) < x1) := fun {x0} {x1} {x2} {x3} {x4} {x5} {x6} => sums 0 (.im (.eq true (.ad (.v 1) (.ad (.v 2) (.n 1))) (.v 3)) (.im (.eq true (.v 4) (.v 3)) (.im (.eq true (.v 5) (.v 1)) (.im (.lt true (.v 6) (.v 0)) (.im (.lt true (.v 0) (.ad (.v 1) (.n 1))) (.lt true (.sb (.v 0) (.n 1)) (.v 1))))))) [x0, x1, x2, x3, x4, x5, x6] [] (by kernel_rfl)
theorem om218 : ∀ {x0 x1 : Nat} {x2 x3 : Nat}, (x1 < x3) → (x3 = x0) → (¬ ((x0 < x1) ∧ (x1 ≤ x2))) := fun {x0} {x1} {x2} {x3} => sums 0 (.im (.lt true (.v 1) (.v 3)) (.im (.eq true (.v 3) (.v 0)) (.no (.an (.lt true (.v 0) (.v 1)) (.le true (.v 1) (.v 2)))))) [x0, x1, x2, x3] [] (by kernel_rfl)
theorem om219 : ∀ {x0 x1 x2 : Nat}, (x0 < x2) → (x2 = x1) → (x0 < x1) := fun {x0} {x1} {x2} => sums 0 (.im (.lt true (.v 0) (.v 2)) (.im (.eq true (.v 2) (.v 1)) (.lt true (.v 0) (.v 1)))) [x0, x1, x2] [] (by kernel_rfl)
theorem om220 : ∀ {x0 x1 : Nat} {x2 x3 : Nat} {x4 x5 : Nat} {x6 x7 : Nat}, ((x1 + (x2 + 1)) = x3) → (x4 = x3) → (x5 ≤ x1) → (x6 = x1) → (x0 < x7) → (x7 = x5) → (x0 < x1) := fun {x0} {x1} {x2} {x3} {x4} {x5} {x6} {x7} => sums 0 (.im (.eq true (.ad (.v 1) (.ad (.v 2) (.n 1))) (.v 3)) (.im (.eq true (.v 4) (.v 3)) (.im (.le true (.v 5) (.v 1)) (.im (.eq true (.v 6) (.v 1)) (.im (.lt true (.v 0) (.v 7)) (.im (.eq true (.v 7) (.v 5)) (.lt true (.v 0) (.v 1)))))))) [x0, x1, x2, x3, x4, x5, x6, x7] [] (by kernel_rfl)
theorem om221 : ∀ {x0 x1 : Int} {x2 x3 : Nat}, (¬ (x1 < x0)) → (x2 < x3) → ((x0 < x1) ∨ ((x0 = x1) ∧ (x2 < x3))) := fun {x0} {x1} {x2} {x3} => sums 2 (.im (.no (.lt false (.v 1) (.v 0))) (.im (.lt true (.v 0) (.v 1)) (.or (.lt false (.v 0) (.v 1)) (.an (.eq false (.v 0) (.v 1)) (.lt true (.v 0) (.v 1)))))) [x2, x3] [x0, x1] (by kernel_rfl)
theorem om222 : ∀ {x0 x1 : Nat} {x2 x3 : Nat} {x4 x5 : Nat} {x6 x7 : Nat}, ((x2 + (x3 + 1)) = x4) → (x5 = x4) → (x6 = x2) → (x1 < x7) → (x7 < (x2 + 1)) → (x0 < x1) → ((x0 < x1) ∧ (x1 ≤ x2)) := fun {x0} {x1} {x2} {x3} {x4} {x5} {x6} {x7} => sums 0 (.im (.eq true (.ad (.v 2) (.ad (.v 3) (.n 1))) (.v 4)) (.im (.eq true (.v 5) (.v 4)) (.im (.eq true (.v 6) (.v 2)) (.im (.lt true (.v 1) (.v 7)) (.im (.lt true (.v 7) (.ad (.v 2) (.n 1))) (.im (.lt true (.v 0) (.v 1)) (.an (.lt true (.v 0) (.v 1)) (.le true (.v 1) (.v 2))))))))) [x0, x1, x2, x3, x4, x5, x6, x7] [] (by kernel_rfl)
theorem om223 : ∀ {x0 x1 : Nat} {x2 x3 : Nat} {x4 x5 : Nat} {x6 x7 : Nat}, ((x2 + (x3 + 1)) = x4) → (x5 = x4) → (x6 = x2) → (x7 < x1) → (x1 < (x2 + 1)) → (x0 < x7) → ((x0 < x1) ∧ (x1 ≤ x2)) := fun {x0} {x1} {x2} {x3} {x4} {x5} {x6} {x7} => sums 0 (.im (.eq true (.ad (.v 2) (.ad (.v 3) (.n 1))) (.v 4)) (.im (.eq true (.v 5) (.v 4)) (.im (.eq true (.v 6) (.v 2)) (.im (.lt true (.v 7) (.v 1)) (.im (.lt true (.v 1) (.ad (.v 2) (.n 1))) (.im (.lt true (.v 0) (.v 7)) (.an (.lt true (.v 0) (.v 1)) (.le true (.v 1) (.v 2))))))))) [x0, x1, x2, x3, x4, x5, x6, x7] [] (by kernel_rfl)
theorem om224 : ∀ {x0 x1 x2 : Nat}, (x0 < x1) → (x2 < x0) → ((x0 - 1) < (x1 - 1)) := fun {x0} {x1} {x2} => sums 0 (.im (.lt true (.v 0) (.v 1)) (.im (.lt true (.v 2) (.v 0)) (.lt true (.sb (.v 0) (.n 1)) (.sb (.v 1) (.n 1))))) [x0, x1, x2] [] (by kernel_rfl)
theorem om225 : ∀ {x0 x1 x2 : Nat}, (¬ (x0 < x1)) → (¬ ((x0 < x1) ∧ (x1 ≤ x2))) := fun {x0} {x1} {x2} => sums 0 (.im (.no (.lt true (.v 0) (.v 1))) (.no (.an (.lt true (.v 0) (.v 1)) (.le true (.v 1) (.v 2))))) [x0, x1, x2] [] (by kernel_rfl)
theorem om226 : ∀ {x0 x1 : Nat} {x2 x3 : Nat} {x4 x5 x6 : Nat}, ((x2 + (x3 + 1)) = x4) → (x5 = x4) → (x6 = x2) → (x1 < (x2 + 1)) → (x0 < x1) → ((x0 < x1) ∧ (x1 ≤ x2)) := fun {x0} {x1} {x2} {x3} {x4} {x5} {x6} => sums 0 (.im (.eq true (.ad (.v 2) (.ad (.v 3) (.n 1))) (.v 4)) (.im (.eq true (.v 5) (.v 4)) (.im (.eq true (.v 6) (.v 2)) (.im (.lt true (.v 1) (.ad (.v 2) (.n 1))) (.im (.lt true (.v 0) (.v 1)) (.an (.lt true (.v 0) (.v 1)) (.le true (.v 1) (.v 2)))))))) [x0, x1, x2, x3, x4, x5, x6] [] (by kernel_rfl)
theorem om227 : ∀ {x0 x1 x2 : Nat}, (x0 < x1) → (¬ (x0 = x2)) → (¬ (x1 = x2)) → (¬ (x2 < x0)) → (x2 < x1) → (x0 < (x1 - 1)) := fun {x0} {x1} {x2} => sums 0 (.im (.lt true (.v 0) (.v 1)) (.im (.no (.eq true (.v 0) (.v 2))) (.im (.no (.eq true (.v 1) (.v 2))) (.im (.no (.lt true (.v 2) (.v 0))) (.im (.lt true (.v 2) (.v 1)) (.lt true (.v 0) (.sb (.v 1) (.n 1)))))))) [x0, x1, x2] [] (by kernel_rfl)
theorem om228 : ∀ {x0 x1 : Nat} {x2 x3 : Nat} {x4 x5 x6 : Nat}, ((x1 + (x2 + 1)) = x3) → (x4 = x3) → (x5 ≤ x1) → (x6 = x1) → (x0 < (x1 + 1)) → (¬ (x0 = x5)) → (¬ (x5 < x0)) → (x0 < x1) := fun {x0} {x1} {x2} {x3} {x4} {x5} {x6} => sums 0 (.im (.eq true (.ad (.v 1) (.ad (.v 2) (.n 1))) (.v 3)) (.im (.eq true (.v 4) (.v 3)) (.im (.le true (.v 5) (.v 1)) (.im (.eq true (.v 6) (.v 1)) (.im (.lt true (.v 0) (.ad (.v 1) (.n 1))) (.im (.no (.eq true (.v 0) (.v 5))) (.im (.no (.lt true (.v 5) (.v 0))) (.lt true (.v 0) (.v 1))))))))) [x0, x1, x2, x3, x4, x5, x6] [] (by kernel_rfl)
theorem om229 : ∀ {x0 x1 : Nat}, (x0 < x1) → ((x0 + (x1 - x0)) = x1) := fun {x0} {x1} => sums 0 (.im (.lt true (.v 0) (.v 1)) (.eq true (.ad (.v 0) (.sb (.v 1) (.v 0))) (.v 1))) [x0, x1] [] (by kernel_rfl)
theorem om230 : ∀ {x0 x1 : Nat}, (1 ≤ x1) → (x1 < 64) → (2 ≤ x1) → (x0 = x1) → (2 ≤ x0) := fun {x0} {x1} => sums 0 (.im (.le true (.n 1) (.v 1)) (.im (.lt true (.v 1) (.n 64)) (.im (.le true (.n 2) (.v 1)) (.im (.eq true (.v 0) (.v 1)) (.le true (.n 2) (.v 0)))))) [x0, x1] [] (by kernel_rfl)
theorem om231 : ∀ {x0 : Nat}, (1 ≤ x0) → (x0 < 64) → (¬ (2 ≤ x0)) → (x0 = 1) := fun {x0} => sums 0 (.im (.le true (.n 1) (.v 0)) (.im (.lt true (.v 0) (.n 64)) (.im (.no (.le true (.n 2) (.v 0))) (.eq true (.v 0) (.n 1))))) [x0] [] (by kernel_rfl)
theorem om232 : ∀ {x0 x1 : Int} {x2 x3 : Nat}, ((x0 < x1) ∨ ((x0 = x1) ∧ (x2 < x3))) → ((x1 < x0) ∨ ((x1 = x0) ∧ (x3 < x2))) → False := fun {x0} {x1} {x2} {x3} => sums 2 (.im (.or (.lt false (.v 0) (.v 1)) (.an (.eq false (.v 0) (.v 1)) (.lt true (.v 0) (.v 1)))) (.im (.or (.lt false (.v 1) (.v 0)) (.an (.eq false (.v 1) (.v 0)) (.lt true (.v 1) (.v 0)))) .ff)) [x2, x3] [x0, x1] (by kernel_rfl)
theorem om233 : ∀ {x0 : Int} {x1 : Int}, (¬ (x1 ≤ x0)) → (x0 < x1) := fun {x0} {x1} => sums 2 (.im (.no (.le false (.v 1) (.v 0))) (.lt false (.v 0) (.v 1))) [] [x0, x1] (by kernel_rfl)
theorem om234 : ∀ {x0 x1 x2 : Int} {x3 x4 : Nat}, (¬ (x2 ≤ x0)) → ((x2 < x1) ∨ ((x2 = x1) ∧ (x3 < x4))) → (x0 < x1) := fun {x0} {x1} {x2} {x3} {x4} => sums 3 (.im (.no (.le false (.v 2) (.v 0))) (.im (.or (.lt false (.v 2) (.v 1)) (.an (.eq false (.v 2) (.v 1)) (.lt true (.v 0) (.v 1)))) (.lt false (.v 0) (.v 1)))) [x3, x4] [x0, x1, x2] (by kernel_rfl)
theorem om235 : ∀ {x0 x1 x2 : Nat}, ((x2 + 1) ≤ x1) → (x0 < x2) → (x0 < x1) := fun {x0} {x1} {x2} => sums 0 (.im (.le true (.ad (.v 2) (.n 1)) (.v 1)) (.im (.lt true (.v 0) (.v 2)) (.lt true (.v 0) (.v 1)))) [x0, x1, x2] [] (by kernel_rfl)
theorem om236 : ∀ {x0 : Nat}, (530 < x0) → (((x0 + 1) ≠ 530) ∧ (((x0 + 1) + 1) ≠ 530)) := fun {x0} => sums 0 (.im (.lt true (.n 530) (.v 0)) (.an (.no (.eq true (.ad (.v 0) (.n 1)) (.n 530))) (.no (.eq true (.ad (.ad (.v 0) (.n 1)) (.n 1)) (.n 530))))) [x0] [] (by kernel_rfl)
theorem om237 : ∀ {x0 x1 : Nat}, (530 < x1) → (((((x1 + 1) + 1) + 1) + 1) < x0) → (x0 ≠ 530) := fun {x0} {x1} => sums 0 (.im (.lt true (.n 530) (.v 1)) (.im (.lt true (.ad (.ad (.ad (.ad (.v 1) (.n 1)) (.n 1)) (.n 1)) (.n 1)) (.v 0)) (.no (.eq true (.v 0) (.n 530))))) [x0, x1] [] (by kernel_rfl)
theorem om238 : ∀ {x0 x1 : Nat}, (x0 = (x1 + 1)) → (x1 ≤ 5) → (x0 < 64) := fun {x0} {x1} => sums 0 (.im (.eq true (.v 0) (.ad (.v 1) (.n 1))) (.im (.le true (.v 1) (.n 5)) (.lt true (.v 0) (.n 64)))) [x0, x1] [] (by kernel_rfl)
theorem om239 : ∀ {x0 : Nat}, (x0 ≤ 6) → (x0 ≤ 10) := fun {x0} => sums 0 (.im (.le true (.v 0) (.n 6)) (.le true (.v 0) (.n 10))) [x0] [] (by kernel_rfl)
theorem om240 : ∀ {x0 : Int}, (x0 ≤ (30 : Int)) → (x0 < (1000 : Int)) := fun {x0} => sums 1 (.im (.le false (.v 0) (.n 30)) (.lt false (.v 0) (.n 1000))) [] [x0] (by kernel_rfl)
theorem om241 : ∀ {x0 : Int} {x1 x2 : Nat}, (x0 = ((x1 : Nat) : Int)) → (x0 = ((x2 : Nat) : Int)) → (x2 ≤ 6) → (1 ≤ x2) → ((1 : Int) ≤ x0) := fun {x0} {x1} {x2} => sums 1 (.im (.eq false (.v 0) (.ct (.v 0))) (.im (.eq false (.v 0) (.ct (.v 1))) (.im (.le true (.v 1) (.n 6)) (.im (.le true (.n 1) (.v 1)) (.le false (.n 1) (.v 0)))))) [x1, x2] [x0] (by kernel_rfl)
theorem om242 : ∀ {x0 : Int} {x1 x2 : Nat}, (x0 = ((x1 : Nat) : Int)) → (x0 = ((x2 : Nat) : Int)) → (x2 ≤ 6) → (1 ≤ x2) → (x0 ≤ (10 : Int)) := fun {x0} {x1} {x2} => sums 1 (.im (.eq false (.v 0) (.ct (.v 0))) (.im (.eq false (.v 0) (.ct (.v 1))) (.im (.le true (.v 1) (.n 6)) (.im (.le true (.n 1) (.v 1)) (.le false (.v 0) (.n 10)))))) [x1, x2] [x0] (by kernel_rfl)
theorem om243 : ∀ {x0 : Nat} {x1 : Int} {x2 : Nat}, (x1 = ((x2 : Nat) : Int)) → (x1 = ((x0 : Nat) : Int)) → (x0 ≤ 6) → (1 ≤ x0) → (0 < x0) := fun {x0} {x1} {x2} => sums 1 (.im (.eq false (.v 0) (.ct (.v 1))) (.im (.eq false (.v 0) (.ct (.v 0))) (.im (.le true (.v 0) (.n 6)) (.im (.le true (.n 1) (.v 0)) (.lt true (.n 0) (.v 0)))))) [x0, x2] [x1] (by kernel_rfl)
theorem om244 : ∀ {x0 x1 : Int} {x2 x3 : Nat}, (x0 = ((x2 : Nat) : Int)) → (x0 = ((x3 : Nat) : Int)) → (x1 < x0) → ((Int.toNat (((x0 - x1) - (1 : Int)) - (0 : Int))) = (Int.toNat ((x0 - x1) - (1 : Int)))) := fun {x0} {x1} {x2} {x3} => sums 2 (.im (.eq false (.v 0) (.ct (.v 0))) (.im (.eq false (.v 0) (.ct (.v 1))) (.im (.lt false (.v 1) (.v 0)) (.eq true (.tn (.sb (.sb (.sb (.v 0) (.v 1)) (.n 1)) (.n 0))) (.tn (.sb (.sb (.v 0) (.v 1)) (.n 1))))))) [x2, x3] [x0, x1] (by kernel_rfl)
theorem om245 : ∀ {x0 x1 : Nat} {x2 : Int} {x3 : Nat} {x4 : Int}, (x2 = ((x3 : Nat) : Int)) → (x2 = ((x1 : Nat) : Int)) → ((0 : Int) ≤ x4) → (x0 < (Int.toNat ((x2 - x4) - (1 : Int)))) → ((x0 + 1) < x1) := fun {x0} {x1} {x2} {x3} {x4} => sums 2 (.im (.eq false (.v 0) (.ct (.v 2))) (.im (.eq false (.v 0) (.ct (.v 1))) (.im (.le false (.n 0) (.v 1)) (.im (.lt true (.v 0) (.tn (.sb (.sb (.v 0) (.v 1)) (.n 1)))) (.lt true (.ad (.v 0) (.n 1)) (.v 1)))))) [x0, x1, x3] [x2, x4] (by kernel_rfl)
theorem om246 : ∀ {x0 x1 : Int} {x2 x3 : Nat}, (x0 = ((x2 : Nat) : Int)) → (x0 = ((x3 : Nat) : Int)) → (x1 < x0) → ((0 : Int) ≤ (x0 - x1)) := fun {x0} {x1} {x2} {x3} => sums 2 (.im (.eq false (.v 0) (.ct (.v 0))) (.im (.eq false (.v 0) (.ct (.v 1))) (.im (.lt false (.v 1) (.v 0)) (.le false (.n 0) (.sb (.v 0) (.v 1)))))) [x2, x3] [x0, x1] (by kernel_rfl)
theorem om247 : ∀ {x0 x1 : Int} {x2 x3 : Nat}, (x0 = ((x2 : Nat) : Int)) → (x0 = ((x3 : Nat) : Int)) → (x1 < x0) → ((((Int.toNat (x0 - x1)) : Nat) : Int) = (x0 - x1)) → (1 ≤ (Int.toNat (x0 - x1))) := fun {x0} {x1} {x2} {x3} => sums 2 (.im (.eq false (.v 0) (.ct (.v 0))) (.im (.eq false (.v 0) (.ct (.v 1))) (.im (.lt false (.v 1) (.v 0)) (.im (.eq false (.ct (.tn (.sb (.v 0) (.v 1)))) (.sb (.v 0) (.v 1))) (.le true (.n 1) (.tn (.sb (.v 0) (.v 1)))))))) [x2, x3] [x0, x1] (by kernel_rfl)
theorem om248 : ∀ {x0 x1 : Int} {x2 x3 : Nat}, (x0 = ((x3 : Nat) : Int)) → (x0 = ((x2 : Nat) : Int)) → ((0 : Int) ≤ x1) → ((((Int.toNat (x0 - x1)) : Nat) : Int) = (x0 - x1)) → ((Int.toNat (x0 - x1)) ≤ x2) := fun {x0} {x1} {x2} {x3} => sums 2 (.im (.eq false (.v 0) (.ct (.v 1))) (.im (.eq false (.v 0) (.ct (.v 0))) (.im (.le false (.n 0) (.v 1)) (.im (.eq false (.ct (.tn (.sb (.v 0) (.v 1)))) (.sb (.v 0) (.v 1))) (.le true (.tn (.sb (.v 0) (.v 1))) (.v 0)))))) [x2, x3] [x0, x1] (by kernel_rfl)
theorem om249 : ∀ {x0 x1 : Int} {x2 x3 : Nat}, (x0 = ((x2 : Nat) : Int)) → (x0 = ((x3 : Nat) : Int)) → (x1 < x0) → ((((Int.toNat (x0 - x1)) : Nat) : Int) = (x0 - x1)) → ((Int.toNat (x0 - x1)) = ((Int.toNat ((x0 - x1) - (1 : Int))) + 1)) := fun {x0} {x1} {x2} {x3} => sums 2 (.im (.eq false (.v 0) (.ct (.v 0))) (.im (.eq false (.v 0) (.ct (.v 1))) (.im (.lt false (.v 1) (.v 0)) (.im (.eq false (.ct (.tn (.sb (.v 0) (.v 1)))) (.sb (.v 0) (.v 1))) (.eq true (.tn (.sb (.v 0) (.v 1))) (.ad (.tn (.sb (.sb (.v 0) (.v 1)) (.n 1))) (.n 1))))))) [x2, x3] [x0, x1] (by kernel_rfl)
theorem om250 : ∀ {x0 x1 : Nat}, (x0 < x1) → ((((x0 + 1) : Nat) : Int) ≤ (((x1 + 1) : Nat) : Int)) := fun {x0} {x1} => sums 0 (.im (.lt true (.v 0) (.v 1)) (.le false (.ct (.ad (.v 0) (.n 1))) (.ct (.ad (.v 1) (.n 1))))) [x0, x1] [] (by kernel_rfl)
theorem om251 : ∀ {x0 : Nat}, (¬ (((x0 : Nat) : Int) < (0 : Int))) := fun {x0} => sums 0 (.no (.lt false (.ct (.v 0)) (.n 0))) [x0] [] (by kernel_rfl)
theorem om252 : ∀ {x0 x1 x2 : Nat}, (x0 ≤ x2) → (x1 = x2) → (x0 ≤ x1) := fun {x0} {x1} {x2} => sums 0 (.im (.le true (.v 0) (.v 2)) (.im (.eq true (.v 1) (.v 2)) (.le true (.v 0) (.v 1)))) [x0, x1, x2] [] (by kernel_rfl)
theorem om253 : ∀ {x0 x1 : Nat}, (x0 = x1) → (x1 ≤ 6) → (x0 ≤ 16777216) := fun {x0} {x1} => sums 0 (.im (.eq true (.v 0) (.v 1)) (.im (.le true (.v 1) (.n 6)) (.le true (.v 0) (.n 16777216)))) [x0, x1] [] (by kernel_rfl)
theorem om254 : ∀ {x0 x1 x2 : Nat}, (1 ≤ x1) → (x0 = x2) → (x2 ≤ 6) → (x0 ≤ (16777216 + x1)) := fun {x0} {x1} {x2} => sums 0 (.im (.le true (.n 1) (.v 1)) (.im (.eq true (.v 0) (.v 2)) (.im (.le true (.v 2) (.n 6)) (.le true (.v 0) (.ad (.n 16777216) (.v 1)))))) [x0, x1, x2] [] (by kernel_rfl)
theorem om255 : ∀ {x0 x1 x2 : Nat}, (x2 ≤ x0) → (x1 = x0) → (x0 ≤ ((x1 - x2) + x2)) := fun {x0} {x1} {x2} => sums 0 (.im (.le true (.v 2) (.v 0)) (.im (.eq true (.v 1) (.v 0)) (.le true (.v 0) (.ad (.sb (.v 1) (.v 2)) (.v 2))))) [x0, x1, x2] [] (by kernel_rfl)
theorem om256 : ∀ {x0 x1 x2 : Nat}, (x1 ≤ x0) → (1 ≤ x1) → (x2 = x0) → (x0 ≤ 6) → ((x0 - x1) < 64) := fun {x0} {x1} {x2} => sums 0 (.im (.le true (.v 1) (.v 0)) (.im (.le true (.n 1) (.v 1)) (.im (.eq true (.v 2) (.v 0)) (.im (.le true (.v 0) (.n 6)) (.lt true (.sb (.v 0) (.v 1)) (.n 64)))))) [x0, x1, x2] [] (by kernel_rfl)
theorem om257 : ∀ {x0 x1 : Nat} {x2 x3 x4 : Nat}, (x1 < x4) → (x2 < x4) → (x3 < x4) → (x4 ≤ x0) → ((x0 ≠ x1) ∧ ((x0 ≠ x2) ∧ (x0 ≠ x3))) := fun {x0} {x1} {x2} {x3} {x4} => sums 0 (.im (.lt true (.v 1) (.v 4)) (.im (.lt true (.v 2) (.v 4)) (.im (.lt true (.v 3) (.v 4)) (.im (.le true (.v 4) (.v 0)) (.an (.no (.eq true (.v 0) (.v 1))) (.an (.no (.eq true (.v 0) (.v 2))) (.no (.eq true (.v 0) (.v 3))))))))) [x0, x1, x2, x3, x4] [] (by kernel_rfl)
theorem om258 : ∀ {x0 x1 : Nat}, (x0 < x1) → (¬ (x0 = x1)) := fun {x0} {x1} => sums 0 (.im (.lt true (.v 0) (.v 1)) (.no (.eq true (.v 0) (.v 1)))) [x0, x1] [] (by kernel_rfl)
theorem om259 : ∀ {x0 x1 : Nat}, (x1 < x0) → (¬ (x0 = x1)) := fun {x0} {x1} => sums 0 (.im (.lt true (.v 1) (.v 0)) (.no (.eq true (.v 0) (.v 1)))) [x0, x1] [] (by kernel_rfl)
theorem om260 : ∀ {x0 x1 x2 : Nat}, (x1 < x2) → (x2 < x0) → (¬ (x0 = x1)) := fun {x0} {x1} {x2} => sums 0 (.im (.lt true (.v 1) (.v 2)) (.im (.lt true (.v 2) (.v 0)) (.no (.eq true (.v 0) (.v 1))))) [x0, x1, x2] [] (by kernel_rfl)
theorem om261 : ∀ {x0 x1 : Nat} {x2 x3 : Nat}, (x1 < x2) → (x2 < x3) → (x3 < x0) → (¬ (x0 = x1)) := fun {x0} {x1} {x2} {x3} => sums 0 (.im (.lt true (.v 1) (.v 2)) (.im (.lt true (.v 2) (.v 3)) (.im (.lt true (.v 3) (.v 0)) (.no (.eq true (.v 0) (.v 1)))))) [x0, x1, x2, x3] [] (by kernel_rfl)
theorem om262 : ∀ {x0 x1 : Nat} {x2 x3 x4 : Nat}, (x1 < x2) → (x2 < x3) → (x3 < x4) → (x4 < x0) → (¬ (x0 = x1)) := fun {x0} {x1} {x2} {x3} {x4} => sums 0 (.im (.lt true (.v 1) (.v 2)) (.im (.lt true (.v 2) (.v 3)) (.im (.lt true (.v 3) (.v 4)) (.im (.lt true (.v 4) (.v 0)) (.no (.eq true (.v 0) (.v 1))))))) [x0, x1, x2, x3, x4] [] (by kernel_rfl)
theorem om263 : ∀ {x0 x1 : Nat} {x2 x3 : Nat} {x4 x5 : Nat}, (x1 < x2) → (x2 < x3) → (x3 < x4) → (x4 < x5) → (x5 < x0) → (¬ (x0 = x1)) := fun {x0} {x1} {x2} {x3} {x4} {x5} => sums 0 (.im (.lt true (.v 1) (.v 2)) (.im (.lt true (.v 2) (.v 3)) (.im (.lt true (.v 3) (.v 4)) (.im (.lt true (.v 4) (.v 5)) (.im (.lt true (.v 5) (.v 0)) (.no (.eq true (.v 0) (.v 1)))))))) [x0, x1, x2, x3, x4, x5] [] (by kernel_rfl)
theorem om264 : ∀ {x0 x1 x2 : Nat}, (x0 < x2) → (x2 < x1) → (¬ (x0 = x1)) := fun {x0} {x1} {x2} => sums 0 (.im (.lt true (.v 0) (.v 2)) (.im (.lt true (.v 2) (.v 1)) (.no (.eq true (.v 0) (.v 1))))) [x0, x1, x2] [] (by kernel_rfl)
theorem om265 : ∀ {x0 x1 : Nat} {x2 x3 : Nat}, (x0 < x2) → (x2 < x3) → (x3 < x1) → (¬ (x0 = x1)) := fun {x0} {x1} {x2} {x3} => sums 0 (.im (.lt true (.v 0) (.v 2)) (.im (.lt true (.v 2) (.v 3)) (.im (.lt true (.v 3) (.v 1)) (.no (.eq true (.v 0) (.v 1)))))) [x0, x1, x2, x3] [] (by kernel_rfl)
theorem om266 : ∀ {x0 x1 : Nat} {x2 x3 x4 : Nat}, (x0 < x2) → (x2 < x3) → (x3 < x4) → (x4 < x1) → (¬ (x0 = x1)) := fun {x0} {x1} {x2} {x3} {x4} => sums 0 (.im (.lt true (.v 0) (.v 2)) (.im (.lt true (.v 2) (.v 3)) (.im (.lt true (.v 3) (.v 4)) (.im (.lt true (.v 4) (.v 1)) (.no (.eq true (.v 0) (.v 1))))))) [x0, x1, x2, x3, x4] [] (by kernel_rfl)
theorem om267 : ∀ {x0 x1 : Nat} {x2 x3 : Nat} {x4 x5 x6 : Nat}, (x0 < x2) → (x2 < x3) → (x3 < x4) → (x4 < x5) → (x5 < x6) → (x6 < x1) → (¬ (x0 = x1)) := fun {x0} {x1} {x2} {x3} {x4} {x5} {x6} => sums 0 (.im (.lt true (.v 0) (.v 2)) (.im (.lt true (.v 2) (.v 3)) (.im (.lt true (.v 3) (.v 4)) (.im (.lt true (.v 4) (.v 5)) (.im (.lt true (.v 5) (.v 6)) (.im (.lt true (.v 6) (.v 1)) (.no (.eq true (.v 0) (.v 1))))))))) [x0, x1, x2, x3, x4, x5, x6] [] (by kernel_rfl)
theorem om268 : ∀ {x0 x1 : Nat} {x2 x3 : Nat} {x4 x5 : Nat}, (x0 < x2) → (x2 < x3) → (x3 < x4) → (x4 < x5) → (x5 < x1) → (¬ (x0 = x1)) := fun {x0} {x1} {x2} {x3} {x4} {x5} => sums 0 (.im (.lt true (.v 0) (.v 2)) (.im (.lt true (.v 2) (.v 3)) (.im (.lt true (.v 3) (.v 4)) (.im (.lt true (.v 4) (.v 5)) (.im (.lt true (.v 5) (.v 1)) (.no (.eq true (.v 0) (.v 1)))))))) [x0, x1, x2, x3, x4, x5] [] (by kernel_rfl)
theorem om269 : ∀ {x0 x1 : Nat} {x2 x3 : Nat} {x4 x5 : Nat} {x6 x7 : Nat}, (x0 < x2) → (x2 < x3) → (x3 < x4) → (x4 < x5) → (x5 < x6) → (x6 < x7) → (x7 < x1) → (¬ (x0 = x1)) := fun {x0} {x1} {x2} {x3} {x4} {x5} {x6} {x7} => sums 0 (.im (.lt true (.v 0) (.v 2)) (.im (.lt true (.v 2) (.v 3)) (.im (.lt true (.v 3) (.v 4)) (.im (.lt true (.v 4) (.v 5)) (.im (.lt true (.v 5) (.v 6)) (.im (.lt true (.v 6) (.v 7)) (.im (.lt true (.v 7) (.v 1)) (.no (.eq true (.v 0) (.v 1)))))))))) [x0, x1, x2, x3, x4, x5, x6, x7] [] (by kernel_rfl)
theorem om270 : ∀ {x0 x1 : Nat} {x2 x3 : Nat} {x4 x5 x6 : Nat}, (x1 < x2) → (x2 < x3) → (x3 < x4) → (x4 < x5) → (x5 < x6) → (x6 < x0) → (¬ (x0 = x1)) := fun {x0} {x1} {x2} {x3} {x4} {x5} {x6} => sums 0 (.im (.lt true (.v 1) (.v 2)) (.im (.lt true (.v 2) (.v 3)) (.im (.lt true (.v 3) (.v 4)) (.im (.lt true (.v 4) (.v 5)) (.im (.lt true (.v 5) (.v 6)) (.im (.lt true (.v 6) (.v 0)) (.no (.eq true (.v 0) (.v 1))))))))) [x0, x1, x2, x3, x4, x5, x6] [] (by kernel_rfl)
theorem om271 : ∀ {x0 x1 : Nat} {x2 x3 x4 : Nat}, (x2 < x3) → (x3 < x4) → (x4 < x1) → (x0 < x2) → (¬ (x0 = x1)) := fun {x0} {x1} {x2} {x3} {x4} => sums 0 (.im (.lt true (.v 2) (.v 3)) (.im (.lt true (.v 3) (.v 4)) (.im (.lt true (.v 4) (.v 1)) (.im (.lt true (.v 0) (.v 2)) (.no (.eq true (.v 0) (.v 1))))))) [x0, x1, x2, x3, x4] [] (by kernel_rfl)
theorem om272 : ∀ {x0 x1 : Nat} {x2 x3 : Nat}, (x2 < x3) → (x3 < x1) → (x0 < x2) → (¬ (x0 = x1)) := fun {x0} {x1} {x2} {x3} => sums 0 (.im (.lt true (.v 2) (.v 3)) (.im (.lt true (.v 3) (.v 1)) (.im (.lt true (.v 0) (.v 2)) (.no (.eq true (.v 0) (.v 1)))))) [x0, x1, x2, x3] [] (by kernel_rfl)
theorem om273 : ∀ {x0 x1 : Nat} {x2 x3 : Nat} {x4 x5 : Nat}, (x2 < x3) → (x3 < x4) → (x4 < x5) → (x5 < x1) → (x0 < x2) → (¬ (x0 = x1)) := fun {x0} {x1} {x2} {x3} {x4} {x5} => sums 0 (.im (.lt true (.v 2) (.v 3)) (.im (.lt true (.v 3) (.v 4)) (.im (.lt true (.v 4) (.v 5)) (.im (.lt true (.v 5) (.v 1)) (.im (.lt true (.v 0) (.v 2)) (.no (.eq true (.v 0) (.v 1)))))))) [x0, x1, x2, x3, x4, x5] [] (by kernel_rfl)
theorem om274 : ∀ {x0 x1 : Nat} {x2 x3 : Nat} {x4 x5 x6 : Nat}, (x2 < x3) → (x3 < x4) → (x4 < x5) → (x5 < x6) → (x6 < x1) → (x0 < x2) → (¬ (x0 = x1)) := fun {x0} {x1} {x2} {x3} {x4} {x5} {x6} => sums 0 (.im (.lt true (.v 2) (.v 3)) (.im (.lt true (.v 3) (.v 4)) (.im (.lt true (.v 4) (.v 5)) (.im (.lt true (.v 5) (.v 6)) (.im (.lt true (.v 6) (.v 1)) (.im (.lt true (.v 0) (.v 2)) (.no (.eq true (.v 0) (.v 1))))))))) [x0, x1, x2, x3, x4, x5, x6] [] (by kernel_rfl)
theorem om275 : ∀ {x0 x1 : Nat} {x2 x3 : Nat} {x4 x5 : Nat} {x6 x7 x8 : Nat}, (x2 < x3) → (x3 < x4) → (x4 < x5) → (x5 < x6) → (x6 < x7) → (x7 < x8) → (x8 < x1) → (x0 < x2) → (¬ (x0 = x1)) := fun {x0} {x1} {x2} {x3} {x4} {x5} {x6} {x7} {x8} => sums 0 (.im (.lt true (.v 2) (.v 3)) (.im (.lt true (.v 3) (.v 4)) (.im (.lt true (.v 4) (.v 5)) (.im (.lt true (.v 5) (.v 6)) (.im (.lt true (.v 6) (.v 7)) (.im (.lt true (.v 7) (.v 8)) (.im (.lt true (.v 8) (.v 1)) (.im (.lt true (.v 0) (.v 2)) (.no (.eq true (.v 0) (.v 1))))))))))) [x0, x1, x2, x3, x4, x5, x6, x7, x8] [] (by kernel_rfl)
theorem om276 : ∀ {x0 x1 x2 : Nat}, (x2 < x1) → (x0 < x2) → (¬ (x0 = x1)) := fun {x0} {x1} {x2} => sums 0 (.im (.lt true (.v 2) (.v 1)) (.im (.lt true (.v 0) (.v 2)) (.no (.eq true (.v 0) (.v 1))))) [x0, x1, x2] [] (by kernel_rfl)
theorem om277 : ∀ {x0 x1 : Nat}, (x1 ≤ 63) → (x0 = x1) → (x0 ≤ 16777216) := fun {x0} {x1} => sums 0 (.im (.le true (.v 1) (.n 63)) (.im (.eq true (.v 0) (.v 1)) (.le true (.v 0) (.n 16777216)))) [x0, x1] [] (by kernel_rfl)
theorem om278 : ((0 : Int) ≤ (0 : Int)) := sums 0 (.le false (.n 0) (.n 0)) [] [] (by kernel_rfl)
theorem om279 : ((0 : Int) < (1000 : Int)) := sums 0 (.lt false (.n 0) (.n 1000)) [] [] (by kernel_rfl)
theorem om280 : ((1 : Int) ≤ (3 : Int)) := sums 0 (.le false (.n 1) (.n 3)) [] [] (by kernel_rfl)
theorem om281 : ((3 : Int) ≤ (10 : Int)) := sums 0 (.le false (.n 3) (.n 10)) [] [] (by kernel_rfl)
theorem om282 : ∀ {x0 : Int}, ((0 : Int) ≤ x0) → (x0 < (3 : Int)) → ((x0 = (0 : Int)) ∨ ((x0 = (1 : Int)) ∨ (x0 = (2 : Int)))) := fun {x0} => sums 1 (.im (.le false (.n 0) (.v 0)) (.im (.lt false (.v 0) (.n 3)) (.or (.eq false (.v 0) (.n 0)) (.or (.eq false (.v 0) (.n 1)) (.eq false (.v 0) (.n 2)))))) [] [x0] (by kernel_rfl)
theorem om283 : ((0 : Int) ≤ ((0 : Int) + (1 : Int))) := sums 0 (.le false (.n 0) (.ad (.n 0) (.n 1))) [] [] (by kernel_rfl)
theorem om284 : (((0 : Int) + (1 : Int)) ≤ ((1 : Int) + ((4 : Int) * (0 : Int)))) := sums 0 (.le false (.ad (.n 0) (.n 1)) (.ad (.n 1) (.ml 4 (.n 0)))) [] [] (by kernel_rfl)
end
section
set_option maxRecDepth 100000
noncomputable def Con (w : World) (dmax umax : Nat) (f : Addr) (vs : List Value) (Pre : List (Addr × Obj) → Prop) (Post : List (Addr × Obj) → Value → List (Addr × Obj) → Prop) : Prop :=
  ∀ (p : Program) (loose : List Str) (mean : ExcName → Option Value) (mg mb : Str → Option Value) (dp un : Nat) (gd : Option (List Code)) (cn : Str) (cs : Scope) (a : Addr) (ccd : Value) (cl : List (Str × Addr)) (outer : List Env) (A₀ : Around) (base h₀ : Heap) (L : Addr) (m : Str → Option Value) (news : List (Addr × Obj)) (s : Shared)
    (Q E : Value → Shared → Prop),
    Below A₀ base outer h₀ → Fr h₀ L s.heap m → (KK w.params).In h₀ → News h₀ L s.heap news → Top p loose mean mg mb h₀ → cs.kind = .function → dp + dmax < recursionLimit → un + umax < cLine → Pre news →
    (∀ r h' tk' news', Fr h₀ L h' m → News h₀ L h' news' → Post news r news' → Q r { s with heap := h', toks := tk' }) →
    wpAny (model PySem.Challenge.rw_sa0599_01.row.prog w) (ktrTop dp un gd cn cs L a ccd cl outer) (call (.ref f) vs) Q E s
@[irreducible] noncomputable def setAt (d : Addr) (o : Obj) (news : List (Addr × Obj)) : List (Addr × Obj) := news.map fun p => if p.1 = d then (d, o) else p
noncomputable def offAt (d : Addr) (news : List (Addr × Obj)) : List (Addr × Obj) := news.filter fun p => decide (p.1 ≠ d)
theorem offAt_ne {d : Addr} {news : List (Addr × Obj)} : ∀ p ∈ offAt d news, p.1 ≠ d := fun p hp => by simpa [offAt] using (List.mem_filter.mp hp).2
theorem mem_offAt {d a : Addr} {o : Obj} {news : List (Addr × Obj)} (h : (a, o) ∈ news) (hn : a ≠ d) : (a, o) ∈ offAt d news := List.mem_filter.mpr ⟨h, by simpa using hn⟩
theorem mem_setAt_ne {d a : Addr} {o o' : Obj} {news : List (Addr × Obj)} (h : (a, o) ∈ news) (hn : a ≠ d) : (a, o) ∈ setAt d o' news := by
  unfold setAt; exact List.mem_map.mpr ⟨(a, o), h, by simp [hn]⟩
theorem mem_setAt_eq {d : Addr} {o o' : Obj} {news : List (Addr × Obj)} (h : (d, o) ∈ news) : (d, o') ∈ setAt d o' news := by
  unfold setAt; exact List.mem_map.mpr ⟨(d, o), h, by simp⟩
theorem news_off {h₀ h : Heap} {L d : Addr} {o : Obj} {news : List (Addr × Obj)} (N : News h₀ L h news) (hm : (d, o) ∈ news) : News h₀ L h ((d, o) :: offAt d news) := fun p hp => by
  rcases List.mem_cons.mp hp with rfl | hp
  · exact N _ hm
  · exact N _ (List.mem_filter.mp hp).1
theorem news_setAt {h₀ h : Heap} {L d : Addr} {o : Obj} {news : List (Addr × Obj)} (N : News h₀ L h ((d, o) :: offAt d news)) : News h₀ L h (setAt d o news) := fun p hp => by
  unfold setAt at hp
  obtain ⟨q, hq, rfl⟩ := List.mem_map.mp hp
  by_cases h : q.1 = d
  · rw [if_pos h]; exact N _ (.head _)
  · rw [if_neg h]; exact N _ (.tail _ (List.mem_filter.mpr ⟨hq, by simpa using h⟩))
theorem News.sub {h₀ h : Heap} {L : Addr} {news news' : List (Addr × Obj)} (N : News h₀ L h news) (hs : ∀ p ∈ news', p ∈ news) : News h₀ L h news' := fun p hp => N p (hs p hp)
theorem news_drop2 {h₀ h : Heap} {L : Addr} {p q : Addr × Obj} {r : List (Addr × Obj)} (N : News h₀ L h (p :: q :: r)) : News h₀ L h (p :: r) := fun x hx => by
  rcases List.mem_cons.mp hx with rfl | hx
  · exact N _ (.head _)
  · exact N _ (.tail _ (.tail _ hx))
theorem news_put {h₀ h : Heap} {L d c : Addr} {o o' : Obj} {news : List (Addr × Obj)} (N : News h₀ L h ((d, o) :: news)) (hm : (c, o') ∈ (d, o) :: news) : News h₀ L h ((d, o) :: (c, o') :: news) := fun p hp => by
  rcases List.mem_cons.mp hp with rfl | hp
  · exact N _ (.head _)
  · rcases List.mem_cons.mp hp with rfl | hp
    · exact N _ hm
    · exact N _ (.tail _ hp)
/-- entries at hand, put ahead -/
theorem news_have {h₀ h : Heap} {L : Addr} {news : List (Addr × Obj)} (N : News h₀ L h news) (l : List (Addr × Obj)) (hl : ∀ p ∈ l, p ∈ news) : News h₀ L h (l ++ news) := fun p hp => (List.mem_append.mp hp).elim (fun h => N p (hl p h)) (fun h => N p h)
theorem mem_setAt_inv {d : Addr} {o' : Obj} {news : List (Addr × Obj)} {p : Addr × Obj} (h : p ∈ setAt d o' news) : (∃ o, (d, o) ∈ news ∧ p = (d, o')) ∨ (p ∈ news ∧ p.1 ≠ d) := by
  unfold setAt at h
  obtain ⟨q, hq, rfl⟩ := List.mem_map.mp h
  by_cases e : q.1 = d
  · rw [if_pos e]; exact .inl ⟨q.2, by rw [← e]; exact hq, rfl⟩
  · rw [if_neg e]; exact .inr ⟨hq, e⟩
theorem setAt_sub {d : Addr} {o' : Obj} {l l' : List (Addr × Obj)} (h : ∀ p ∈ l, p ∈ l') : ∀ p ∈ setAt d o' l, p ∈ setAt d o' l' := fun p hp => by
  unfold setAt at hp ⊢
  obtain ⟨q, hq, rfl⟩ := List.mem_map.mp hp
  exact List.mem_map.mpr ⟨q, h q hq, rfl⟩
theorem news_set_of {h₀ h h' : Heap} {L d : Addr} {o o' : Obj} {news : List (Addr × Obj)} (N : News h₀ L h news) (hm : (d, o) ∈ news) (hs : Heap.SameBut d h h') (ho : h'.get? d = some o') : News h₀ L h' (setAt d o' news) := fun p hp => by
  rcases mem_setAt_inv hp with ⟨o1, h1, rfl⟩ | ⟨h1, h2⟩
  · exact ⟨ho, (N _ hm).2.1, (N _ hm).2.2⟩
  · exact ⟨(hs.2 _ h2).trans (N _ h1).1, (N _ h1).2⟩
theorem news_tail2 {h₀ h : Heap} {L : Addr} {p q : Addr × Obj} {r : List (Addr × Obj)} (N : News h₀ L h (p :: q :: r)) : News h₀ L h r := fun x hx => N _ (.tail _ (.tail _ hx))
theorem news_setTail2 {h₀ h : Heap} {L d : Addr} {o : Obj} {p q : Addr × Obj} {r : List (Addr × Obj)} (N : News h₀ L h (setAt d o (p :: q :: r))) : News h₀ L h (setAt d o r) := News.sub N (setAt_sub fun _ h => .tail _ (.tail _ h))
theorem valueAt_cons {K : Type} [DecidableEq K] (k : K) (v : Value) (r : List (K × Value)) (x : K) : valueAt ((k, v) :: r) x = if k = x then some v else valueAt r x := by
  unfold valueAt
  rw [List.find?_cons]
  by_cases h : k = x
  · simp [h]
  · simp [h]
end
section
set_option maxRecDepth 100000
theorem isStrOf_at (k : Str) : ∀ {vs : List Value} {ns : List Str}, StrsAre vs ns → ∀ (j : Nat) (h1 : j < vs.length) (h2 : j < ns.length), isStrOf k vs[j] = (ns[j] == k)
  | _, _, .cons n t _, 0, _, _ => rfl
  | _, _, .cons n t r, j + 1, h1, h2 => isStrOf_at k r j (Nat.lt_of_succ_lt_succ h1) (Nat.lt_of_succ_lt_succ h2)
theorem ne_of_lt_idxOfS {k : Str} : ∀ {ns : List Str} {j : Nat}, j < ns.idxOf k → ∀ (h2 : j < ns.length), (ns[j] == k) = false
  | n :: r, 0, h, _ => by
    by_cases e : n = k
    · subst e; simp at h
    · simpa using e
  | n :: r, j + 1, h, h2 => by
    by_cases e : n = k
    · subst e; simp at h
    · have hb : (n == k) = false := by simpa using e
      have h' : j < r.idxOf k := by
        rw [List.idxOf_cons, hb] at h
        exact Nat.lt_of_succ_lt_succ h
      exact ne_of_lt_idxOfS h' (Nat.lt_of_succ_lt_succ h2)
theorem strs_length : ∀ {vs : List Value} {ns : List Str}, StrsAre vs ns → vs.length = ns.length
  | _, _, .nil => rfl
  | _, _, .cons _ _ h => by simp [strs_length h]
section
variable {prog : Program} {w : World} {A : Around} {E : Value → Shared → Prop} {s : Shared}
theorem index_strs {l : Addr} {vs : List Value} {ns : List Str} {k : Str} {t : Tok} {Q : Value → Shared → Prop} (hl : s.heap.IsList l vs.toArray) (hi : StrsAre vs ns)
    (hsm : ns.length ≤ 1000) (hk : k ∈ ns) (h : Q (.int (ns.idxOf k : Nat) s.toks) { s with toks := s.toks + 1 }) :
    wpAny (model prog w) A (call (.builtin "list.index") [.ref l, .str k t]) Q E s := by
  obtain ⟨⟨cls, dd, data, sl⟩, ho, hc, n, hd⟩ := id hl
  simp only at hc hd
  subst hc hd
  have hlen := strs_length hi
  have hj : ns.idxOf k < ns.length := List.idxOf_lt_length_iff.mpr hk
  refine call_meets PySem.F.slot_list_index ⟨_, ho, rfl⟩ PySem.F.entry_list_index (PySem.F.args_list_index_2 _ _)
    (PySem.SeqAt.list_indexAt l vs.toArray n dd sl (.str k t) (isStrOf k) (ns.idxOf k) (by simpa [hlen] using hj) (by omega) ?_ ?_) ⟨ho, fun y hy => (eq_isStrOf k t hi y (by simpa using hy)).at _ _, h⟩
  · show isStrOf k vs[ns.idxOf k] = true
    rw [isStrOf_at k hi _ (om1 hlen hj) hj]
    simpa using List.getElem_idxOf hj
  · intro j hjs hlt
    show isStrOf k vs[j] = false
    rw [isStrOf_at k hi j (by simpa using hjs) (om2 hlen hj hlt)]
    exact ne_of_lt_idxOfS hlt _
theorem set_at {h₀ : Heap} {L D : Addr} {m : Str → Option Value} {news : List (Addr × Obj)} {its : Array Value} {n : Nat} {k : Int} {t : Tok} {v : Value} {Q : Unit → Shared → Prop} (F : Fr h₀ L s.heap m) (N : News h₀ L s.heap news) (hm : (D, listOf its n) ∈ news) (h0 : 0 ≤ k) (hf : k < 2 ^ 63) (h1 : k < its.size)
    (h : ∀ h', Fr h₀ L h' m → News h₀ L h' (setAt D (listOf (its.setIfInBounds k.toNat v) n) news) → Q () { s with heap := h' }) : wpAny (model prog w) A (setItem (.ref D) (.int k t) v) Q E s := by
  have z := N _ hm
  refine ki_setAt z.1 h0 hf h1 (h _ (F.change (Heap.SameBut.update ..) z.2.1 z.2.2) (news_set_of N hm (Heap.SameBut.update ..) ?_))
  have q := PySem.IsL.update z.1 (fun a => a.setIfInBounds k.toNat v)
  simpa using q
end
end
local macro_rules | `(tactic| walk_at "ne9") => `(tactic| first | assumption | exact Ne.symm (by assumption))
local macro_rules | `(tactic| k_mem) => `(tactic| first | exact List.Mem.head _ | ktr_member | (refine' mem_setAt_eq ?mm; case mm => k_mem) | (refine' mem_setAt_ne ?mm ?nn; (case mm => k_mem); (case nn => walk_at "ne9")) | (refine' List.mem_cons_of_mem _ ?mm; case mm => k_mem))
local macro_rules | `(tactic| k_room) => `(tactic| (simp only [depth_under_make, depth_under_kw, depth_in1, depth_deeper, depth_caller, ktrTop]; omega))
local macro_rules | `(tactic| k_units) => `(tactic| (simp only [units_in1, units_deeper, Around.mark_units, units_caller, ktrTop]; omega))
section
set_option maxRecDepth 100000
-- attributes of the world's own dict, known by getL
end
local macro_rules | `(tactic| walk_at "getAttr ref") => `(tactic| (k_here; k_dflt (refine' get_own ?k1 ?k2 ?k3 ?k4 ?k5 ?k6 ?k7 ?k8 ?k9 ?_; (case k1 | k2 => k_asm); (case k3 => k_inst); (case k4 | k5 | k6 | k7 => k_is); (case k8 => with_reducible assumption); (case k9 => k_handed); k_whole)))
local macro_rules | `(tactic| walk_at "subscriptTail") => `(tactic| (k_here; (with_reducible show wpAny _ _ (subscriptTail _ _ (Value.ref _) (Value.str _ _)) _ _ _); k_dflt (refine kda_item (knd := PySem.strKind _ _) (by k_asm) (by k_mem) (by k_asm) (strKind_is _ _ _ _) (by k_asm) ?_)))
local macro_rules | `(tactic| walk_at "compareOp NotIn str ref") => `(tactic| (k_here; (with_reducible show wpAny _ _ (compareOp CmpOp.NotIn (Value.str _ _) (Value.ref _)) _ _ _); k_dflt (refine notin_list_strs (News.isList (by k_asm) (by k_mem)) (by assumption) ?_); (try simp only [*, Bool.not_true, Bool.not_false])))
local macro_rules | `(tactic| walk_at "call builtin:list.index") => `(tactic| (k_here; (with_reducible show wpAny _ _ (call (Value.builtin _) [Value.ref _, Value.str _ _]) _ _ _); k_dflt (refine index_strs (News.isList (by k_asm) (by k_mem)) (by assumption) (by assumption) (by assumption) ?_)))
local macro_rules | `(tactic| walk_at "setItem ref int") => `(tactic| (k_here; k_dflt (refine' set_at ?F ?N ?m ?a ?b ?c ?_; (case F | N => k_asm); (case m => k_mem); (case a | b => omega); (case c => first | assumption | omega)); intro h' F' N'; (try k_sweep)))
section
set_option maxRecDepth 100000
theorem execs_cons_tok {M : Model} {A : Around} {E : Value → Shared → Prop} {st : Stmt} {rest : List Stmt} {env : Env} {Q : Flow → Shared → Prop} {h : Heap} {g : Array GenState} {d : Drawn} {k : Nat} {os : OsState}
    (H : ∀ k, wpAny M A (exec st env) (fun f s' => match f with | .next => wpAny M A (execs rest env) Q E s' | f => Q f s') E ⟨h, g, d, k, os⟩) : wpAny M A (execs (st :: rest) env) Q E ⟨h, g, d, k, os⟩ := wpAny_execs_cons (H _)
end
local macro_rules | `(tactic| walk_at "execs cons") => `(tactic| ((with_reducible show wpAny _ _ (execs (_ :: _) _) _ _ _); first | (k_here; k_made; walk_at "execs cons") | ((try dsimp only); (try k_fold); refine execs_cons_tok ?_; intro tk9; (try dsimp only))))
section
set_option maxRecDepth 100000
set_option maxHeartbeats 8000000
noncomputable abbrev rawExc (t : Addr) (d : Option Addr) : Obj := { cls := .ref 34, dict := d, data := .fields #[.ref t, .none, .none, .none, .bool false, .none] }
noncomputable abbrev mwObj (e : Addr) : Obj := { cls := .type "method-wrapper", data := .fields #[.builtin "Exception.__init__", .ref e] }
theorem wd_slot : Slot "wrapper_descriptor" "__get__" "wrapper_descriptor.__get__" := .of (owner := "wrapper_descriptor") (n := "__get__") (by rw [typeLookup_type, builtinLookup_eq_fast]; kernel_rfl) (by decide +kernel) (by decide +kernel) (by decide +kernel) (.inl (by decide +kernel)) (by rw [isSubtype_type]; kernel_rfl)
theorem wd_entry : entryFor table "wrapper_descriptor.__get__" = some Builtin.«wrapper_descriptor.__get__» := entryFor_of_tree (by kernel_rfl)
theorem wd_type : typeOf (.builtin "Exception.__init__") = pure (.type "wrapper_descriptor") := by kernel_rfl
theorem wd_args (a b c : Value) : argsOk "wrapper_descriptor.__get__" ⟨[a, b, c], []⟩ := by unfold argsOk; kernel_rfl
section
variable {prog : Program} {w : World} {M : Model} {A : Around} {E : Value → Shared → Prop} {h : Heap} {g : Array GenState} {d : Drawn} {t : Nat} {os : OsState}
theorem wd_run {e : Addr} {o : Obj} {Q : Fin → Shared → Prop} (he : h.get? e = some o) (hc : o.cls = .ref 34) (hs : Looks M h (isSubtype (.ref 34) (.type "Exception")) true)
    (hq : Q (.done (.ret (.ref h.objs.size))) ⟨h.push (mwObj e), g, d, t, os⟩) : wpAny M A (Builtin.«wrapper_descriptor.__get__» ⟨[.builtin "Exception.__init__", .ref e, .ref 34], []⟩) Q E ⟨h, g, d, t, os⟩ := by
  have hown : ".".intercalate ("Exception.__init__".cutAt '.').dropLast = "Exception" := by decide +kernel
  unfold Builtin.«wrapper_descriptor.__get__»
  repeat (first
    | (with_reducible refine wpAny_loadPart_at he ?_; rw [hc])
    | (rw [hown]; with_reducible refine Looks.at hs ?_)
    | wp_step
    | dsimp only)
  exact hq
theorem mw_check {e : Addr} {o oC : Obj} {cd : ClassData} (hC : h.get? 34 = some oC) (hCd : oC.data = .cls cd) {x : Str} {tk : Tok} {Q : Unit → Shared → Prop} (he : h.get? e = some o) (hc : o.cls = .ref 34) (_hs : Looks M h (isSubtype (.ref 34) (.type "Exception")) true) (hq : Q () ⟨h, g, d, t, os⟩) : wpAny M A (checkBoundCall "Exception.__init__" ⟨[.ref e, .str x tk], []⟩) Q E ⟨h, g, d, t, os⟩ := by
  unfold checkBoundCall
  simp only [PySem.F.excCall_Exception.initRow, PySem.F.excCall_Exception.initKind]
  rw [if_pos (by decide)]
  have chk : ∀ (a b : String) (n : Nat), Bind.check ⟨.positional, "*", "Exception", .self, [⟨"args", .varPos, false⟩]⟩ a b n [] = pure () := fun a b n => check_star_args _ _ _ _ _ _
  unfold Bind.checkArgs
  repeat (first
    | (with_reducible refine wpAny_loadPart_at he ?_; rw [hc])
    | (with_reducible refine wpAny_load hC ?_; rw [hCd])
    | (with_reducible refine wpAny_onRaise ?_; dsimp only [List.map]; rw [chk])
    | wp_step
    | dsimp only)
  exact hq
theorem sup_ga {so e : Addr} {o : Obj} {l₀ l : List Value} {K : Frag} {tk : Tok} {Q : Fin → Shared → Prop} (X : K.In h) (hso : h.get? so = some (ks_superObj 34 e 34)) (he : h.get? e = some o) (hc : o.cls = .ref 34) (hne : e ≠ 34)
    (hs : Looks (model prog w) h (isSubtype (.ref 34) (.type "Exception")) true) (hno : Looks (model prog w) h (opaqueClassAbove (.ref 34)) none) (hm : Looks (model prog w) h (mroOf (.ref 34)) l₀) (hl : (l₀.dropWhile (· != .ref 34)).drop 1 = l)
    (hf : alongIn K (Str.ofString "__init__") l = some (some (.builtin "Exception.__init__")))
    (hq : Q (.done (.ret (.ref h.objs.size))) ⟨h.push (mwObj e), g, d, t, os⟩) :
    wpAny (model prog w) A (Builtin.«super.__getattribute__» ⟨[.ref so, .str (Str.ofString "__init__") tk], []⟩) Q E ⟨h, g, d, t, os⟩ := by
  have hlk := wd_slot.lookup
  have hnc : (Value.ref e == Value.ref 34) = false := by simp [hne]
  have hT : (⟨h, g, d, t, os⟩ : Shared).TypeIs (.builtin "Exception.__init__") "wrapper_descriptor" := wd_type
  have dd : (ks_superObj 34 e 34).data = .fields #[.ref 34, .ref e, .ref 34] := rfl
  have i0 : (#[.ref 34, .ref e, .ref 34] : Array Value)[0]? = some (.ref 34) := rfl
  have i1 : (#[.ref 34, .ref e, .ref 34] : Array Value)[1]? = some (.ref e) := rfl
  have i2 : (#[.ref 34, .ref e, .ref 34] : Array Value)[2]? = some (.ref 34) := rfl
  have hn : (Str.ofString "__init__" == ("__class__" : Str)) = false := by decide +kernel
  unfold Builtin.«super.__getattribute__»
  repeat (first
    | (with_reducible refine wpAny_field hso dd i0 ?_)
    | (with_reducible refine wpAny_field hso dd i1 ?_)
    | (with_reducible refine wpAny_field hso dd i2 ?_)
    | (with_reducible refine ks_wpAny_notOpaque hno ?_)
    | (with_reducible refine Looks.at hm ?_; rw [hl])
    | (refine ks_forIn_along X (fun _ _ => rfl) rfl ?_ hf)
    | (with_reducible refine wpAny_typeOf hT ?_)
    | (with_reducible refine wpAny_call_entry wd_slot hT wd_entry ?_ (wd_args _ _ _); refine wd_run he hc hs ?_)
    | (with_reducible refine ⟨_, rfl, ?_⟩)
    | (simp only [hn, hnc, Bool.or_false, Bool.false_eq_true, if_false])
    | wp_step
    | dsimp only)
  exact hq
theorem sup_method {so e : Addr} {o : Obj} {l₀ l : List Value} {K : Frag} {pl : Sem Bool} {Q : Value × List Value → Shared → Prop} (X : K.In h) (hso : h.get? so = some (ks_superObj 34 e 34)) (he : h.get? e = some o) (hc : o.cls = .ref 34) (hne : e ≠ 34)
    (hs : Looks (model prog w) h (isSubtype (.ref 34) (.type "Exception")) true) (hno : Looks (model prog w) h (opaqueClassAbove (.ref 34)) none) (hm : Looks (model prog w) h (mroOf (.ref 34)) l₀) (hl : (l₀.dropWhile (· != .ref 34)).drop 1 = l)
    (hf : alongIn K (Str.ofString "__init__") l = some (some (.builtin "Exception.__init__")))
    (hq : Q (.ref h.objs.size, []) ⟨h.push (mwObj e), g, d, t + 1, os⟩) :
    wpAny (model prog w) A (getMethod (.ref so) (Str.ofString "__init__") pl) Q E ⟨h, g, d, t, os⟩ := by
  have hlk := F.ks_slot_super_ga.lookup
  have hT : ∀ t', (⟨h, g, d, t', os⟩ : Shared).TypeIs (.ref so) "super" := fun _ => ⟨_, hso, rfl⟩
  unfold getMethod
  refine wpAny_bind (wpAny_specialOf (hT _) hlk ?_)
  dsimp only
  rw [if_pos F.ks_canon_super_ga]
  unfold getAttr getAttrBy getAttrByItsOwn hookBefore callGetattribute boundAndCalled
  repeat (first
    | (with_reducible refine wpAny_mkText ?_)
    | (with_reducible refine wpAny_typeOf (hT _) ?_)
    | (with_reducible refine wpAny_of_eq hlk ?_)
    | (with_reducible refine wpAny_of_eq (F.ks_slot_super_ga.bind _) ?_)
    | (with_reducible refine wpAny_attempt ?_)
    | ((with_reducible show wpAny _ _ (call (Value.builtin "super.__getattribute__") _) _ _ _); show wpAny _ _ (call (Value.builtin "super.__getattribute__") [Value.ref so, Value.str (Str.ofString "__init__") _]) _ _ _; refine wpAny_call_entry F.ks_slot_super_ga (hT _) F.ks_entry_super_ga ?_ (F.ks_gaArgs_super _ _); refine sup_ga X hso he hc hne hs hno hm hl hf ?_)
    | (with_reducible refine ⟨_, rfl, ?_⟩)
    | wp_step
    | dsimp only)
  exact hq
theorem mw_call {q e : Addr} {o oC : Obj} {cd : ClassData} {x : Str} {tk : Tok} {t₀ : Addr} {dd : Option Addr} {Q : Value → Shared → Prop} (hC : h.get? 34 = some oC) (hCd : oC.data = .cls cd) (hqo : h.get? q = some (mwObj e)) (he : h.get? e = some (rawExc t₀ dd))
    (hs : Looks (model prog w) h (isSubtype (.ref 34) (.type "Exception")) true)
    (hq : Q .none ⟨(h.push { cls := .type "tuple", data := .seq #[.str x tk] }).update e (Obj.mapFields (·.setIfInBounds 0 (.ref h.objs.size))), g, d, t, os⟩) :
    wpAny (model prog w) A (call (.ref q) [.str x tk]) Q E ⟨h, g, d, t, os⟩ := by
  refine wpAny_call (codeAny_of_tree ?_)
  show wpAny _ _ (callAny (.ref q) _) _ _ _
  unfold callAny
  refine wpAny_bind (wpAny_load hqo ?_)
  dsimp only
  repeat (first
    | ((with_reducible show wpAny _ _ (checkBoundCall _ _) _ _ _); refine mw_check hC hCd he rfl hs ?_)
    | wp_step
    | dsimp only)
  refine ⟨Code.quiet_builtin _ (by decide +kernel), codeAny_builtin PySem.F.excCall_Exception.initEntry ?_⟩
  unfold Builtin.«BaseException.__init__»
  dsimp only
  have hee : e ≠ h.objs.size := Nat.ne_of_lt (Heap.lt_size he)
  have he1 := Heap.get?_push_of_some { cls := .type "tuple", data := .seq #[.str x tk] } he
  repeat (first
    | (with_reducible refine wpAny_field he1 rfl rfl ?_)
    | wp_step
    | dsimp only)
  exact hq
end
end
section
set_option maxRecDepth 100000
/-- a tree that leaves every object's dict where it is -/
noncomputable def Gentle {α : Type} : Sem α → Prop
  | .pure _ => True
  | .raise _ => True
  | .unsupported _ => True
  | .finish _ => True
  | .rule _ k => Gentle (k ())
  | .at _ k => Gentle (k ())
  | .load _ _ k => ∀ o, Gentle (k o)
  | .update _ _ f k => (∀ o, (f o).dict = o.dict) ∧ Gentle (k ())
  | .loadIfAlive _ k => ∀ o, Gentle (k o)
  | .point _ k => Gentle (k ())
  | .register _ _ => True
  | .alloc _ k => ∀ a, Gentle (k a)
  | .fresh k => ∀ a, Gentle (k a)
  | .ask k => ∀ a, Gentle (k a)
  | .choose _ _ k => ∀ a, Gentle (k a)
  | .os _ _ k => ∀ a, Gentle (k a)
  | .call _ _ _ _ _ => False
  | .handled _ k => ∀ a, Gentle (k a)
  | .genState _ k => ∀ a, Gentle (k a)
  | .newGen _ k => ∀ a, Gentle (k a)
  | .resume _ _ _ _ => False
  | .yield _ _ _ _ => True
  | .stack k => ∀ a, Gentle (k a)
  | .fork _ _ => True
  | .thread k => Gentle (k 0)
  | .await _ _ _ _ _ => True
noncomputable def KD (h h' : Heap) : Prop := ∀ (b : Nat) (o : Obj), h.objs[b]? = some o → ∃ o' : Obj, h'.objs[b]? = some o' ∧ o'.dict = o.dict
theorem KD.refl (h : Heap) : KD h h := fun _ o e => ⟨o, e, rfl⟩
theorem KD.trans {h h' h'' : Heap} (x : KD h h') (y : KD h' h'') : KD h h'' := fun b o e => by
  obtain ⟨o1, e1, d1⟩ := x b o e
  obtain ⟨o2, e2, d2⟩ := y b o1 e1
  exact ⟨o2, e2, d2.trans d1⟩
theorem KD.update {h : Heap} {a : Addr} {f : Obj → Obj} (hf : ∀ o, (f o).dict = o.dict) : KD h (h.update a f) := fun b o e => by
  obtain ⟨objs, l⟩ := h
  show ∃ o', (objs.modify a f)[b]? = some o' ∧ _
  rw [Array.getElem?_modify]
  simp only at e
  by_cases q : a = b
  · rw [if_pos q, e]; exact ⟨_, rfl, hf o⟩
  · rw [if_neg q]; exact ⟨o, e, rfl⟩
theorem KD.push {h : Heap} {x : Obj} : KD h (h.push x) := fun b o e => by
  obtain ⟨objs, l⟩ := h
  show ∃ o', (objs.push x)[b]? = some o' ∧ _
  simp only at e
  have : b < objs.size := (Array.getElem?_eq_some_iff.mp e).1
  rw [Array.getElem?_push_lt this]
  exact ⟨o, by rw [← e, Array.getElem?_eq_getElem this], rfl⟩
theorem gentle_bind {α β : Type} (t : Sem α) (f : α → Sem β) (h : Gentle t) (hf : ∀ a, Gentle (f a)) : Gentle (t.bind f) := by
  induction t with
  | pure a => exact hf a
  | raise e => trivial
  | unsupported => trivial
  | finish => trivial
  | rule _ k ih => exact ih () h
  | «at» _ k ih => exact ih () h
  | load _ _ k ih => exact fun o => ih o (h o)
  | update _ _ g k ih => exact ⟨h.1, ih () h.2⟩
  | loadIfAlive _ k ih => exact fun o => ih o (h o)
  | point _ k ih => exact ih () h
  | register => trivial
  | alloc _ k ih => exact fun o => ih o (h o)
  | fresh k ih => exact fun o => ih o (h o)
  | ask k ih => exact fun o => ih o (h o)
  | choose _ _ k ih => exact fun o => ih o (h o)
  | os _ _ k ih => exact fun o => ih o (h o)
  | call => exact h.elim
  | handled _ k ih => exact fun o => ih o (h o)
  | genState _ k ih => exact fun o => ih o (h o)
  | newGen _ k ih => exact fun o => ih o (h o)
  | resume => exact h.elim
  | yield => trivial
  | stack k ih => exact fun o => ih o (h o)
  | fork => trivial
  | thread k ih => exact ih 0 h
  | await => trivial
theorem wp_gentle {α : Type} (M : Model) (Γ : Ctx) (t : Sem α) (Q : α → Pos → Shared → Prop) (E : Value → Pos → Shared → Prop) (h₀ : Heap) (p : Pos) (s : Shared) (hg : Gentle t) (hk : KD h₀ s.heap) (h : Sem.wp M Γ t Q E p s) :
    Sem.wp M Γ t (fun a p s' => Q a p s' ∧ KD h₀ s'.heap) (fun e p s' => E e p s' ∧ KD h₀ s'.heap) p s := by
  induction t generalizing p s with
  | pure a => exact ⟨h, hk⟩
  | raise e => exact ⟨h, hk⟩
  | unsupported => exact h
  | finish => exact h
  | rule _ k ih => exact ih () _ _ hg hk h
  | «at» _ k ih => exact ih () _ _ hg hk h
  | load _ _ k ih => obtain ⟨o, ho, h⟩ := h; exact ⟨o, ho, ih o _ _ (hg o) hk h⟩
  | update _ _ g k ih => exact ⟨h.1, ih () _ _ hg.2 (hk.trans (KD.update hg.1)) h.2⟩
  | loadIfAlive _ k ih => exact ih _ _ _ (hg _) hk h
  | point _ k ih => exact ih () _ _ hg hk h
  | register => exact h
  | alloc _ k ih => exact ih _ _ _ (hg _) (hk.trans KD.push) h
  | fresh k ih => exact ih _ _ _ (hg _) hk h
  | ask k ih => exact ih _ _ _ (hg _) hk h
  | choose _ _ k ih => exact ⟨h.1, ih _ _ _ (hg _) hk h.2⟩
  | os _ _ k ih => exact ih _ _ _ (hg _) hk h
  | call => exact hg.elim
  | handled _ k ih => exact ih _ _ _ (hg _) hk h
  | genState _ k ih => obtain ⟨o, ho, h⟩ := h; exact ⟨o, ho, ih _ _ _ (hg _) hk h⟩
  | newGen _ k ih => exact ih _ _ _ (hg _) hk h
  | resume => exact hg.elim
  | yield => exact h
  | stack k ih => exact ih _ _ _ (hg _) hk h
  | fork => exact h
  | thread k ih => exact ih 0 _ _ hg hk h
  | await => exact h
theorem wpAny_gentle {α : Type} {M : Model} {A : Around} {t : Sem α} {Q : α → Shared → Prop} {E : Value → Shared → Prop} {s : Shared} (hg : Gentle t) (h : wpAny M A t Q E s) :
    wpAny M A t (fun a s' => Q a s' ∧ KD s.heap s'.heap) (fun e s' => E e s' ∧ KD s.heap s'.heap) s := fun Γ p hΓ =>
  wp_gentle M Γ t _ _ _ p s hg (KD.refl _) (h Γ p hΓ)
theorem gentle_bind' {α β : Type} {t : Sem α} {f : α → Sem β} (h : Gentle t) (hf : ∀ a, Gentle (f a)) : Gentle (t >>= f) := gentle_bind t f h hf
theorem gentle_pure {α : Type} {a : α} : Gentle (pure a : Sem α) := trivial
theorem gentle_un {α : Type} {a : String} : Gentle (unsupported a : Sem α) := trivial
theorem gentle_field {v : Value} {i : Nat} : Gentle (field v i) := by
  unfold field fieldsOf
  refine gentle_bind' ?_ fun a => ?_
  · split
    · refine gentle_bind' (fun o => trivial) fun o => ?_
      split
      · trivial
      · trivial
    · trivial
  · split
    · trivial
    · trivial
theorem gentle_setField {v : Value} {i : Nat} {x : Value} : Gentle (setField v i x) := by
  unfold setField
  split
  · unfold updateField
    refine gentle_bind' (fun o => trivial) fun o => ?_
    split
    · split
      · exact ⟨fun o => by unfold Obj.mapFields; split <;> rfl, trivial⟩
      · trivial
    · trivial
  · trivial
theorem gentle_setFlight {e : Value} {f : Option Addr} : Gentle (setFlight e f) := by
  unfold setFlight
  refine gentle_bind' gentle_field fun a => ?_
  split
  · exact gentle_setField
  · trivial
theorem gentle_ite {α : Type} {c : Prop} [Decidable c] {a b : Sem α} (ha : Gentle a) (hb : Gentle b) : Gentle (if c then a else b) := by split <;> assumption
theorem gentle_readyFrames : ∀ l, Gentle (readyFrames l)
  | [] => trivial
  | env :: outer => by
    unfold readyFrames
    split
    · refine gentle_bind' (fun o => trivial) fun o => ?_
      refine gentle_ite trivial ?_
      refine gentle_bind' ?_ fun im => ?_
      · unfold behindIsImport
        refine gentle_ite trivial (gentle_ite trivial (gentle_bind' gentle_field fun _ => trivial))
      refine gentle_bind' ?_ fun back => ?_
      · unfold keptBack
        split
        · refine gentle_ite trivial ?_
          unfold underTheClaimsCaller
          exact gentle_bind' (gentle_bind' (fun _ => trivial) fun _ => trivial) fun b => by cases b <;> trivial
        · trivial
      exact gentle_bind' ⟨fun o => rfl, trivial⟩ fun _ => gentle_readyFrames outer
    · trivial
theorem gentle_frameOf {env : Env} : Gentle (PySem.frameOf env) := by
  unfold PySem.frameOf frameEnvs
  refine gentle_bind' (gentle_bind' (fun _ => trivial) fun _ => trivial) fun l => ?_
  refine gentle_bind' ?_ fun r => ?_
  · unfold frameObject
    split
    · trivial
    · exact gentle_bind' (gentle_readyFrames _) fun _ => trivial
  · split
    · trivial
    · trivial
theorem gentle_noteFrame {e : Value} {env : Env} : Gentle (noteFrame e env) := by
  unfold noteFrame
  split
  · refine gentle_bind' gentle_field fun hd => ?_
    have rest : ∀ f hn, Gentle (do setField e 1 (← EntryCells.newEntry hd (← PySem.frameOf env) .none (rawInt f) .none (← entryPlaceOf f hn))) := fun f hn => by
      refine gentle_bind' gentle_frameOf fun fr => gentle_bind' ?_ fun pl => gentle_bind' ?_ fun en => gentle_setField
      · unfold entryPlaceOf
        refine gentle_bind' (fun _ => trivial) fun acts => ?_
        split
        · trivial
        · trivial
      · unfold EntryCells.newEntry newFields newObj
        dsimp only
        have as : ∀ d, Gentle (newObjAsIs (.type "traceback") d) := fun d => fun _ => trivial
        exact gentle_ite (gentle_bind' gentle_un fun _ => as _) (as _)
    split
    · refine gentle_bind' gentle_field fun x => ?_
      split
      · trivial
      · exact gentle_bind' gentle_setField fun _ => rest _ _
    · exact rest _ _
  · trivial
theorem gentle_leaving {e : Value} {env : Env} : Gentle (leaving env e) := gentle_bind' gentle_noteFrame fun _ => gentle_setFlight
theorem KD.get {h h' : Heap} (k : KD h h') {b : Addr} {o o' : Obj} (e : h.get? b = some o) (e' : h'.get? b = some o') : o'.dict = o.dict := by
  obtain ⟨o1, q, d⟩ := k b o (Heap.get?_some_iff.mp e).1
  rw [(Heap.get?_some_iff.mp e').1] at q
  cases q
  exact d
end
section
open PySem PySem.W PyProof.Rows PySem.Calls Builtin.ObjectAttr
set_option maxRecDepth 100000
set_option maxHeartbeats 4000000
section
variable {w : World} {A : Around} {E : Value → Shared → Prop} {R : Result → Shared → Prop} {h : Heap} {g : Array GenState} {d : Drawn} {t : Nat} {os : OsState}
noncomputable abbrev theProg : Program := PySem.Challenge.rw_sa0599_01.row.prog
theorem exc_mro {M : Model} (X : (KK w.params).In h) : Looks M h (mroOf (.ref 34)) [.ref 34, .type "Exception", .type "BaseException", .type "object"] := (looks_clsIn X (C := 34) rfl).andThen .now
theorem exc_osa {e : Addr} {ox : Obj} {od : Option Obj} {name : Str} {tk : Tok} {v : Value} (X : (KK w.params).In h) (I : InstAt h e ox 34 od)
    (ht : findIn (KK w.params) (.ref 34) name = some none)
    (hq : wpAny (model theProg w) A.in1 (storeInOwnDict (.ref e) (.ref 34) (.str name tk) name v false) (fun fin s' => match fin with | .done f => R (.ok f) s' | .again c' => c'.quiet = true ∧ codeAny (model theProg w) A c' R s') (fun e s' => R (.error e) s') ⟨h, g, d, t, os⟩) :
    codeAny (model theProg w) A (.call (.builtin "object.__setattr__") ⟨[.ref e, .str name tk, v], []⟩) R ⟨h, g, d, t, os⟩ := by
  have SF := PySem.F.store_Exception
  have sub : Looks (model theProg w) h (isInstance (.ref e) (.type "object")) true := I.type.andThen (looks_subIn X rfl)
  refine codeAny_call_builtin SF.slot.plain SF.entry (@check_slot (model theProg w) _ _ ⟨h, g, d, t, os⟩ "object.__setattr__" "object" "__setattr__" (.ref e) [.str name tk, v] [] _ SF.kind SF.split sub (SF.args (.ref e) (.str name tk) v) ?_)
  rw [osa_eq, refuse_eq]
  refine wpAny_bind (wpAny_bind (I.type.here (wpAny_bind ((exc_mro X).here ?_))))
  rw [refuseLoop_ref, SF.passes]
  refine wpAny_pure (wpAny_bind (I.type.here (wpAny_bind ((looks_findIn X ht).here ?_))))
  exact wpAny_bind (wpAny_pure hq)
theorem exc_set {e : Addr} {ox : Obj} {od : Option Obj} {name : Str} {v : Value} {Q : Unit → Shared → Prop} (X : (KK w.params).In h) (I : InstAt h e ox 34 od)
    (ht : findIn (KK w.params) (.ref 34) name = some none)
    (hq : wpAny (model theProg w) A.in1 (storeInOwnDict (.ref e) (.ref 34) (.str name t) name v false) (fun fin s' => match fin with | .done (.ret _) => Q () s' | _ => False) E ⟨h, g, d, t + 1, os⟩) :
    wpAny (model theProg w) A (setAttr (.ref e) name v) Q E ⟨h, g, d, t, os⟩ := by
  refine set_plain X I rfl (exc_osa X I ht (wpAny_mono hq (fun fin s' z => ?_) fun _ _ y => y))
  rcases fin with (f | c)
  · cases f <;> first | exact z | exact z.elim
  · exact z.elim
theorem ns_set {D : Addr} {od : Obj} {es : Array DictEntry} {n : Nat} {name : Str} {v : Value} {Q : Unit → Shared → Prop} (hD : h.get? D = some od) (he : od.data = .dict es n) (hc : (!es.any (·.key.isStr name) && es.any (·.refKey)) = false)
    (hq : Q () ⟨h.update D (Obj.putName name (PyData.keyHash w.params name) (.str name t) v), g, d, t + 1, os⟩) : wpAny (model theProg w) A (nsSet D name v) Q E ⟨h, g, d, t, os⟩ := by
  unfold nsSet
  refine wpAny_bind (wpAny_bind (wpAny_askSetting (wpAny_pure (wpAny_bind (wpAny_mkText (wpAny_bind (wpAny_loadPart hD ?_)))))))
  rw [he]
  dsimp only
  rw [aRefKeyMayBeTheName_at, hc]
  exact wpAny_updatePart hD hq
noncomputable abbrev freshD : Obj := { cls := .type "dict", data := .dict #[] }
/-- `nsSet` and the look behind, as `storeInDict` does them -/
theorem dict_set {D : Addr} {od : Obj} {es es' : Array DictEntry} {n n' : Nat} {name : Str} {tk : Tok} {v : Value} {Q : Fin → Shared → Prop} (hD : h.get? D = some od) (he : od.data = .dict es n) (hc : (!es.any (·.key.isStr name) && es.any (·.refKey)) = false)
    (hz : (Obj.putName name (PyData.keyHash w.params name) (.str name t) v od).data = .dict es' n') (hz' : es'.size ≤ 1000)
    (hq : Q (.done (.ret .none)) ⟨h.update D (Obj.putName name (PyData.keyHash w.params name) (.str name t) v), g, d, t + 1, os⟩) : wpAny (model theProg w) A (storeInDict D (.str name tk) name v) Q E ⟨h, g, d, t, os⟩ := by
  unfold storeInDict newKeyGuard
  refine wpAny_bind (wpAny_pure (wpAny_bind (ns_set hD he hc ?_)))
  have fr : (Obj.putName name (PyData.keyHash w.params name) (.str name t) v od).isFreed = false := by
    generalize Obj.putName name (PyData.keyHash w.params name) (.str name t) v od = oo at hz
    refine byC fun nG => ?_
    obtain ⟨_, _, dd, _⟩ := oo
    refine nG ?_
    cases hz; rfl
  have hD' := Heap.get?_update_self (Obj.putName name (PyData.keyHash w.params name) (.str name t) v) hD fr
  exact wpAny_bind (wpAny_lookBehind hD' (by rw [hz]; exact pastItsLine_dict (by rw [sizeLine_eq]; exact om3 hz')) (wpAny_pure hq))
theorem exc_set1 {e D : Addr} {o od : Obj} {es es' : Array DictEntry} {n n' : Nat} {name : Str} {v : Value} {Q : Unit → Shared → Prop} (X : (KK w.params).In h) (ho : h.get? e = some o) (hcl : o.cls = .ref 34) (hn : notCls o = true) (hdd : o.dict = some D)
    (hD : h.get? D = some od) (he : od.data = .dict es n) (hc : (!es.any (·.key.isStr name) && es.any (·.refKey)) = false) (ht : findIn (KK w.params) (.ref 34) name = some none)
    (hz : (Obj.putName name (PyData.keyHash w.params name) (.str name (t + 1)) v od).data = .dict es' n') (hz' : es'.size ≤ 1000)
    (hq : Q () ⟨h.update D (Obj.putName name (PyData.keyHash w.params name) (.str name (t + 1)) v), g, d, t + 2, os⟩) : wpAny (model theProg w) A (setAttr (.ref e) name v) Q E ⟨h, g, d, t, os⟩ := by
  refine exc_set (od := some od) X ⟨ho, hcl, hn, by rw [hdd]; exact hD⟩ ht ?_
  refine byC fun nG => ?_
  obtain ⟨oc, odi, oda, osl⟩ := o
  refine nG ?_
  dsimp only at hcl hdd
  subst hcl hdd
  unfold storeInOwnDict ownDictForStores instanceDict
  refine wpAny_bind (wpAny_pure (wpAny_bind (wpAny_bind (wpAny_loadPart ho (wpAny_bind ((looks_clsIn X (C := 34) rfl).here ?_))))))
  refine wpAny_pure (a := some D) ?_
  exact dict_set hD he hc hz hz' hq
theorem exc_set0 {e : Addr} {o : Obj} {es' : Array DictEntry} {n' : Nat} {name : Str} {v : Value} {Q : Unit → Shared → Prop} (X : (KK w.params).In h) (ho : h.get? e = some o) (hcl : o.cls = .ref 34) {ws : Array Value} (hn : o.data = .fields ws) (hdd : o.dict = none)
    (ht : findIn (KK w.params) (.ref 34) name = some none)
    (hz : (Obj.putName name (PyData.keyHash w.params name) (.str name (t + 1)) v freshD).data = .dict es' n') (hz' : es'.size ≤ 1000)
    (hq : Q () ⟨((h.push freshD).update e (fun o => { o with dict := some h.objs.size })).update h.objs.size (Obj.putName name (PyData.keyHash w.params name) (.str name (t + 1)) v), g, d, t + 2, os⟩) : wpAny (model theProg w) A (setAttr (.ref e) name v) Q E ⟨h, g, d, t, os⟩ := by
  refine exc_set (od := none) X ⟨ho, hcl, by unfold notCls; rw [hn], by rw [hdd]; trivial⟩ ht ?_
  have ho' := Heap.get?_push_of_some freshD ho
  have hne : e ≠ h.objs.size := Nat.ne_of_lt (Heap.lt_size ho)
  have hD : ((h.push freshD).update e (fun o => { o with dict := some h.objs.size })).get? h.objs.size = some freshD := (Heap.get?_update_other _ _ hne).trans (Heap.get?_push_size h rfl)
  refine byC fun nG => ?_
  obtain ⟨oc, odi, oda, osl⟩ := o
  refine nG ?_
  dsimp only at hcl hdd hn
  subst hcl hdd hn
  unfold storeInOwnDict ownDictForStores instanceDict
  refine wpAny_bind (wpAny_pure (wpAny_bind (wpAny_bind (wpAny_loadPart ho (wpAny_bind ((looks_clsIn X (C := 34) rfl).here ?_))))))
  refine wpAny_bind (wpAny_alloc' (wpAny_bind (wpAny_update' ho' (wpAny_pure ?_))))
  exact dict_set (es := #[]) hD rfl (by simp) hz hz' hq
end
end
section
open PySem PySem.W PyProof.Rows PySem.Calls Builtin.ObjectAttr
set_option maxRecDepth 100000
set_option maxHeartbeats 4000000
section
variable {w : World} {A : Around} {E : Value → Shared → Prop} {h : Heap} {g : Array GenState} {dr : Drawn} {tk : Nat} {os : OsState} {h₀ : Heap} {L : Addr} {m : Str → Option Value} {news : List (Addr × Obj)}
noncomputable abbrev putAt (w : World) (name : Str) (k : Tok) (v : Value) (od : Obj) : Obj := Obj.putName name (PyData.keyHash w.params name) (.str name k) v od
theorem fresh_ground {b : Addr} (F : Fr h₀ L h m) (hb : h.get? b = none) : h₀.get? b = none := by
  cases q : h₀.get? b with
  | none => rfl
  | some o => have := F.keep b o q; rw [hb] at this; cases this
theorem get_size {h : Heap} : h.get? h.objs.size = none := by
  cases q : h.get? h.objs.size with
  | none => rfl
  | some o => exact absurd (Heap.lt_size q) (Nat.lt_irrefl _)
theorem exc_set1L {e t D : Addr} {od : Obj} {es : Array DictEntry} {es' : Tok → Array DictEntry} {n n' : Nat} {name : Str} {v : Value} {Q : Unit → Shared → Prop} (X : (KK w.params).In h) (F : Fr h₀ L h m) (N : News h₀ L h news)
    (he : (e, rawExc t (some D)) ∈ news) (hD : (D, od) ∈ news) (hdd : od.data = .dict es n) (hc' : es.toList.any (·.refKey) = false) (ht : findIn (KK w.params) (.ref 34) name = some none)
    (hz : ∀ k, (putAt w name k v od).data = .dict (es' k) n') (hz' : ∀ k, (es' k).size ≤ 1000)
    (hq : ∀ h' k tk', Fr h₀ L h' m → News h₀ L h' (setAt D (putAt w name k v od) news) → Q () ⟨h', g, dr, tk', os⟩) : wpAny (model theProg w) A (setAttr (.ref e) name v) Q E ⟨h, g, dr, tk, os⟩ := by
  have z := N _ hD
  have fr : (putAt w name (tk + 1) v od).isFreed = false := by
    have hz := hz (tk + 1)
    generalize putAt w name (tk + 1) v od = oo at hz
    obtain ⟨_, _, dd, _⟩ := oo
    cases hz; rfl
  have q := Heap.get?_update_self (Obj.putName name (PyData.keyHash w.params name) (.str name (tk + 1)) v) z.1 fr
  have hc : (!es.any (·.key.isStr name) && es.any (·.refKey)) = false := by rw [← Array.any_toList (as := es) (p := DictEntry.refKey), hc', Bool.and_false]
  exact exc_set1 X (N _ he).1 rfl rfl rfl z.1 hdd hc ht (hz _) (hz' _) (hq _ (tk + 1) (tk + 2) (F.change (Heap.SameBut.update ..) z.2.1 z.2.2) (news_set_of N hD (Heap.SameBut.update ..) q))
theorem exc_set0L {e t : Addr} {es' : Tok → Array DictEntry} {n' : Nat} {name : Str} {v : Value} {Q : Unit → Shared → Prop} (X : (KK w.params).In h) (F : Fr h₀ L h m) (N : News h₀ L h news)
    (he : (e, rawExc t none) ∈ news) (ht : findIn (KK w.params) (.ref 34) name = some none)
    (hz : ∀ k, (putAt w name k v freshD).data = .dict (es' k) n') (hz' : ∀ k, (es' k).size ≤ 1000)
    (hq : ∀ h' D k tk', (∀ p ∈ news, p.1 ≠ D) → Fr h₀ L h' m → News h₀ L h' ((D, putAt w name k v freshD) :: setAt e (rawExc t (some D)) news) → Q () ⟨h', g, dr, tk', os⟩) : wpAny (model theProg w) A (setAttr (.ref e) name v) Q E ⟨h, g, dr, tk, os⟩ := by
  have z := N _ he
  have ne : ∀ p ∈ news, p.1 ≠ h.objs.size := fun p hp => Nat.ne_of_lt (Heap.lt_size (N p hp).1)
  have F1 := F.push freshD
  have N1 := N.push F freshD
  have fresh := fresh_ground F (get_size (h := h))
  obtain ⟨oL, _, _, hoL, _⟩ := id F.ns
  have hL : h.objs.size ≠ L := (Nat.ne_of_lt (Heap.lt_size hoL)).symm
  have hee : (h.push freshD).get? e = some (rawExc t none) := (N1 (e, rawExc t none) (.tail _ he)).1
  have q1 : ((h.push freshD).update e fun o => { o with dict := some h.objs.size }).get? e = some (rawExc t (some h.objs.size)) := Heap.get?_update_self (fun o : Obj => { o with dict := some h.objs.size }) hee rfl
  have F2 := F1.change (Heap.SameBut.update (h.push freshD) e fun o => { o with dict := some h.objs.size }) z.2.1 z.2.2
  have N2 := news_set_of N1 (.tail _ he) (Heap.SameBut.update (h.push freshD) e fun o => { o with dict := some h.objs.size }) q1
  have hDm : (h.objs.size, freshD) ∈ setAt e (rawExc t (some h.objs.size)) ((h.objs.size, freshD) :: news) := mem_setAt_ne (.head _) (fun q => ne _ he q.symm)
  have zD := N2 _ hDm
  have fr : (putAt w name (tk + 1) v freshD).isFreed = false := by
    have hz := hz (tk + 1)
    generalize putAt w name (tk + 1) v freshD = oo at hz
    obtain ⟨_, _, dd, _⟩ := oo
    cases hz; rfl
  have q2 := Heap.get?_update_self (Obj.putName name (PyData.keyHash w.params name) (.str name (tk + 1)) v) zD.1 fr
  have F3 := F2.change (Heap.SameBut.update _ h.objs.size (Obj.putName name (PyData.keyHash w.params name) (.str name (tk + 1)) v)) zD.2.1 zD.2.2
  have N3 := news_set_of N2 hDm (Heap.SameBut.update _ h.objs.size (Obj.putName name (PyData.keyHash w.params name) (.str name (tk + 1)) v)) q2
  refine exc_set0 X z.1 rfl rfl rfl ht (hz _) (hz' _) (hq _ h.objs.size (tk + 1) (tk + 2) ne F3 (News.sub N3 fun p hp => ?_))
  rcases List.mem_cons.mp hp with rfl | hp
  · exact mem_setAt_eq hDm
  · rcases mem_setAt_inv hp with ⟨o, ho, rfl⟩ | ⟨hp, hne⟩
    · exact mem_setAt_ne (mem_setAt_eq (.tail _ ho)) (ne _ he)
    · exact mem_setAt_ne (mem_setAt_ne (.tail _ hp) hne) (ne _ hp)
theorem mw_callL {q e t : Addr} {dd : Option Addr} {x : Str} {xt : Tok} {Q : Value → Shared → Prop} (X : (KK w.params).In h) (F : Fr h₀ L h m) (N : News h₀ L h news) (hqo : (q, mwObj e) ∈ news) (he : (e, rawExc t dd) ∈ news)
    (hq : ∀ h' t', Fr h₀ L h' m → News h₀ L h' (setAt e (rawExc t' dd) news) → Q .none ⟨h', g, dr, tk, os⟩) : wpAny (model theProg w) A (call (.ref q) [.str x xt]) Q E ⟨h, g, dr, tk, os⟩ := by
  have z := N _ he
  have F1 := F.push { cls := .type "tuple", data := .seq #[.str x xt] }
  have N1 := N.push F { cls := .type "tuple", data := .seq #[.str x xt] }
  have hee := (N1 (e, rawExc t dd) (.tail _ he)).1
  have q1 : ((h.push { cls := .type "tuple", data := .seq #[.str x xt] }).update e (Obj.mapFields (·.setIfInBounds 0 (.ref h.objs.size)))).get? e = some (rawExc h.objs.size dd) := Heap.get?_update_self (Obj.mapFields (·.setIfInBounds 0 (.ref h.objs.size))) hee rfl
  have F2 := F1.change (Heap.SameBut.update _ e (Obj.mapFields (·.setIfInBounds 0 (.ref h.objs.size)))) z.2.1 z.2.2
  have N2 := news_set_of N1 (.tail _ he) (Heap.SameBut.update _ e (Obj.mapFields (·.setIfInBounds 0 (.ref h.objs.size)))) q1
  exact mw_call (o := rawExc t dd) (hC := X 34 _ rfl) rfl (N _ hqo).1 z.1 (looks_subIn X rfl) (hq _ _ F2 (News.sub N2 (setAt_sub fun _ hp => .tail _ hp)))
end
end
section
set_option maxRecDepth 100000
set_option maxHeartbeats 8000000
variable {w : World}
/-- what stands after a class of the program's own has made an exception, before its `__init__` -/
theorem made_news {h₀ h h' : Heap} {L e : Addr} {m : Str → Option Value} {news : List (Addr × Obj)} {vs : List Value} (F : Fr h₀ L h m) (N : News h₀ L h news) (hm : Heap.MadeExcOf h h' e (.ref 34) vs) :
    ∃ t, Fr h₀ L h' m ∧ News h₀ L h' ((e, rawExc t none) :: (t, { cls := .type "tuple", data := .seq vs.toArray }) :: news) ∧ (∀ p ∈ news, p.1 ≠ e) ∧ (∀ p ∈ news, p.1 ≠ t) ∧ e ≠ t := by
  obtain ⟨t, he, htn, ht⟩ := hm.there
  have F' := F.keeps hm.keeps
  have nn : ∀ b, h.get? b = none → h₀.get? b = none := fun b q => by
    cases z : h₀.get? b with
    | none => rfl
    | some o => rw [F.keep _ _ z] at q; cases q
  have N0 : News h₀ L h' news := fun p hp => ⟨hm.keeps _ _ (N p hp).1, (N p hp).2⟩
  refine ⟨t, F', News.more F' (News.more F' N0 ht (fun es n q => by cases q) (nn _ htn)) he (fun es n q => by cases q) (nn _ hm.new), fun p hp q => ?_, fun p hp q => ?_, fun q => ?_⟩
  · have := (N p hp).1; rw [q, hm.new] at this; cases this
  · have := (N p hp).1; rw [q, htn] at this; cases this
  · rw [q, ht] at he; cases he
theorem ns_of_obj {h : Heap} {N : Addr} {mg : Str → Option Value} {c : Value} {d : Option Addr} {es : Array DictEntry} {k : Nat} {sl : Array (Option Value)} {name : Str} {r : Option Value} (o : h.get? N = some ⟨c, d, .dict es k, sl⟩) (G : h.Ns N mg) (e : nsFind es name = r) : mg name = r := by
  obtain ⟨o', es', ep, ho, hd, -, hf⟩ := G
  rw [o] at ho
  cases ho
  cases hd
  exact (hf name).symm.trans e
theorem keeps_mw {M : Model} {q e : Addr} (h : Heap) (X : h.get? q = some (mwObj e)) : ∃ k, (k = Keeper.frame ∨ k = Keeper.machine ∨ k = Keeper.boundFrame) ∧ Looks M h (keeperOf (.ref q)) k :=
  ⟨.machine, .inr (.inl rfl), (Looks.ld (part := none) X).andThen (by show Looks M h (pure (if (true || true : Bool) then Keeper.machine else Keeper.caller)) _; exact .now)⟩
theorem mw_with {M : Model} {A : Around} {E : Value → Shared → Prop} {s : Shared} {q e : Addr} {ex : Expr} {rest : List Expr} {env : Env} {pos : Pos} {first : List Value} {Q : Value → Shared → Prop}
    (h : wpAny M A (spliced (backTo pos (starEach (ex :: rest) env))) (fun vs s₁ => s₁.heap.get? q = some (mwObj e) ∧ wpAny M A (call (.ref q) (first ++ vs)) Q E s₁) E s)
    (he : starEach (ex :: rest) env = (false, eval ex env) :: starEach rest env := by rfl) (hplain : (backTo pos (starEach rest env)).any (·.1) = false := by rfl) :
    wpAny M A (callWith pos (.ref q) first (backTo pos (starEach (ex :: rest) env)) []) Q E s := by
  rw [he] at h ⊢
  exact callWith_of (P := fun h => h.get? q = some (mwObj e)) (by show ((false || (backTo pos (starEach rest env)).any (·.1)) || false) = false; rw [hplain]; rfl) keeps_mw (evalArgs_plain h)
theorem err_made {n : Int} {x : Str} {t1 t2 : Tok} :
    Con w 20 200 34 [.int n t1, .str x t2] (fun _ => True) (fun news r news' => ∃ e D t od es k, r = .ref e ∧ (e, rawExc t (some D)) ∈ news' ∧ (D, od) ∈ news' ∧ od.data = .dict es k ∧ lookIn "number" od = some (some (.int n t1)) ∧ (∀ p ∈ news, p ∈ news' ∧ p.1 ≠ e)) := by
  unfold Con
  k_fill
  intro p loose mean mg mb dp un gd cn cs a ccd cl outer A₀ base h₀ L m news s Q E B F X N T hk hd hu hpre hret
  refine byC fun nG => ?_
  obtain ⟨hp, g, dr, tk, os⟩ := s
  refine nG ?_
  have hC := X.keeps F.keep
  have hC34 := hC 34 _ rfl
  have hfI := hC 31 _ rfl
  have hn : hp.Ns 33 (hp.nsMap 33) := .of_isNs (isNs_of_in hC (by kernel_rfl))
  have hi : hp.nsMap 33 (Str.ofString "__init__") = some (.ref 31) := ns_of_obj (hC 33 _ rfl) hn (by kernel_rfl)
  refine wpAny_call_exc_init PySem.F.excBase_Exception hC34 hn hi hfI rfl ?_
  intro h' e hm
  refine byC fun nG => ?_
  obtain ⟨t, F', N', ne, nt, net⟩ := made_news F N hm
  refine nG ?_
  refine wpAny_call ?_
  k_dflt (refine' ks_code_super ?k1 ?k2 ?k3 ?k4 ?k5 ?kA ?kF ?kK ?k6 ?k7 ?k8 ?k9 ?kB ?_ ?c1 ?c2 ?c3 ?c4)
  case kA => exact rfl
  case kF => exact rfl
  case kK => exact hk
  case k1 => k_asm
  case k2 => k_asm
  case k3 => k_asm
  case k4 => k_asm
  case k5 => k_asm
  case k6 => k_is
  case k7 => k_is
  case k8 => k_room
  case k9 => exact binds_K (X.keeps F'.keep) rfl (by k_is) rfl rfl rfl
  case kB => exact locs rfl
  case c1 => decide
  case c2 => exact rfl
  case c3 => exact rfl
  case c4 => exact rfl
  intro g' L' h2 FG' F2 N2 B' X' T' l1
  try dsimp only
  try k_lift B'
  k_steps
  obtain ⟨N0, l0⟩ : News g' L' h2 ((e, rawExc t none) :: (t, { cls := .type "tuple", data := .seq [Value.int n t1, Value.str x t2].toArray }) :: news) ∧ True := ⟨N2, trivial⟩
  have he0 := (N2 _ (.head _)).1
  k_dflt (refine ks_node (by k_asm) (by k_asm) (by k_asm) (by k_asm) (by k_is) (by rfl) (by rfl) (I := (⟨he0, rfl, rfl, trivial⟩ : PySem.W.InstAt _ _ _ 34 none)) (by k_is) (by rfl) (by first | rfl | decide +kernel) (by k_is) (by k_is) (by k_is) (by k_is) (by decide) (by rfl) (by rfl) (by rfl) (by rfl) (by decide +kernel) (by first | boot_by_name | rfl | kernel_rfl) ?_; intro so h3 F3 N3 l3)
  have X3 := X'.keeps F3.keep
  dsimp only at N3
  refine sup_method (l₀ := [.ref 34, .type "Exception", .type "BaseException", .type "object"]) (l := [.type "Exception", .type "BaseException", .type "object"]) (e := e) X3 (N3 _ (.head _)).1 (N3 _ (.tail _ (.head _))).1 rfl (ks_ne (C := 34) X3 (⟨(N3 _ (.tail _ (.head _))).1, rfl, rfl, trivial⟩ : PySem.W.InstAt _ _ _ 34 none) rfl) (looks_subIn X3 rfl) (looks_opaque X3 (by k_is)) (exc_mro X3) rfl (by kernel_rfl) ?_
  refine byC fun nG => ?_
  obtain ⟨F4, N4, l4⟩ := ks_newsPush (s := ⟨h3, g, dr, 0, os⟩) (o := mwObj e) F3 N3 rfl (Heap.get?_push_at rfl rfl) (fun b o e => Heap.get?_push_of_some _ e)
  refine nG ?_
  generalize h3.push (mwObj e) = h4 at F4 N4 ⊢
  generalize h3.objs.size = qq at F4 N4 l4 ⊢
  refine mw_with (e := e) ?_
  k_steps
  · exact (N4 _ (.head _)).1
  have X4 := X'.keeps F4.keep
  refine mw_callL X4 F4 N4 (.head _) (.tail _ (.tail _ (.head _))) ?_
  intro h5 t5 F5 N5
  have ne5 : ∀ p ∈ news, p.1 ≠ e := ne
  have N5' := News.sub (news' := (e, rawExc t5 none) :: news) N5 (fun p hp => by
    rcases List.mem_cons.mp hp with rfl | hp
    · exact mem_setAt_eq (.tail _ (.tail _ (.head _)))
    · exact mem_setAt_ne (.tail _ (.tail _ (.tail _ (.tail _ hp)))) (ne p hp))
  clear N5
  k_steps
  refine exc_set0L (X'.keeps F5.keep) F5 N5' (.head _) (by rfl) (fun k => rfl) (fun k => Nat.le_of_ble_eq_true rfl) ?_
  intro h6 D k6 tk6 ne6 F6 N6
  have neD := fun p hp => ne6 p (.tail _ hp)
  have neE : e ≠ D := ne6 _ (.head _)
  have N6' := News.sub (news' := (D, putAt w "number" k6 (.int n t1) freshD) :: (e, rawExc t5 (some D)) :: news) N6 (fun p hp => by
    rcases List.mem_cons.mp hp with rfl | hp
    · exact .head _
    rcases List.mem_cons.mp hp with rfl | hp
    · exact .tail _ (mem_setAt_eq (.head _))
    · exact .tail _ (mem_setAt_ne (.tail _ hp) (ne p hp)))
  clear N6
  k_steps
  refine exc_set1L (X'.keeps F6.keep) F6 N6' (.tail _ (.head _)) (.head _) rfl (by rfl) (by rfl) (fun k => rfl) (fun k => Nat.le_of_ble_eq_true rfl) ?_
  intro h7 k7 tk7 F7 N7
  have N7' := News.sub (news' := (D, putAt w "told" k7 (.str x t2) (putAt w "number" k6 (.int n t1) freshD)) :: (e, rawExc t5 (some D)) :: news) N7 (fun p hp => by
    rcases List.mem_cons.mp hp with rfl | hp
    · exact mem_setAt_eq (.head _)
    rcases List.mem_cons.mp hp with rfl | hp
    · exact mem_setAt_ne (.tail _ (.head _)) neE
    · exact mem_setAt_ne (.tail _ (.tail _ hp)) (neD p hp))
  clear N7
  k_steps
  exact hret _ _ _ _ (by k_asm) (by k_asm) ⟨e, D, t5, _, _, _, rfl, .tail _ (.head _), .head _, rfl, rfl, fun p hp => ⟨.tail _ (.tail _ hp), ne p hp⟩⟩
end
section
set_option maxRecDepth 100000
set_option maxHeartbeats 4000000
/-- an exception of class 34 in flight, its dict known -/
noncomputable def RaisedD (base G : Heap) (l : List Env) (e D : Addr) (news : List (Addr × Obj)) (h : Heap) : Prop := RaisedSN base G l e (.ref 34) news h ∧ ∃ oe, h.get? e = some oe ∧ oe.dict = some D
section
variable {M : Model} {A : Around} {E : Value → Shared → Prop} {s : Shared}
theorem gentle_use {t : Sem Unit} {P : Heap → Prop} {Q : Unit → Shared → Prop} {e D : Addr} (hg : Gentle t) (hd : ∃ oe, s.heap.get? e = some oe ∧ oe.dict = some D)
    (h : wpAny M A t (fun _ s' => ∃ h', s' = { s with heap := h' } ∧ P h') E s) (hP : ∀ h', P h' → ∃ oe, h'.get? e = some oe)
    (hQ : ∀ h', P h' → (∃ oe, h'.get? e = some oe ∧ oe.dict = some D) → Q () { s with heap := h' }) : wpAny M A t Q E s := by
  refine wpAny_mono (wpAny_gentle hg h) (fun _ s' z => ?_) fun _ _ z => z.1
  refine byC fun nG => ?_
  obtain ⟨⟨h', rfl, hp⟩, kd⟩ := z
  obtain ⟨oe, he, hde⟩ := hd
  obtain ⟨oe', he'⟩ := hP h' hp
  refine nG ?_
  exact hQ h' hp ⟨oe', he', (kd.get he he').trans hde⟩
end
section
variable {M : Model} {A : Around} {E : Value → Shared → Prop} {s' : Shared} {base g : Heap} {outer : List Env} {L a e t D : Addr} {m : Str → Option Value} {name : Str} {scope : Scope} {cd : Value} {Q : Unit → Shared → Prop} {news news₁ : List (Addr × Obj)}
theorem leave_D (K : Below A base outer g) (F : Fr g L s'.heap m) (N : News g L s'.heap news) (he : (e, rawExc t (some D)) ∈ news) (hn : ∀ q ∈ news₁, q ∈ news ∧ q.1 ≠ e)
    (hQ : ∀ h', RaisedD base g outer e D news₁ h' → g.UpToSlots h' → Q () { s' with heap := h' }) (hk : scope.kind = .function := by rfl) :
    wpAny M (A.deeper (envOf name scope L a cd)) (leaving (envOf name scope L a cd) (.ref e)) Q E s' := by
  have K' := K.push (name := name) (a := a) (cd := cd) F hk
  have z := N _ he
  have hin : ∀ env ∈ (envOf name scope L a cd :: outer), ∀ b, env.frame = some b → b ∈ e :: (envOf name scope L a cd :: outer).filterMap (·.frame) := fun env he b hb => .tail _ (List.mem_filterMap.mpr ⟨env, he, hb⟩)
  have cases_ : ∀ {b : Addr}, b ∈ e :: (envOf name scope L a cd :: outer).filterMap (·.frame) → b = e ∨ b = L ∨ b ∈ outer.filterMap (·.frame) := fun hm => by
    rcases List.mem_cons.mp hm with h | h
    · exact .inl h
    · exact .inr (kts_mem h)
  have st : base.StaysIn (hideAll s'.heap (e :: (envOf name scope L a cd :: outer).filterMap (·.frame))) := fun b o q => hideAll_get _ (K'.stays b o q) fun hm => by
    rcases List.mem_cons.mp hm with h | h
    · have := K.stays b o q; rw [h, z.2.2] at this; cases this
    · rw [(K'.frames.mem h).1] at q; cases q
  have sg : ∀ b o, g.get? b = some o → b ∉ outer.filterMap (·.frame) → (hideAll s'.heap (e :: (envOf name scope L a cd :: outer).filterMap (·.frame))).get? b = some o := fun b o q nm => hideAll_get _ (F.keep b o q) fun hm => by
    rcases cases_ hm with h | h | h
    · rw [h, z.2.2] at q; cases q
    · rw [h, kts_self F] at q; cases q
    · exact nm h
  have hl : ∀ q ∈ news₁, (hideAll s'.heap (e :: (envOf name scope L a cd :: outer).filterMap (·.frame))).get? q.1 = some q.2 ∧ g.get? q.1 = none ∧ base.get? q.1 = none := fun q hq => by
    refine byC fun nG => ?_
    obtain ⟨hq, hne⟩ := hn q hq
    refine nG ?_
    refine ⟨hideAll_get _ (N q hq).1 fun hm => ?_, (N q hq).2.2, fresh_of_stays K.stays (N q hq).2.2⟩
    rcases cases_ hm with h | h | h
    · exact hne h
    · exact (N q hq).2.1 h
    · refine byC fun nG => ?_
      obtain ⟨o, ho, _⟩ := (K.frames.mem h).2
      refine nG ?_
      rw [(N q hq).2.2] at ho; cases ho
  have hen : (hideAll s'.heap (e :: (envOf name scope L a cd :: outer).filterMap (·.frame))).get? e = none := hideAll_none _ (.head _)
  refine gentle_use (P := fun h' => Heap.LeftW (hideAll s'.heap (e :: (envOf name scope L a cd :: outer).filterMap (·.frame))) (envOf name scope L a cd :: outer) e (.ref 34) (.ref t) s'.heap h') gentle_leaving ⟨_, z.1, rfl⟩
    (wpAny_leaving_firstW (a0 := .ref t) K'.stack (funFrames_hide K'.frames hin) rfl z.1 (fun b o hb => of_hideAll _ hb) hen rfl rfl rfl fun h' hL => ⟨h', rfl, hL⟩) (fun h' hL => ?_) fun h' hL hd => ?_
  · refine byC fun nG => ?_
    obtain ⟨_, _, ⟨oe, _, _, _, _, h, _⟩, _⟩ := hL
    refine nG ?_
    exact ⟨oe, h⟩
  · refine byC fun nG => ?_
    obtain ⟨k1, ⟨_, _, k2⟩, k3, k4⟩ := hL
    refine nG ?_
    exact hQ h' ⟨⟨_, .ref t, st, sg, hl, k1, hen, k2, k3⟩, hd⟩ ((Heap.UpToSlots.of_keeps F.keep).trans k4)
end
section
variable {w : World} {A₀ : Around} {E : Value → Shared → Prop} {s' : Shared} {base g G : Heap} {outer : List Env} {L a e D : Addr} {m : Str → Option Value} {name : Str} {scope : Scope} {cd : Value}
  {n : Str} {b₀ : Stmt} {suite : List Stmt} {pos np : Pos} {rest : List ExceptHandler} {Q : Flow → Shared → Prop} {news : List (Addr × Obj)}
  {p : Program} {loose : List Str} {mean : ExcName → Option Value} {mg mb : Str → Option Value} {x : Str}
theorem flyD {B h : Heap} {l : List Env} {cls a0 : Value} (x : Heap.FlyingW B l e cls a0 h) : ∃ oe, h.get? e = some oe := let ⟨oe, a, _⟩ := x.there; ⟨oe, a⟩
theorem caught_D (R : RaisedD base G (envOf name scope L a cd :: outer) e D news s'.heap) (F : Fr g L G m) (K : Below A₀ base outer g) (hsm : G.UpToSlots s'.heap) (XB : (KK w.params).In base) (TB : Top p loose mean mg mb base)
    (ex : nsIn (KK w.params) mainGlobals x = some (some (.ref 34))) (q : ktsIn (KK w.params) 34 "BaseException" = true)
    (k : ∀ h' g' tk oe, KtsTurn (outer.filterMap (·.frame)) g g' → Fr g' L h' (fun y => if y = n then some (.ref e) else m y) → News g' L h' ((e, oe) :: news) → oe.cls = .ref 34 → oe.dict = some D → notCls oe = true → Below A₀ base outer g' → (KK w.params).In g' → Top p loose mean mg mb g' →
      wpAny (model theProg w) ((A₀.deeper (envOf name scope L a cd)).mark (some (.ref e))) (execs (b₀ :: suite) (envOf name scope L a cd))
        (fun f s₄ => wpAny (model theProg w) (A₀.deeper (envOf name scope L a cd)) (do bindName (envOf name scope L a cd) n .none; unbindBehindTheSuite (envOf name scope L a cd) n pos) (fun _ s₅ => Q f s₅) E s₄)
        (AsSuiteRaised (model theProg w) ((A₀.deeper (envOf name scope L a cd)).mark (some (.ref e))) (envOf name scope L a cd) n pos (notedBy (model theProg w) ((A₀.deeper (envOf name scope L a cd)).mark (some (.ref e))) (envOf name scope L a cd) (cameBackBy (model theProg w) (A₀.deeper (envOf name scope L a cd)) (envOf name scope L a cd) E)))
        { s' with heap := h', toks := tk })
    (hk : scope.kind = .function := by rfl) (hlo : (envOf name scope L a cd).kindOf n = some .local := by rfl) (hx : (envOf name scope L a cd).kindOf x = some .globalImplicit := by rfl) (hd : (x == ("__debug__" : Str)) = false := by decide) :
    wpAny (model theProg w) (A₀.deeper (envOf name scope L a cd)) (noteFrame (.ref e) (envOf name scope L a cd))
      (fun _ s₂ => wpAny (model theProg w) (A₀.deeper (envOf name scope L a cd)) (setFlight (.ref e) none) (fun _ s₃ =>
        wpAny (model theProg w) (A₀.deeper (envOf name scope L a cd)) (handleBy (.ref e) (envOf name scope L a cd) (.ExceptHandler (some (.Name x np)) (some n) (b₀ :: suite) pos :: rest)) Q E s₃) E s₂) E s' := by
  refine byC fun nG => ?_
  obtain ⟨⟨B, a0, hB, hBG, hl, hfl⟩, hdc⟩ := R
  refine nG ?_
  have hL : B.get? L = none := by
    refine byC fun nG => ?_
    obtain ⟨_, ⟨L', _, hf, hn', _⟩, _⟩ := hfl.2.2.1
    refine nG ?_
    obtain rfl : L = L' := Option.some.inj hf
    exact hn'
  refine gentle_use (P := fun h => Heap.HeldW B (envOf name scope L a cd :: outer) e (.ref 34) a0 L h ∧ s'.heap.UpToSlots h) gentle_noteFrame hdc (wpAny_looks_onW (Around.frames_deeper K.stack) rfl hfl fun h₄ a b => ⟨h₄, rfl, a, b⟩) (fun h z => let ⟨oe, x, _⟩ := z.1.there; ⟨oe, x⟩) fun h₄ z₄ d₄ => ?_
  refine byC fun nG => ?_
  obtain ⟨hheld₄, hsm₄⟩ := z₄
  refine nG ?_
  refine gentle_use (s := { s' with heap := h₄ }) (P := fun h => Heap.FlyingW B (envOf name scope L a cd :: outer) e (.ref 34) a0 h ∧ h₄.UpToSlots h) gentle_setFlight d₄ (wpAny_landsW (s := { s' with heap := h₄ }) hheld₄ fun h₅ a b => ⟨h₅, rfl, a, b⟩) (fun h z => flyD z.1) fun h₅ z₅ d₅ => ?_
  refine byC fun nG => ?_
  obtain ⟨hheld, hsm₅'⟩ := z₅
  have hsm₅ := hsm₄.trans hsm₅'
  obtain ⟨g₅, T₅, F₅, K₅⟩ := kts_ground K F hBG hheld.1 (hsm.trans hsm₅)
  have X₅ : (KK w.params).In g₅ := XB.keeps K₅.stays
  have P₅ : TopRead p loose mg mb g₅ := topRead_of (TB.keeps K₅.stays)
  obtain ⟨ob, hob, hobc⟩ := hheld.there
  obtain ⟨nm, q', N, bs, bm, hdct, sn, sub, ab, col, dd, k0, k1, k2, k3, k5, newId, hC, hbase, hbT⟩ := kts_cls X₅ q
  refine nG ?_
  have hC₅ := F₅.keep _ _ hC
  refine wpAny_handleBy_cons (codeAny_handlers_test (name_K F₅ X₅ P₅ ex ?_ hk hx hd)) (by intro q; cases q)
  refine wpAny_excMatches_sub_self hC₅ hob hobc hbase (codeAny_handlers_suite_as ?_)
  refine gentle_use (s := { s' with heap := h₅ }) (P := fun h => Heap.FlyingW B (envOf name scope L a cd :: outer) e (.ref 34) a0 h ∧ h₅.UpToSlots h) gentle_setFlight d₅ (lands_againW (s := { s' with heap := h₅ }) hheld fun h₆ a b => ⟨h₆, rfl, a, b⟩) (fun h z => flyD z.1) fun h₆ z₆ d₆ => ?_
  refine byC fun nG => ?_
  obtain ⟨hfl₆, hsm₆⟩ := z₆
  obtain ⟨g₆, T₆, F₆, K₆⟩ := kts_ground K F hBG hfl₆.1 ((hsm.trans hsm₅).trans hsm₆)
  obtain ⟨oe, ws, hoe, hoec, hoed, hoe0⟩ := hfl₆.first
  obtain ⟨oe', hoe', hdd⟩ := d₆
  refine nG ?_
  obtain rfl : oe = oe' := Option.some.inj (hoe.symm.trans hoe')
  have ne₆ : g₆.get? e = none := T₆.none_ _ (kts_fresh F hBG hfl₆.2.1 fun o ho m => by
    refine byC fun nG => ?_
    obtain ⟨_, o', ho', hd⟩ := K.frames.mem m
    refine nG ?_
    rw [ho] at ho'
    cases ho'
    refine byC fun nG => ?_
    obtain ⟨sl, hs⟩ := ((hsm.trans hsm₅).trans hsm₆) _ _ (F.keep _ _ ho) hd
    refine nG ?_
    rw [hoe] at hs
    cases hs
    exact hd _ hoed)
  have Nl : News g₆ L h₆ news := fun q hq => ⟨hfl₆.1 _ _ (hl q hq).1, (fun z => by have := (hl q hq).1; rw [z, hL] at this; cases this), T₆.none_ _ (kts_none F.keep (hl q hq).2.1)⟩
  have N₆ := News.more F₆ Nl hoe (fun es n q => by rw [hoed] at q; cases q) ne₆
  have X₆ : (KK w.params).In g₆ := XB.keeps K₆.stays
  have P₆ : Top p loose mean mg mb g₆ := TB.keeps K₆.stays
  refine stN F₆ N₆ (fun h₇ F₇ N₇ => ?_) hk hlo
  exact k h₇ g₆ _ oe T₆ F₇ N₇ hoec hdd (by unfold notCls; rw [hoed]) K₆ X₆ P₆
end
section
variable {w : World} {A₀ A : Around} {s : Shared} {h₀ base : Heap} {env : Env} {L : Addr} {m : Str → Option Value} {news : List (Addr × Obj)} {K : Frag} {p : Program} {loose : List Str} {mean : ExcName → Option Value} {mg mb : Str → Option Value}
    {R : Result → Shared → Prop} {name qual : Str} {params : Arguments} {body : List Stmt} {scope : Scope} {dV kV doc pm cdv ct oc : Value} {an od : Option Addr} {osl : Array (Option Value)} {f : Addr} {args : Args} {binds : List (Str × Value)}
/-- a call from the outermost frame, in which exceptions are caught: the slots of the frames may change -/
theorem code_S (B : Below A₀ base [] h₀) (F : Fr h₀ L s.heap m) (X₀ : K.In h₀) (N : News h₀ L s.heap news) (T : Top p loose mean mg mb h₀) (hA : A.frames = some [env]) (hf : env.frame = some L) (hke : env.scope.kind = .function)
    (ho : K.lookup f = some ⟨oc, od, .func (fnOf name qual params body scope dV kV doc pm an cdv ct), osl⟩) (hcd : codeIn K cdv qual = true) (hroom : A.depth < recursionLimit)
    (hbind : BindsTo s (fnOf name qual params body scope dV kV doc pm an cdv ct) args binds) (hloc : ∀ y ∈ binds, scope.names.lookup y.1 = some .local)
    (h : ∀ g L' h₁, Fr h₀ L g m → Fr g L' h₁ (fun y => binds.reverse.lookup y) → News g L' h₁ news → Below A h₀ [env] g → K.In g → Top p loose mean mg mb g →
      wpAny (model theProg w) (A.deeper (envOf qual scope L' f cdv)) (execs body (envOf qual scope L' f cdv))
        (fun fl s' => LeaveS0 ([env].filterMap (·.frame)) h₀ L m g R (match fl with | .ret v => v | _ => .none) s')
        (fun e s' => wpAny (model theProg w) (A.deeper (envOf qual scope L' f cdv)) (leaving (envOf qual scope L' f cdv) e) (fun _ s'' => R (.error e) s'') (fun e' s'' => R (.error e') s'') s')
        { s with heap := h₁, toks := s.toks + binds.length })
    (hco : scope.isCoroutine = false) (hgen : scope.isGenerator = false) (hk : scope.kind = .function)
    (hcell : ∀ x ∈ scope.names, x.2 ≠ .cell) : codeAny (model theProg w) A (.call (.ref f) args) R s := by
  have X := X₀.keeps F.keep
  have B₀ : Below A₀ h₀ [] h₀ := ⟨B.stack, fun _ _ e => e, trivial⟩
  refine codeAny_call_def (fd := fnOf name qual params body scope dV kV doc pm an cdv ct) (body := body) (binds := binds) hroom (X _ _ ho) rfl (T.nolimit.keeps F.keep) (codeRec_of X hcd) rfl hbind hcell hloc (fun h₁ hns hk₁ => ?_) hco hgen hk
  refine byC fun nG => ?_
  obtain ⟨FG, BG, st, -⟩ := groundX (R := R) B₀ F N hA hf hke
  refine nG ?_
  refine wpAny_mono (h _ s.heap.objs.size h₁ FG ⟨hns, fun b o e => hk₁ b o (of_hideAll _ e), Nat.le_of_eq (hideAll_size _ _)⟩
    (fun p hp => ⟨hk₁ _ _ (N p hp).1, Nat.ne_of_lt (Heap.lt_size (N p hp).1), hideAll_none _ (List.mem_map_of_mem hp)⟩) BG (X₀.keeps st) (T.keeps st)) (fun fl s' hl => ?_) fun _ _ y => y
  refine byC fun nG => ?_
  obtain ⟨g', L', m', news', T', F', N', k⟩ := hl
  have nL₀ : h₀.get? L = none := kts_self F
  obtain ⟨oL, es, ep, hLg, hLd, hLk, hLf⟩ := FG.ns
  obtain ⟨sl, hs⟩ := T'.up hLg
  refine nG ?_
  have one : ∀ {b : Addr}, b ∈ [env].filterMap (·.frame) → b = L := fun hm => by
    simp only [List.filterMap_cons, hf, List.filterMap_nil, List.mem_singleton] at hm
    exact hm
  refine k ⟨⟨_, es, ep, F'.keep _ _ hs, hLd, hLk, hLf⟩, fun b o e => F'.keep b o (T'.other b o (st b o e) (fun q => by rw [one q, nL₀] at e; cases e)), F.above⟩ fun p hp => ⟨(N' p hp).1, fun q => ?_, ?_⟩
  · have := (N' p hp).2.2; rw [q, hs] at this; cases this
  · cases q : h₀.get? p.1 with
    | none => rfl
    | some o =>
      refine byC fun nG => ?_
      obtain ⟨sl', hs'⟩ := T'.up (st _ _ q)
      refine nG ?_
      have := (N' p hp).2.2
      rw [hs'] at this
      cases this
theorem raise_D {M : Model} {A : Around} {E : Value → Shared → Prop} {env : Env} {x : Sem Value} {Q : Flow → Shared → Prop} (hh : A.handled = none)
    (h : wpAny M A x (fun v s₁ => ∃ e t d, v = .ref e ∧ (KK w.params).In s₁.heap ∧ s₁.heap.get? e = some (rawExc t d) ∧ E (.ref e) s₁) E s) :
    wpAny M A (raiseStmt env (some x) none) Q E s := by
  unfold raiseStmt
  refine wpAny_bind (wpAny_mono h (fun v s₁ h₁ => ?_) fun _ _ x => x)
  refine byC fun nG => ?_
  obtain ⟨e, t, d, rfl, X, he, hE⟩ := h₁
  obtain ⟨hp, g, dr, tk, os⟩ := s₁
  refine nG ?_
  have hC := X 34 _ rfl
  have hs : Looks M hp (isSubtype (.ref 34) (.type "BaseException")) true := looks_subIn X rfl
  repeat (first | with_reducible refine wpAny_loadPart_at he ?_ | with_reducible refine wpAny_loadPart_at hC ?_ | (with_reducible refine Looks.at hs ?_) | wp_step)
  exact wpAny_raiseNew_none hh hE
end
end
section
open PySem PySem.W PyProof.Rows PySem.Calls Builtin.ObjectAttr
set_option maxRecDepth 100000
set_option maxHeartbeats 4000000
theorem exc_ga : Slot "Exception" "__getattribute__" "BaseException.__getattribute__" := .of (owner := "BaseException") (n := "__getattribute__") (by rw [typeLookup_type, builtinLookup_eq_fast]; kernel_rfl) (by decide +kernel) (by decide +kernel) (by decide +kernel)
    (by first | exact .inl (by decide +kernel) | exact .inr (by decide +kernel)) (by rw [isSubtype_type]; kernel_rfl)
theorem ga_kind : builtinKind "BaseException.__getattribute__" = some .slot := by decide +kernel
theorem ga_split : splitId "BaseException.__getattribute__" = some ("BaseException", "__getattribute__") := by decide +kernel
section
variable {w : World} {A : Around} {E : Value → Shared → Prop} {h : Heap} {g : Array GenState} {d : Drawn} {t : Nat} {os : OsState}
theorem exc_get {e D : Addr} {o od : Obj} {name : Str} {v : Value} {ex : Bool} {Q : Value → Shared → Prop} (X : (KK w.params).In h) (ho : h.get? e = some o) (hcl : o.cls = .ref 34) (hn : notCls o = true) (hdd : o.dict = some D)
    (hD : h.get? D = some od) (hf : findObj (KK w.params) 34 (some od) name = some (.value v)) (hh : handedIn v = true)
    (hq : Q v ⟨h, g, d, t + 1, os⟩) : wpAny (model theProg w) A (getAttr (.ref e) name ex) Q E ⟨h, g, d, t, os⟩ := by
  have I : PySem.W.InstAt h e o 34 (some od) := ⟨ho, hcl, hn, by rw [hdd]; exact hD⟩
  have L0 : Looks (model theProg w) h (typeOf (.ref e)) (.ref 34) := I.type
  have L1 : Looks (model theProg w) h (typeLookup (.ref 34) "__getattribute__") (some (.builtin "BaseException.__getattribute__")) := looks_findIn X rfl
  have L2 : Looks (model theProg w) h (typeLookup (.ref 34) "__getattr__") none := looks_findIn X rfl
  have L3 := looks_find (M := model theProg w) X I hf
  have sub : Looks (model theProg w) h (isInstance (.ref e) (.type "BaseException")) true := I.type.andThen (looks_subIn X rfl)
  have hx0 : (ex && onTheHeap (Value.builtin "BaseException.__getattribute__")) = false := by cases ex <;> rfl
  unfold getAttr getAttrBy
  refine wpAny_bind (wpAny_mkText (wpAny_holding (wpAny_bind (L0.at (wpAny_bind (L1.at ?_))))))
  dsimp only
  rw [if_neg (by decide +kernel)]
  unfold getAttrByItsOwn hookBefore callGetattribute boundAndCalled
  rw [if_pos (show onTheHeap (.ref 34) = true from rfl), hx0]
  refine wpAny_bind (L2.at ?_)
  refine wpAny_bind (wpAny_attempt (wpAny_holding ?_))
  rw [if_neg (by decide), exc_ga.bind]
  refine wpAny_bind (wpAny_pure (wpAny_call ?_))
  refine codeAny_call_builtin exc_ga.plain F.entry_bexc_ga (@check_slot (model theProg w) _ _ ⟨h, g, d, t + 1, os⟩ "BaseException.__getattribute__" "BaseException" "__getattribute__" (.ref e) [.str name t] [] _ ga_kind ga_split sub (F.args_bexc_ga _ _) ?_)
  refine wpAny_bind (wpAny_pure (wpAny_bind (wpAny_pure (wpAny_bind (L0.at (wpAny_bind (L3.at ?_)))))))
  refine wpAny_pure ?_
  show wpAny _ _ (handedOut v) _ _ _
  rw [handedOut_of hh]; exact wpAny_pure hq
end
end
section
set_option maxRecDepth 100000
set_option maxHeartbeats 8000000
local macro_rules | `(tactic| k_all) => `(tactic| exact offAt_ne)
theorem dipped {w : World} {aw ac : Addr} {vs : List Value} {ns : List Int} {t : Int} {tk : Tok} {e e' : Nat} {many : Int} {tm : Tok} (hi : IntsAre vs ns) (hl : vs.length ≤ 48) (h0 : 0 ≤ t) (h1 : t < 1000) (hm : 1 ≤ many) (hm2 : many ≤ 10) :
    Con w 5 50 479 [.ref aw, .int many tm] (fun news => (aw, listOf #[.ref ac, .int t tk] e) ∈ news ∧ (ac, listOf vs.toArray e') ∈ news ∧ aw ≠ ac)
      (fun news r news' => ∃ v tv tk', r = .int v tv ∧ 0 ≤ v ∧ v < many ∧ news' = setAt aw (listOf #[.ref ac, .int (t + 1) tk'] e) news) := by
  unfold Con
  k_fill
  intro p loose mean mg mb dp un gd cn cs a ccd cl outer A₀ base h₀ L m news s Q E B F X N T hk hd hu hpre hret
  refine byC fun nG => ?_
  obtain ⟨m1, m2, hne⟩ := hpre
  refine nG ?_
  have N1 := news_put (news_off N m1) (List.mem_cons_of_mem _ (mem_offAt m2 hne.symm))
  clear N
  replace hne := neN hne
  have hsz : vs.toArray.size = ns.length := by simp [hi.length]
  have hnl : ns.length ≤ 48 := by have := hi.length; exact om4 hl this
  refine wpAny_call ?_
  k_dflt ktr_enter
  k_steps
  all_goals (refine hret _ _ _ _ (by k_asm) (news_setAt (news_drop2 (by with_reducible assumption))) ⟨_, _, _, rfl, fmod_lo _ (om5 hm hm2), fmod_hi _ (om5 hm hm2), rfl⟩)
end
section
set_option maxRecDepth 100000
set_option maxHeartbeats 8000000
theorem con_use {w : World} {dmax umax : Nat} {f : Addr} {vs : List Value} {Pre : List (Addr × Obj) → Prop} {Post : List (Addr × Obj) → Value → List (Addr × Obj) → Prop} (C : Con w dmax umax f vs Pre Post)
    {p : Program} {loose : List Str} {mean : ExcName → Option Value} {mg mb : Str → Option Value} {dp un : Nat} {gd : Option (List Code)} {cn : Str} {cs : Scope} {a : Addr} {ccd : Value} {cl : List (Str × Addr)} {outer : List Env} {A₀ : Around} {base h₀ : Heap} {L : Addr} {m : Str → Option Value} {news : List (Addr × Obj)} {s : Shared}
    {Q E : Value → Shared → Prop} (B : Below A₀ base outer h₀) (F : Fr h₀ L s.heap m) (X : (KK w.params).In h₀) (N : News h₀ L s.heap news) (T : Top p loose mean mg mb h₀) (hk : cs.kind = .function) (hd : dp + dmax < recursionLimit) (hu : un + umax < cLine) (hp : Pre news)
    (ret : ∀ r h' tk' news', Fr h₀ L h' m → News h₀ L h' news' → Post news r news' → Q r { s with heap := h', toks := tk' }) :
    wpAny (model PySem.Challenge.rw_sa0599_01.row.prog w) (ktrTop dp un gd cn cs L a ccd cl outer) (call (.ref f) vs) Q E s :=
  C _ _ _ _ _ _ _ _ _ _ _ _ _ _ _ _ _ _ _ _ _ _ _ B F X N T hk hd hu hp ret
theorem con_useS {w : World} {dmax umax : Nat} {f : Addr} {vs : List Value} {Pre : List (Addr × Obj) → Prop} {Post : List (Addr × Obj) → Value → List (Addr × Obj) → Prop} (C : Con w dmax umax f vs Pre Post)
    {p : Program} {loose : List Str} {mean : ExcName → Option Value} {mg mb : Str → Option Value} {dp un : Nat} {gd : Option (List Code)} {cn : Str} {cs : Scope} {a : Addr} {ccd : Value} {cl : List (Str × Addr)} {outer : List Env} {A₀ : Around} {base h₀ : Heap} {L : Addr} {m : Str → Option Value} {news : List (Addr × Obj)}
    {hp : Heap} {g : Array GenState} {dr : Drawn} {tk : Nat} {os : OsState}
    {Q E : Value → Shared → Prop} (B : Below A₀ base outer h₀) (F : Fr h₀ L hp m) (X : (KK w.params).In h₀) (N : News h₀ L hp news) (T : Top p loose mean mg mb h₀) (hk : cs.kind = .function) (hd : dp + dmax < recursionLimit) (hu : un + umax < cLine) (hpre : Pre news)
    (ret : ∀ r h' tk' news', Fr h₀ L h' m → News h₀ L h' news' → Post news r news' → Q r ⟨h', g, dr, tk', os⟩) :
    wpAny (model PySem.Challenge.rw_sa0599_01.row.prog w) (ktrTop dp un gd cn cs L a ccd cl outer) (call (.ref f) vs) Q E ⟨hp, g, dr, tk, os⟩ :=
  con_use C (s := ⟨hp, g, dr, tk, os⟩) B F X N T hk hd hu hpre ret
structure Cell where
  a : Addr
  d : Addr
  v : Addr
  num : Int
  ntk : Tok
  wtk : Tok
  t1 : Tok
  t2 : Tok
  t3 : Tok
  t4 : Tok
  t5 : Tok
noncomputable def cellEs (P : Params) (fl : Addr) (c : Cell) (mark : Int) (mtk : Tok) : List DictEntry :=
  [⟨PyData.keyHash P (Str.ofString "word"), .str (Str.ofString "word") c.t1, .str (Str.ofString "CELL") c.wtk⟩,
   ⟨PyData.keyHash P (Str.ofString "number"), .str (Str.ofString "number") c.t2, .int c.num c.ntk⟩,
   ⟨PyData.keyHash P (Str.ofString "mark"), .str (Str.ofString "mark") c.t3, .int mark mtk⟩,
   ⟨PyData.keyHash P (Str.ofString "fields"), .str (Str.ofString "fields") c.t4, .ref fl⟩,
   ⟨PyData.keyHash P (Str.ofString "values"), .str (Str.ofString "values") c.t5, .ref c.v⟩]
theorem field_ref {w : World} {fl : Addr} {c : Cell} {mark : Int} {mtk ft : Tok} {fe : Nat} {field : Str} {fvs : List Value} {ys : List Str}
    (hi : StrsAre fvs ys) (hsm : ys.length ≤ 1000) (hf : field ∈ ys) :
    Con w 5 50 283 [.ref c.a, .str field ft] (fun news => (c.a, instObj 260 c.d) ∈ news ∧ (c.d, dictOf (cellEs w.params fl c mark mtk) 5) ∈ news ∧ (fl, listOf fvs.toArray fe) ∈ news)
      (fun news r news' => ∃ q qd t1 t2 t3 t4 t5, r = .ref q ∧ news' = (q, instObj 117 qd) :: (qd, dictOf [⟨PyData.keyHash w.params (Str.ofString "kind"), .str (Str.ofString "kind") t1, .str (Str.ofString "field") t2⟩, ⟨PyData.keyHash w.params (Str.ofString "owner"), .str (Str.ofString "owner") t3, .ref c.a⟩, ⟨PyData.keyHash w.params (Str.ofString "key"), .str (Str.ofString "key") t4, .int (ys.idxOf field : Nat) t5⟩] 3) :: news ∧ (∀ p ∈ news, p.1 < q) ∧ (∀ p ∈ news, p.1 < qd)) := by
  unfold Con
  k_fill
  intro p loose mean mg mb dp un gd cn cs a ccd cl outer A₀ base h₀ L m news s Q E B F X N T hk hd hu hpre hret
  refine byC fun nG => ?_
  obtain ⟨m4, m5, m6⟩ := hpre
  refine nG ?_
  have hany : ys.any (· == field) = true := List.any_eq_true.mpr ⟨field, hf, by simp⟩
  unfold cellEs at m5
  refine wpAny_call ?_
  k_dflt ktr_enter
  k_steps
  exact hret _ _ _ _ (by k_asm) (by k_asm) ⟨_, _, _, _, _, _, _, rfl, rfl, fun p hp => Nat.lt_trans ((by assumption : ∀ p ∈ news, p.1 < _) p hp) (by assumption), by assumption⟩
noncomputable def refEs (P : Params) (c : Cell) (j : Nat) (t1 t2 t3 t4 t5 : Tok) : List DictEntry :=
  [⟨PyData.keyHash P (Str.ofString "kind"), .str (Str.ofString "kind") t1, .str (Str.ofString "field") t2⟩, ⟨PyData.keyHash P (Str.ofString "owner"), .str (Str.ofString "owner") t3, .ref c.a⟩, ⟨PyData.keyHash P (Str.ofString "key"), .str (Str.ofString "key") t4, .int j t5⟩]
section
variable {w : World} {dmax umax : Nat} {f : Addr} {vs : List Value} {Pre : List (Addr × Obj) → Prop} {p : Program} {loose : List Str} {mean : ExcName → Option Value} {mg mb : Str → Option Value} {dp un : Nat} {gd : Option (List Code)} {cn : Str} {cs : Scope} {a : Addr} {ccd : Value} {cl : List (Str × Addr)} {outer : List Env} {A₀ : Around} {base h₀ : Heap} {L : Addr} {m : Str → Option Value} {news : List (Addr × Obj)}
  {hp : Heap} {g : Array GenState} {dr : Drawn} {tk : Nat} {os : OsState} {Q E : Value → Shared → Prop}
/-- a contract whose answer is told -/
theorem con_useV {v : Value} {P : List (Addr × Obj) → List (Addr × Obj) → Prop} (C : Con w dmax umax f vs Pre fun nw r n' => r = v ∧ P nw n') (B : Below A₀ base outer h₀) (F : Fr h₀ L hp m) (X : (KK w.params).In h₀) (N : News h₀ L hp news) (T : Top p loose mean mg mb h₀) (hk : cs.kind = .function) (hd : dp + dmax < recursionLimit) (hu : un + umax < cLine) (hpre : Pre news)
    (ret : ∀ h' tk' n', Fr h₀ L h' m → News h₀ L h' n' → P news n' → Q v ⟨h', g, dr, tk', os⟩) :
    wpAny (model PySem.Challenge.rw_sa0599_01.row.prog w) (ktrTop dp un gd cn cs L a ccd cl outer) (call (.ref f) vs) Q E ⟨hp, g, dr, tk, os⟩ :=
  con_useS C B F X N T hk hd hu hpre fun _ h' tk' n' F' N' H => by obtain ⟨rfl, H⟩ := H; exact ret h' tk' n' F' N' H
/-- a contract that leaves all as it was -/
theorem con_useW {P : Value → Prop} (C : Con w dmax umax f vs Pre fun nw r n' => P r ∧ n' = nw) (B : Below A₀ base outer h₀) (F : Fr h₀ L hp m) (X : (KK w.params).In h₀) (N : News h₀ L hp news) (T : Top p loose mean mg mb h₀) (hk : cs.kind = .function) (hd : dp + dmax < recursionLimit) (hu : un + umax < cLine) (hpre : Pre news)
    (ret : ∀ r h' tk', Fr h₀ L h' m → News h₀ L h' news → P r → Q r ⟨h', g, dr, tk', os⟩) :
    wpAny (model PySem.Challenge.rw_sa0599_01.row.prog w) (ktrTop dp un gd cn cs L a ccd cl outer) (call (.ref f) vs) Q E ⟨hp, g, dr, tk, os⟩ :=
  con_useS C B F X N T hk hd hu hpre fun r h' tk' n' F' N' H => by obtain ⟨H, rfl⟩ := H; exact ret r h' tk' F' N' H
theorem fref_use {fl : Addr} {c : Cell} {mark : Int} {mtk ft : Tok} {fe : Nat} {field : Str} {fvs : List Value} {ys : List Str} (hi : StrsAre fvs ys) (hsm : ys.length ≤ 1000) (hf : field ∈ ys)
    (B : Below A₀ base outer h₀) (F : Fr h₀ L hp m) (X : (KK w.params).In h₀) (N : News h₀ L hp news) (T : Top p loose mean mg mb h₀) (hk : cs.kind = .function) (hd : dp + 5 < recursionLimit) (hu : un + 50 < cLine) (m1 : (c.a, instObj 260 c.d) ∈ news) (m2 : (c.d, dictOf (cellEs w.params fl c mark mtk) 5) ∈ news) (m3 : (fl, listOf fvs.toArray fe) ∈ news)
    (ret : ∀ q qd t1 t2 t3 t4 t5 h' tk', Fr h₀ L h' m → News h₀ L h' ((q, instObj 117 qd) :: (qd, dictOf (refEs w.params c (ys.idxOf field) t1 t2 t3 t4 t5) 3) :: news) → (∀ p ∈ news, p.1 < q) → (∀ p ∈ news, p.1 < qd) → Q (.ref q) ⟨h', g, dr, tk', os⟩) :
    wpAny (model PySem.Challenge.rw_sa0599_01.row.prog w) (ktrTop dp un gd cn cs L a ccd cl outer) (call (.ref 283) [.ref c.a, .str field ft]) Q E ⟨hp, g, dr, tk, os⟩ :=
  con_useS (field_ref hi hsm hf) B F X N T hk hd hu ⟨m1, m2, m3⟩ fun r h' tk' n' F' N' H => by
    obtain ⟨q, qd, t1, t2, t3, t4, t5, rfl, rfl, l1, l2⟩ := H
    exact ret q qd t1 t2 t3 t4 t5 h' tk' F' N' l1 l2
end
end
local macro_rules | `(tactic| walk_at "use con") => `(tactic| ((case B | F | X | N | T => k_asm); (case hk => first | exact rfl | assumption); (case hd | hu => (dsimp only [ktrTop, Around.deeper, Around.in1]; omega))))
local macro_rules | `(tactic| walk_at "subscriptTail") => `(tactic| (k_here; (with_reducible show wpAny _ _ (subscriptTail _ _ (Value.ref _) (Value.int _ _)) _ _ _); k_dflt (refine tail_any (Heap.IsList.typeIs (News.isList (by k_asm) (by k_mem))) slot_list_getitem.lookup (wpAny_getItem_list (News.isList (by k_asm) (by k_mem)) (by omega) (by omega) (by assumption) ?_) (by with_unfolding_all rfl))))
section
set_option maxRecDepth 100000
set_option maxHeartbeats 8000000
noncomputable def Hold (P : Prop) : Prop := P
theorem hold {P : Prop} (h : Hold P) : P := h
noncomputable def heldQ (n : Nat) : Bool := [34, 283, 387, 465, 399, 394, 479, 404, 486, 493, 507, 340, 304, 311, 368, 500, 514, 521, 528, 375, 472, 329].any (Nat.beq n)
theorem holdc {M : Model} {A : Around} {n : Addr} {as : List Value} {Q E : Value → Shared → Prop} {s : Shared} (_ : heldQ n = true) (h : Hold (wpAny M A (call (.ref n) as) Q E s)) : wpAny M A (call (.ref n) as) Q E s := h
end
local macro_rules | `(tactic| walk_at "call ref") => `(tactic| (with_reducible refine holdc ?h9 ?_; (case h9 => with_unfolding_all rfl)))
section
set_option maxRecDepth 100000
set_option maxHeartbeats 8000000
/-- what stands in a field (ref_get of a name of a field) -/
theorem ref_get {w : World} {aw : Addr} {c : Cell} {mark : Int} {mtk : Tok} {fl q qd : Addr} {ve j : Nat} {arr : Array Value} {t1 t2 t3 t4 t5 : Tok} {v : Value} (hj : j < 1000) (hv : arr[((j : Int)).toNat]? = some v) :
    Con w 12 80 465 [.ref aw, .ref q] (fun news => (q, instObj 117 qd) ∈ news ∧ (qd, dictOf (refEs w.params c j t1 t2 t3 t4 t5) 3) ∈ news ∧ (c.a, instObj 260 c.d) ∈ news ∧ (c.d, dictOf (cellEs w.params fl c mark mtk) 5) ∈ news ∧ (c.v, listOf arr ve) ∈ news)
      (fun nw r n' => r = v ∧ n' = nw) := by
  unfold Con
  k_fill
  intro p loose mean mg mb dp un gd cn cs a ccd cl outer A₀ base h₀ L m news s Q E B F X N T hk hd hu hpre hret
  refine byC fun nG => ?_
  obtain ⟨m1, m2, m3, m4, m5⟩ := hpre
  refine nG ?_
  unfold cellEs at m4
  unfold refEs at m2
  refine wpAny_call ?_
  k_dflt ktr_enter
  k_steps
  exact hret _ _ _ _ (by k_asm) (by k_asm) ⟨rfl, rfl⟩
theorem ref_set {w : World} {aw : Addr} {c : Cell} {mark : Int} {mtk : Tok} {fl q qd : Addr} {ve j : Nat} {arr : Array Value} {t1 t2 t3 t4 t5 : Tok} {v : Value} (hj : j < 1000) (hj2 : (j : Int) < arr.size) :
    Con w 12 80 472 [.ref aw, .ref q, v] (fun news => (q, instObj 117 qd) ∈ news ∧ (qd, dictOf (refEs w.params c j t1 t2 t3 t4 t5) 3) ∈ news ∧ (c.a, instObj 260 c.d) ∈ news ∧ (c.d, dictOf (cellEs w.params fl c mark mtk) 5) ∈ news ∧ (c.v, listOf arr ve) ∈ news)
      (fun nw r n' => r = .none ∧ n' = setAt c.v (listOf (arr.setIfInBounds j v) ve) nw) := by
  unfold Con
  k_fill
  intro p loose mean mg mb dp un gd cn cs a ccd cl outer A₀ base h₀ L m news s Q E B F X N T hk hd hu hpre hret
  refine byC fun nG => ?_
  obtain ⟨m1, m2, m3, m4, m5⟩ := hpre
  refine nG ?_
  unfold cellEs at m4
  unfold refEs at m2
  refine wpAny_call ?_
  k_dflt ktr_enter
  k_steps
  exact hret _ _ _ _ (by k_asm) (by k_asm) ⟨rfl, rfl⟩
theorem held {w : World} {aw dw st fl : Addr} {wes : List DictEntry} {wn : Nat} {so : Obj} {kvs : List (Str × Value)} {name field : Str} {nt ft : Tok} {c : Cell} {mark : Int} {mtk : Tok} {fe ve : Nat} {fvs : List Value} {ys : List Str} {arr : Array Value} {v : Value}
    (hst : getL (Str.ofString "store") wes = some (some (.ref st))) (hso : so.IsDictOf (PySem.strKind PySem.Challenge.rw_sa0599_01.row.prog w) kvs) (hc : valueAt kvs name = some (.ref c.a))
    (hi : StrsAre fvs ys) (hsm : ys.length ≤ 1000) (hf : field ∈ ys) (hj : (ys.idxOf field : Nat) < 1000) (hv : arr[(((ys.idxOf field : Nat) : Int)).toNat]? = some v) :
    Con w 20 100 486 [.ref aw, .str name nt, .str field ft] (fun news => (aw, instObj 329 dw) ∈ news ∧ (dw, dictOf wes wn) ∈ news ∧ (st, so) ∈ news ∧ (c.a, instObj 260 c.d) ∈ news ∧ (c.d, dictOf (cellEs w.params fl c mark mtk) 5) ∈ news ∧ (fl, listOf fvs.toArray fe) ∈ news ∧ (c.v, listOf arr ve) ∈ news)
      (fun news r news' => r = v ∧ news' = news) := by
  unfold Con
  k_fill
  intro p loose mean mg mb dp un gd cn cs a ccd cl outer A₀ base h₀ L m news s Q E B F X N T hk hd hu hpre hret
  refine byC fun nG => ?_
  obtain ⟨m1, m2, m3, m4, m5, m6, m7⟩ := hpre
  refine nG ?_
  refine wpAny_call ?_
  k_dflt ktr_enter
  k_steps
  unfold Hold
  try k_fold
  refine' fref_use (c := c) (mark := mark) (mtk := mtk) (fl := fl) (fe := fe) hi hsm hf ?B ?F ?X ?N ?T ?hk ?hd ?hu ?m1 ?m2 ?m3 ?_
  walk_at "use con"
  case m1 | m2 | m3 => k_mem
  intro q7 qd7 u1 u2 u3 u4 u5 h7 tk7 F7 N7 l7 ll7
  try k_sweep
  k_steps
  unfold Hold
  try k_fold
  refine' con_useV (ref_get (c := c) (mark := mark) (mtk := mtk) (fl := fl) (ve := ve) hj hv) ?B ?F ?X ?N ?T ?hk ?hd ?hu ?pp ?_
  walk_at "use con"
  case pp => exact ⟨by k_mem, by k_mem, by k_mem, by k_mem, by k_mem⟩
  rintro h1 tk1 _ F1 N1 rfl
  k_steps
  exact hret _ _ _ _ (by k_asm) (news_tail2 (by k_asm)) ⟨rfl, rfl⟩
theorem led {w : World} {aw dw st fl : Addr} {wes : List DictEntry} {wn : Nat} {so : Obj} {kvs : List (Str × Value)} {name other : Str} {nt ot : Tok} {c : Cell} {mark : Int} {mtk : Tok} {fe ve : Nat} {fvs : List Value} {ys : List Str} {arr : Array Value} {v : Value}
    (hst : getL (Str.ofString "store") wes = some (some (.ref st))) (hso : so.IsDictOf (PySem.strKind PySem.Challenge.rw_sa0599_01.row.prog w) kvs) (hc : valueAt kvs name = some (.ref c.a)) (ho : valueAt kvs other = some v)
    (hi : StrsAre fvs ys) (hsm : ys.length ≤ 1000) (hf : (Str.ofString "LINK") ∈ ys) (hj : ((ys.idxOf (Str.ofString "LINK") : Nat) : Int) < arr.size) (hsz : arr.size < 1000) :
    Con w 20 100 493 [.ref aw, .str name nt, .str other ot] (fun news => (aw, instObj 329 dw) ∈ news ∧ (dw, dictOf wes wn) ∈ news ∧ (st, so) ∈ news ∧ (c.a, instObj 260 c.d) ∈ news ∧ (c.d, dictOf (cellEs w.params fl c mark mtk) 5) ∈ news ∧ (fl, listOf fvs.toArray fe) ∈ news ∧ (c.v, listOf arr ve) ∈ news)
      (fun news r news' => r = .none ∧ news' = setAt c.v (listOf (arr.setIfInBounds (ys.idxOf (Str.ofString "LINK")) v) ve) news) := by
  unfold Con
  k_fill
  intro p loose mean mg mb dp un gd cn cs a ccd cl outer A₀ base h₀ L m news s Q E B F X N T hk hd hu hpre hret
  refine byC fun nG => ?_
  obtain ⟨m1, m2, m3, m4, m5, m6, m7⟩ := hpre
  refine nG ?_
  refine wpAny_call ?_
  k_dflt ktr_enter
  k_steps
  unfold Hold
  try k_fold
  refine' fref_use (c := c) (mark := mark) (mtk := mtk) (fl := fl) (fe := fe) hi hsm hf ?B ?F ?X ?N ?T ?hk ?hd ?hu ?m1 ?m2 ?m3 ?_
  walk_at "use con"
  case m1 | m2 | m3 => k_mem
  intro q7 qd7 u1 u2 u3 u4 u5 h7 tk7 F7 N7 l7 ll7
  try k_sweep
  k_steps
  unfold Hold
  try k_fold
  refine' con_useV (ref_set (c := c) (mark := mark) (mtk := mtk) (fl := fl) (ve := ve) (v := v) (Nat.lt_trans (Int.ofNat_lt.mp hj) hsz) hj) ?B ?F ?X ?N ?T ?hk ?hd ?hu ?pp ?_
  walk_at "use con"
  case pp => exact ⟨by k_mem, by k_mem, by k_mem, by k_mem, by k_mem⟩
  rintro h1 tk1 _ F1 N1 rfl
  k_steps
  exact hret _ _ _ _ (by k_asm) (news_setTail2 (by k_asm)) ⟨rfl, rfl⟩
end
section
set_option maxRecDepth 100000
set_option maxHeartbeats 8000000
theorem things_cell {w : World} {fl : Addr} {c : Cell} {mark : Int} {mtk : Tok} :
    Con w 5 50 387 [.ref c.a] (fun news => (c.a, instObj 260 c.d) ∈ news ∧ (c.d, dictOf (cellEs w.params fl c mark mtk) 5) ∈ news) (fun news r news' => r = .ref c.v ∧ news' = news) := by
  unfold Con
  k_fill
  intro p loose mean mg mb dp un gd cn cs a ccd cl outer A₀ base h₀ L m news s Q E B F X N T hk hd hu hpre hret
  obtain ⟨m4, m5⟩ := hpre
  unfold cellEs at m5
  refine wpAny_call ?_
  k_dflt ktr_enter
  k_steps
  exact hret _ _ _ _ (by k_asm) (by k_asm) ⟨rfl, rfl⟩
theorem things_str {w : World} {x : Str} {t : Tok} :
    Con w 5 50 387 [.str x t] (fun _ => True) (fun news r news' => ∃ l, r = .ref l ∧ news' = (l, listOf #[] 0) :: news ∧ ∀ p ∈ news, p.1 < l) := by
  unfold Con
  k_fill
  intro p loose mean mg mb dp un gd cn cs a ccd cl outer A₀ base h₀ L m news s Q E B F X N T hk hd hu hpre hret
  refine wpAny_call ?_
  k_dflt ktr_enter
  k_steps
  exact hret _ _ _ _ (by k_asm) (by k_asm) ⟨_, rfl, rfl, by assumption⟩
theorem things_int {w : World} {x : Int} {t : Tok} :
    Con w 5 50 387 [.int x t] (fun _ => True) (fun news r news' => ∃ l, r = .ref l ∧ news' = (l, listOf #[] 0) :: news ∧ ∀ p ∈ news, p.1 < l) := by
  unfold Con
  k_fill
  intro p loose mean mg mb dp un gd cn cs a ccd cl outer A₀ base h₀ L m news s Q E B F X N T hk hd hu hpre hret
  refine wpAny_call ?_
  k_dflt ktr_enter
  k_steps
  exact hret _ _ _ _ (by k_asm) (by k_asm) ⟨_, rfl, rfl, by assumption⟩
end
section
set_option maxRecDepth 100000
set_option maxHeartbeats 8000000
section
variable {prog : Program} {w : World} {A : Around} {E : Value → Shared → Prop} {s : Shared} {h₀ : Heap} {L : Addr} {m : Str → Option Value} {news : List (Addr × Obj)}
theorem setAt_setAt {d : Addr} {o o' : Obj} {l : List (Addr × Obj)} : setAt d o (setAt d o' l) = setAt d o l := by
  unfold setAt
  rw [List.map_map]
  refine List.map_congr_left fun p _ => ?_
  by_cases h : p.1 = d <;> simp [h]
theorem sort_strs {D : Addr} {vs : List Value} {ss : List Str} {n : Nat} {Q : Value → Shared → Prop} (F : Fr h₀ L s.heap m) (N : News h₀ L s.heap ((D, PySem.W.listOf vs.toArray n) :: news)) (hf : ∀ p ∈ news, p.1 ≠ D) (hS : StrsAre vs ss) (h64 : vs.length < 64)
    (h : ∀ h' vs' ss' e, Fr h₀ L h' m → News h₀ L h' ((D, PySem.W.listOf vs'.toArray e) :: news) → StrsAre vs' ss' → ss'.Perm ss → Q .none { s with heap := h' }) :
    wpAny (model prog w) A (call (.builtin "list.sort") [.ref D]) Q E s := by
  have z := N _ (.head _)
  have hm : (D, PySem.W.listOf vs.toArray n) ∈ (D, PySem.W.listOf vs.toArray n) :: news := .head _
  refine wpAny_call_entry PyProof.Rows.slot_list_sort ⟨_, z.1, rfl⟩ PyProof.Rows.entry_list_sort (list_sort_treeK strKind_oneLt (n := n) (vs := vs) z.1 hS.keysOf (fun v₁ v₂ rest e => keyKind_strs (by rw [← e]; exact hS)) h64 fun st' hp hs => ⟨.none, rfl, ?_⟩) (PyProof.Rows.args_list_sort _)
  obtain ⟨ss', h1, h2, -⟩ := sorted_out_str hS hp hs
  generalize (arrOf st').map (·.2) = out at h1
  have q1 := PySem.IsL.update z.1 (fun _ => (#[] : Array Value))
  have F1 : Fr h₀ L (s.heap.update D (Obj.mapSeq fun _ => (#[] : Array Value))) m := F.change (Heap.SameBut.update ..) z.2.1 z.2.2
  have N1 := news_set_of N hm (Heap.SameBut.update s.heap D (Obj.mapSeq fun _ => (#[] : Array Value))) q1
  have N2 := News.grown N1 fun _ _ e => Heap.get?_push_of_some (seqObj "tuple" vs.toArray 0) e
  have N3 := News.grown N2 fun _ _ e => Heap.get?_push_of_some (seqObj "list" #[] 0) e
  have hm3 := mem_setAt_eq (o' := PySem.W.listOf #[] (if (#[] : Array Value).size == vs.toArray.size then n else n + 1)) hm
  have q2 := PySem.IsL.update (N3 _ hm3).1 (fun _ => out)
  have N4 := news_set_of N3 hm3 (Heap.SameBut.update _ D (Obj.mapSeq fun _ => out)) q2
  rw [setAt_setAt] at N4
  have F4 : Fr h₀ L ((((s.heap.update D (Obj.mapSeq fun _ => (#[] : Array Value))).push (seqObj "tuple" vs.toArray 0)).push (seqObj "list" #[] 0)).update D (Obj.mapSeq fun _ => out)) m :=
    ((F1.push (seqObj "tuple" vs.toArray 0)).push (seqObj "list" #[] 0)).change (Heap.SameBut.update ..) z.2.1 z.2.2
  obtain ⟨ee, N5⟩ : ∃ ee, News h₀ L _ (setAt D (PySem.W.listOf out ee) ((D, PySem.W.listOf vs.toArray n) :: news)) := ⟨_, N4⟩
  refine h _ out.toList ss' ee F4 (News.sub N5 fun p hp => ?_) h1 h2
  rcases List.mem_cons.mp hp with rfl | hp
  · exact mem_setAt_eq (.head _)
  · exact mem_setAt_ne (o := p.2) (a := p.1) (.tail _ hp) (hf p hp)
theorem keys_are : ∀ (kvs : List (Str × Value)) (vs : List Value), vs.length = kvs.length → (∀ (j : Nat) (v : Value), vs[j]? = some v → ∃ k x, kvs[j]? = some (k, x) ∧ (PySem.strKind prog w).is k v = true) → StrsAre vs (kvs.map (·.1))
  | [], [], _, _ => .nil
  | [], _ :: _, h, _ => by simp at h
  | _ :: _, [], h, _ => by simp at h
  | (k, x) :: kvs, v :: vs, h, hv => by
    obtain ⟨k', x', e, hk⟩ := hv 0 v rfl
    simp only [List.getElem?_cons_zero, Option.some.injEq, Prod.mk.injEq] at e
    obtain ⟨rfl, rfl⟩ := e
    have hv' : ∃ t, v = .str k t := by
      cases v with
      | str y t =>
        refine ⟨t, ?_⟩
        have : (k == y) = true ∨ (y == k) = true ∨ k = y := by
          first
            | exact .inl hk
            | exact .inr (.inl hk)
            | exact .inr (.inr (of_decide_eq_true hk))
        rcases this with e | e | e
        · rw [beq_iff_eq] at e; subst e; rfl
        · rw [beq_iff_eq] at e; subst e; rfl
        · subst e; rfl
      | _ => exact absurd hk (by first | exact Bool.false_ne_true | (intro q; cases q))
    obtain ⟨t, rfl⟩ := hv'
    exact .cons k t (keys_are kvs vs (by simpa using h) fun j v hj => hv (j + 1) v hj)
theorem sorted_store {d : Addr} {o : Obj} {kvs : List (Str × Value)} {Q : Value → Shared → Prop} (hh : A.handled = none) (F : Fr h₀ L s.heap m) (N : News h₀ L s.heap news) (hm : (d, o) ∈ news) (hd : o.IsDictOf (PySem.strKind prog w) kvs) (lo : (d == sysModules) = false) (h64 : kvs.length < 64)
    (h : ∀ D h' tk vs ss e, Fr h₀ L h' m → News h₀ L h' ((D, PySem.W.listOf vs.toArray e) :: news) → (∀ q ∈ news, q.1 < D) → StrsAre vs ss → ss.Perm (kvs.map (·.1)) → Q (.ref D) { s with heap := h', toks := tk }) :
    wpAny (model prog w) A (call (.builtin "sorted") [.ref d]) Q E s := by
  have hD := kda_dict N hm hd
  obtain ⟨ep, hat⟩ := hD.dictAt
  refine kdu_sorted (kdl_dict (knd := PySem.strKind prog w) (kvs := kvs) (ep := ep) lo) hh F N hat (by rw [sizeLine_eq]; exact om6 h64) fun D h' tk vs F' N' l1 hl hv => ?_
  have hS := keys_are kvs vs hl hv
  exact sort_strs F' N' (fun p hp => Nat.ne_of_lt (l1 p hp)) hS (om7 h64 hl) fun h'' vs' ss' e F'' N'' h1 h2 => h D h'' tk vs' ss' e F'' N'' l1 h1 h2
end
end
local macro_rules | `(tactic| walk_at "eval ListComp") => `(tactic| (k_here; k_dflt (refine LCg.ListComp_U (F₀ := by k_asm) (by with_unfolding_all rfl) (by decide) (by rfl) (by decide) (by rfl) ?_)))
section
set_option maxRecDepth 100000
set_option maxHeartbeats 8000000
noncomputable def CPost (h₀ : Heap) (L : Addr) (m : Str → Option Value) (s : Shared) (I : Addr) (oI : Obj) (C : Addr) (oC : Obj) (D : Addr) (oD : Obj) (S : List (Addr × Obj) → Prop) (J : Value → List (Addr × Obj) → Prop) (y : Value) (s₂ : Shared) : Prop :=
  ∃ h' tk' news', s₂ = { s with heap := h', toks := tk' } ∧ Fr h₀ L h' m ∧ News h₀ L h' ((I, oI) :: (C, oC) :: (D, oD) :: news') ∧ LCg.Off3 I C D news' ∧ S news' ∧ J y news'
theorem CPost.intro {h₀ : Heap} {L I C D : Addr} {m : Str → Option Value} {s : Shared} {oI oC oD : Obj} {S : List (Addr × Obj) → Prop} {J : Value → List (Addr × Obj) → Prop} {y : Value} {h' : Heap} {tk' : Nat} {news' : List (Addr × Obj)} (F : Fr h₀ L h' m) (N : News h₀ L h' ((I, oI) :: (C, oC) :: (D, oD) :: news')) (off : LCg.Off3 I C D news') (hS : S news') (hj : J y news') :
    CPost h₀ L m s I oI C oC D oD S J y { s with heap := h', toks := tk' } := ⟨h', tk', news', rfl, F, N, off, hS, hj⟩
theorem off1_mem {D : Addr} : ∀ {l : List (Addr × Obj)}, LCg.Off1 D l → ∀ p ∈ l, p.1 ≠ D
  | [], _, _, h => nomatch h
  | _ :: _, x, p, h => by
    rcases List.mem_cons.mp h with rfl | h
    · exact x.1
    · exact off1_mem x.2 p h
theorem news_keep13 {h₀ h : Heap} {L : Addr} {p q r : Addr × Obj} {news : List (Addr × Obj)} (N : News h₀ L h (p :: q :: r :: news)) : News h₀ L h (p :: news) := fun x hx => by
  rcases List.mem_cons.mp hx with rfl | hx
  · exact N _ (.head _)
  · exact N _ (.tail _ (.tail _ (.tail _ hx)))
theorem comp_loop {prog : Program} {w : World} {A : Around} {h₀ : Heap} {L : Addr} {m : Str → Option Value} {env : Env} {elt : Expr} {x : Str} {scope : Scope} {cl : List (Str × Addr)} {s : Shared} {S : List (Addr × Obj) → Prop} {P : Nat → Value → Prop}
    {Fin : List Value → List (Addr × Obj) → Prop} {n : Nat} {news : List (Addr × Obj)} (J : Nat → List Value → List (Addr × Obj) → Prop) (hJ : J 0 [] news)
    (step : ∀ i ys news v I oI C oC D m₂ h tk (E' : Value → Shared → Prop), i < n → J i ys news → P i v → LCg.NsObj oC m₂ → m₂ x = some v → Fr h₀ L h m → News h₀ L h ((I, oI) :: (C, oC) :: (D, LCg.lst ys) :: news) → LCg.Off3 I C D news → ((@Ne Nat I C) ∧ (@Ne Nat I D) ∧ (@Ne Nat C D)) →
      wpAny (model prog w) A (eval elt (compEnvC scope cl C env)) (CPost h₀ L m { s with heap := h, toks := tk } I oI C oC D (LCg.lst ys) S fun y news' => J (i + 1) (ys ++ [y]) news') E' { s with heap := h, toks := tk })
    (fin : ∀ ys news, J n ys news → Fin ys news) : LCg.CompRest prog w A h₀ L m env elt x scope cl s S P Fin n 0 [] news := by
  have loop : ∀ k i ys news, i + k = n → J i ys news → LCg.CompRest prog w A h₀ L m env elt x scope cl s S P Fin k i ys news := by
    intro k
    induction k with
    | zero => intro i ys news e hj; obtain rfl : i = n := by exact om8 e
              exact LCg.CompRest.zero (fin ys news hj)
    | succ k ih =>
      intro i ys news e hj
      refine LCg.CompRest.succ fun v I oI C oC D m₂ h tk E' hP hC hx F N off ne => ?_
      refine wpAny_mono (step i ys news v I oI C oC D m₂ h tk E' (om9 e) hj hP hC hx F N off ne) (fun y s₂ hq => ?_) fun _ _ e => e
      refine byC fun nG => ?_
      obtain ⟨h', tk', news', rfl, F', N', off', hS', hj'⟩ := hq
      refine nG ?_
      exact ⟨h', tk', news', rfl, F', N', off', hS', ih (i + 1) (ys ++ [y]) news' (om10 e) hj'⟩
  exact loop n 0 [] news (om11) hJ
theorem strs_at : ∀ {vs : List Value} {ss : List Str}, StrsAre vs ss → ∀ (i : Nat) (v : Value), vs.toArray[i]? = some v → ∃ k t, v = .str k t ∧ ss[i]? = some k
  | _, _, .nil, i, v, h => by simp at h
  | _, _, .cons y t hs, 0, v, h => by simp at h; exact ⟨y, t, h.symm, rfl⟩
  | _, _, .cons y t hs, i + 1, v, h => by simpa using strs_at hs i v (by simpa using h)
theorem valueAt_some {K : Type} [DecidableEq K] {k : K} : ∀ {kvs : List (K × Value)}, k ∈ kvs.map (·.1) → ∃ v, valueAt kvs k = some v
  | (k', v') :: r, h => by
    rw [valueAt_cons]
    by_cases e : k' = k
    · exact ⟨v', by rw [if_pos e]⟩
    · rw [if_neg e]
      simp only [List.map_cons, List.mem_cons] at h
      exact valueAt_some (h.resolve_left fun q => e q.symm)
theorem world_roots {w : World} {aw dw st : Addr} {wes : List DictEntry} {wn : Nat} {so : Obj} {kvs : List (Str × Value)}
    (hst : getL (Str.ofString "store") wes = some (some (.ref st))) (hso : so.IsDictOf (PySem.strKind PySem.Challenge.rw_sa0599_01.row.prog w) kvs) (lo : (st == sysModules) = false) (h64 : kvs.length < 64) :
    Con w 5 50 399 [.ref aw] (fun news => (aw, instObj 329 dw) ∈ news ∧ (dw, dictOf wes wn) ∈ news ∧ (st, so) ∈ news)
      (fun news r news' => ∃ (l : Addr) (ss : List Str) (e : Nat), ss.Perm (kvs.map (·.1)) ∧ r = .ref l ∧ news' = (l, PySem.W.listOf (ss.filterMap (valueAt kvs)).toArray e) :: news ∧ ∀ p ∈ news, p.1 ≠ l) := by
  unfold Con
  k_fill
  intro p loose mean mg mb dp un gd cn cs a ccd cl outer A₀ base h₀ L m news s Q E B F X N T hk hd hu hpre hret
  refine byC fun nG => ?_
  obtain ⟨m1, m2, m3⟩ := hpre
  refine nG ?_
  refine wpAny_call ?_
  refine' code_defC ?k1 ?k2 ?k3 ?k4 ?k5 ?kA ?kF ?kK ?k6 ?k7 ?k8 ?k9 ?kB ?kD ?_ ?c2 ?c3 ?c4
  case kA | kF => exact rfl
  case kK => assumption
  case k1 | k2 | k3 | k4 | k5 => k_asm
  case k6 | k7 => k_is
  case k8 => k_room
  case k9 => exact BindsTo.of_eq rfl
  case kB => exact rfl
  case kD => decide +kernel
  case c2 | c3 | c4 => exact rfl
  intro g' L' h' tk' cells' FG' F' N' Y' B' X' T' l1
  try k_lt l1
  k_cells Y'
  try simp only [List.cons_append, List.nil_append] at N'
  try dsimp only
  try k_fold
  k_steps
  k_dflt (refine sorted_store (by rfl) (by k_asm) (by k_asm) (by k_mem) (by k_asm) (by k_asm) (by k_asm) ?_)
  intro D1 h1 tk1 vs ss e1 F1 N1 l1 hS hP
  k_dflt (refine LCg.CompSrc.ledger (by rfl) (by k_asm) (by k_asm) (by k_mem) ?hsz ?_)
  case hsz => 
    have q1 := strs_length hS; have q2 := hP.length_eq; rw [sizeLine_eq]; simp at q2 ⊢; exact om12 h64 q1 q2
  intro g1
  have hlen : vs.length = ss.length := strs_length hS
  refine comp_loop (fun i ys news1 => ys = (ss.take i).filterMap (valueAt kvs) ∧ news1 = (D1, listOf vs.toArray e1) :: (_, _) :: news) ⟨rfl, rfl⟩ ?_ ?_
  · rintro i ys news1 v I oI C oC D m₂ h tk E' hi pP0 hP' hC hx F2 N2 off ne
    refine byC fun nG => ?_
    obtain ⟨rfl, rfl⟩ := pP0
    obtain ⟨k, t, rfl, hk2⟩ := strs_at hS i v hP'
    obtain ⟨v, hv⟩ := valueAt_some (k := k) (kvs := kvs) (hP.mem_iff.mp (List.mem_of_getElem? hk2))
    refine nG ?_
    have hys : (ss.take (i + 1)).filterMap (valueAt kvs) = (ss.take i).filterMap (valueAt kvs) ++ [v] := by
      rw [List.take_add_one, hk2]; simp [hv]
    k_steps
    exact CPost.intro (by k_asm) (by k_asm) (by assumption) (.inr ⟨_, .head _, rfl, _, rfl⟩) ⟨hys.symm, rfl⟩
  · rintro ys news1 pP0
    refine byC fun nG => ?_
    obtain ⟨hy, rfl⟩ := pP0
    refine nG ?_
    rw [show ss.take vs.toArray.size = ss by simp [hlen]] at hy
    subst hy
    k_steps
    (rename _ ∧ _ ∧ LCg.Off1 _ _ => hoff)
    exact hret _ _ _ _ (by k_asm) (news_keep13 (by k_asm)) ⟨_, ss, _, hP, rfl, rfl, off1_mem hoff.2.2⟩
end
section
set_option maxRecDepth 100000
section
variable {prog : Program} {w : World} {A : Around} {E : Value → Shared → Prop} {s : Shared} {h₀ : Heap} {L : Addr} {m : Str → Option Value} {news : List (Addr × Obj)}
theorem pop_at {D : Addr} {n : Nat} {p : List Value} {y : Value} {Q : Value → Shared → Prop} (F : Fr h₀ L s.heap m) (N : News h₀ L s.heap news) (hm : (D, PySem.W.listOf (p ++ [y]).toArray n) ∈ news) (hz : p.length < 100000)
    (h : ∀ h' e, Fr h₀ L h' m → News h₀ L h' (setAt D (PySem.W.listOf p.toArray e) news) → Q y { s with heap := h' }) : wpAny (model prog w) A (call (.builtin "list.pop") [.ref D]) Q E s := by
  have z := N _ hm
  have hz' : (p ++ [y]).toArray.size ≤ sizeLine := by rw [sizeLine_eq]; simp; exact om13 hz
  have hk : (p ++ [y]).toArray.size - 1 = p.length := by rw [List.size_toArray, List.length_append]; rfl
  have hy : (p ++ [y]).toArray[(p ++ [y]).toArray.size - 1]? = some y := by rw [hk]; simp
  have q := PySem.IsL.update z.1 (fun a => a.eraseIdxIfInBounds ((p ++ [y]).toArray.size - 1))
  have e0 : (p ++ [y]).toArray.eraseIdxIfInBounds ((p ++ [y]).toArray.size - 1) = p.toArray := by rw [hk, kl_erase, List.append_nil]
  rw [e0] at q
  exact call_meets PySem.F.slot_list_pop ⟨_, z.1, rfl⟩ PySem.F.entry_list_pop (PySem.F.args_list_pop_1 _) (PySem.MeetsSeq.list_pop_last D _ n y hy hz') ⟨z.1, h _ _ (F.change (Heap.SameBut.update ..) z.2.1 z.2.2) (news_set_of N hm (Heap.SameBut.update ..) q)⟩
theorem extend_at {D b : Addr} {n n2 : Nat} {its its2 : Array Value} {Q : Value → Shared → Prop} (F : Fr h₀ L s.heap m) (N : News h₀ L s.heap news) (hm : (D, PySem.W.listOf its n) ∈ news) (hb : (b, PySem.W.listOf its2 n2) ∈ news) (hz : its.size + its2.size < 100000)
    (h : ∀ h' e, Fr h₀ L h' m → News h₀ L h' (setAt D (PySem.W.listOf (its ++ its2) e) news) → Q .none { s with heap := h' }) : wpAny (model prog w) A (call (.builtin "list.extend") [.ref D, .ref b]) Q E s := by
  have z := N _ hm
  have q := PySem.IsL.update z.1 (fun a => a ++ its2)
  refine call_meets PySem.F.slot_list_extend ⟨_, z.1, rfl⟩ PySem.F.entry_list_extend (PySem.F.args_list_extend_2 _ _) (PySem.AutoSeq1.list_extend_list_list_0 D its n b its2 n2 ?_ ?_ ?_) ⟨z.1, (N _ hb).1, h _ _ (F.change (Heap.SameBut.update ..) z.2.1 z.2.2) (news_set_of N hm (Heap.SameBut.update ..) q)⟩
  · simp only [Bool.and_eq_true, not_and, Bool.not_eq_true]
    intro _
    unfold Builtin.List.listTooLong
    first
      | exact decide_eq_false (by rw [sizeLine_eq]; exact om14 hz)
      | (simp [sizeLine_eq]; omega)
  · rw [sizeLine_eq]; exact om15 hz
  · rw [sizeLine_eq]; exact om16 hz
theorem append_at' {D : Addr} {n : Nat} {its : Array Value} {y : Value} {Q : Value → Shared → Prop} (F : Fr h₀ L s.heap m) (N : News h₀ L s.heap news) (hm : (D, PySem.W.listOf its n) ∈ news) (hz : its.size < 100000)
    (h : ∀ h' e, Fr h₀ L h' m → News h₀ L h' (setAt D (PySem.W.listOf (its.push y) e) news) → Q .none { s with heap := h' }) : wpAny (model prog w) A (call (.builtin "list.append") [.ref D, y]) Q E s := by
  have z := N _ hm
  have U : Upd D (PySem.W.listOf its n) (PySem.W.listOf (its.push y) (n + 1)) ((D, PySem.W.listOf its n) :: offAt D news) ((D, PySem.W.listOf (its.push y) (n + 1)) :: offAt D news) := Upd.head offAt_ne
  exact append_K F (news_off N hm) U (fun h' F' N' => h h' _ F' (news_setAt N')) (by rw [sizeLine_eq]; exact om17 hz)
theorem dict_set_at {K : Type} [DecidableEq K] {knd : KeyKind prog w K} {D : Addr} {o : Obj} {kvs : List (K × Value)} {k : K} {key v : Value} {Q : Unit → Shared → Prop} (F : Fr h₀ L s.heap m) (N : News h₀ L s.heap news) (hm : (D, o) ∈ news) (hd : o.IsDictOf knd kvs) (hkey : knd.is k key = true) (hz : kvs.length < 100000)
    (h : ∀ h' o', Fr h₀ L h' m → News h₀ L h' (setAt D o' news) → o'.IsDictOf knd (stored kvs k v) → Q () { s with heap := h', toks := s.toks + 1 }) : wpAny (model prog w) A (setItem (.ref D) key v) Q E s :=
  kda_set F (news_off N hm) (UpdF.head offAt_ne) hd hkey (by rw [sizeLine_eq]; exact om17 hz) fun h' o' F' N' hd' => h h' o' F' (news_setAt N') hd'
theorem dict_set_S {K : Type} [DecidableEq K] {knd : KeyKind prog w K} {D : Addr} {o : Obj} {kvs : List (K × Value)} {k : K} {key v : Value} {Q : Unit → Shared → Prop} {hp : Heap} {g : Array GenState} {dr : Drawn} {tk : Nat} {os : OsState} (F : Fr h₀ L hp m) (N : News h₀ L hp news) (hm : (D, o) ∈ news) (hd : o.IsDictOf knd kvs) (hkey : knd.is k key = true) (hz : kvs.length < 100000)
    (h : ∀ h' o', Fr h₀ L h' m → News h₀ L h' (setAt D o' news) → o'.IsDictOf knd (stored kvs k v) → Q () ⟨h', g, dr, tk + 1, os⟩) : wpAny (model prog w) A (setItem (.ref D) key v) Q E ⟨hp, g, dr, tk, os⟩ :=
  dict_set_at (s := ⟨hp, g, dr, tk, os⟩) F N hm hd hkey hz h
theorem dict_get_S {K : Type} [DecidableEq K] {knd : KeyKind prog w K} {D : Addr} {o : Obj} {kvs : List (K × Value)} {k : K} {key v : Value} {value slice : PySem.Expr} {Q : Value → Shared → Prop} {hp : Heap} {g : Array GenState} {dr : Drawn} {tk : Nat} {os : OsState} (N : News h₀ L hp news) (hm : (D, o) ∈ news) (hd : o.IsDictOf knd kvs) (hkey : knd.is k key = true) (hl : valueAt kvs k = some v) (h : Q v ⟨hp, g, dr, tk + 1, os⟩)
    (hs : subscripted slice false (.ref D) key = operate [.ref D, key] (getItem (.ref D) key) := by with_unfolding_all rfl) (hg : ∀ r, letTemporaryGo value (.ref D) r = pure () := by intro _; with_unfolding_all rfl) :
    wpAny (model prog w) A (subscriptTail value slice (.ref D) key) Q E ⟨hp, g, dr, tk, os⟩ :=
  kda_item (s := ⟨hp, g, dr, tk, os⟩) N hm hd hkey hl h hs hg
theorem attr_set_at {K : Frag} {x C dx : Addr} {es es' : List DictEntry} {n n' : Nat} {name : Str} {v : Value} {Q : Unit → Shared → Prop} (F : Fr h₀ L s.heap m) (X₀ : K.In h₀) (N : News h₀ L s.heap news) (hi : (x, instObj C dx) ∈ news) (hm : (dx, dictOf es n) ∈ news)
    (hs : findIn K (.ref C) "__setattr__" = some (some (.builtin "object.__setattr__"))) (hp : plainOver K C = true) (ht : takerIn K C name = some none) (hh : hasDictIn K C = true) (hl : (getL name es).isSome = true)
    (e : (putL name (PyData.keyHash w.params name) (.str name (s.toks + 1)) v es, putN name es n) = (es', n')) (hz : es'.length ≤ 1000)
    (h : ∀ h', Fr h₀ L h' m → News h₀ L h' (setAt dx (dictOf es' n') news) → Q () { s with heap := h', toks := s.toks + 2 }) :
    wpAny (model prog w) A (setAttr (.ref x) name v) Q E s := by
  have I : InstAt s.heap x (instObj C dx) C (some (dictOf es n)) := InstAt.of_news N hi hm
  exact set_dict F X₀ (news_off N hm) I rfl hs hp ht hh hl e (Upd.head offAt_ne) hz fun h' F' N' => h h' F' (news_setAt N')
end
section
variable {prog : Program} {w : World} {A : Around} {E : Value → Shared → Prop} {Q : Flow → Shared → Prop} {s : Shared} {env : Env} {h₀ : Heap} {L : Addr}
noncomputable def WEnd (h₀ : Heap) (L : Addr) (s : Shared) (x : Str) (m₀ : Str → Option Value) (J : Nat → Option Value → List (Addr × Obj) → Prop) (n : Nat) (s₃ : Shared) : Prop :=
  ∃ h' tk m' news' n', s₃ = { s with heap := h', toks := tk } ∧ Fr h₀ L h' m' ∧ News h₀ L h' news' ∧ (∀ y, y ≠ x → m' y = m₀ y) ∧ n' < n ∧ J n' (m' x) news'
theorem WEnd.intro {x : Str} {m₀ m' : Str → Option Value} {J : Nat → Option Value → List (Addr × Obj) → Prop} {n n' : Nat} {h' : Heap} {tk : Nat} {news' : List (Addr × Obj)} (F : Fr h₀ L h' m') (N : News h₀ L h' news') (hm : ∀ y, y ≠ x → m' y = m₀ y) (hn : n' < n) (hj : J n' (m' x) news') :
    WEnd h₀ L s x m₀ J n { s with heap := h', toks := tk } := ⟨h', tk, m', news', n', rfl, F, N, hm, hn, hj⟩
noncomputable def WPost (h₀ : Heap) (L : Addr) (s : Shared) (x : Str) (m₀ : Str → Option Value) (J : Nat → Option Value → List (Addr × Obj) → Prop) (Q : Flow → Shared → Prop) (n : Nat) (f : Flow) (s₃ : Shared) : Prop :=
  match f with
  | .next | .cont => WEnd h₀ L s x m₀ J n s₃
  | .brk => Q .next s₃
  | .ret v => Q (.ret v) s₃
theorem wpost_next {x : Str} {m₀ : Str → Option Value} {J : Nat → Option Value → List (Addr × Obj) → Prop} {n : Nat} {s₃ : Shared} (h : WEnd h₀ L s x m₀ J n s₃) : WPost h₀ L s x m₀ J Q n .next s₃ := h
theorem wpost_cont {x : Str} {m₀ : Str → Option Value} {J : Nat → Option Value → List (Addr × Obj) → Prop} {n : Nat} {s₃ : Shared} (h : WEnd h₀ L s x m₀ J n s₃) : WPost h₀ L s x m₀ J Q n .cont s₃ := h
theorem while_one {test : Expr} {body : List Stmt} {pos : Pos} {m₀ : Str → Option Value} {news : List (Addr × Obj)} (x : Str) (J : Nat → Option Value → List (Addr × Obj) → Prop) {n₀ : Nat}
    (F : Fr h₀ L s.heap m₀) (N : News h₀ L s.heap news) (hJ : J n₀ (m₀ x) news)
    (turn : ∀ n u nx h₁ tk₁, Fr h₀ L h₁ (fun y => if y = x then u else m₀ y) → News h₀ L h₁ nx → J n u nx →
      wpAny (model prog w) A (isTrue test env (eval test env)) (fun b s₂ =>
        if b = true then wpAny (model prog w) A (execs body env) (WPost h₀ L s x m₀ J Q n) E s₂ else Q .next s₂) E { s with heap := h₁, toks := tk₁ })
    (hE : PassesOwn (model prog w) A env E) :
    wpAny (model prog w) A (exec (.While test body [] pos) env) Q E s := by
  refine While_inv2 (fun n m nx => (∀ y, y ≠ x → m y = m₀ y) ∧ J n (m x) nx) F N ⟨fun _ _ => rfl, hJ⟩ ?_ hE
  rintro n m₁ nx h tk F₁ N₁ pP0
  refine byC fun nG => ?_
  obtain ⟨hm, hj⟩ := pP0
  refine nG ?_
  have em : (fun y => if y = x then m₁ x else m₀ y) = m₁ := by
    funext y
    by_cases hy : y = x
    · subst hy; simp
    · simp only [if_neg hy]; exact (hm y hy).symm
  refine wpAny_mono (turn n (m₁ x) nx h tk (by rw [em]; exact F₁) N₁ hj) (fun b s₂ p => ?_) fun _ _ x => x
  cases b with
  | false => simpa using p
  | true =>
    simp only [if_true] at p ⊢
    refine wpAny_mono p (fun f s₃ q => ?_) fun _ _ x => x
    cases f with
    | ret v => exact q
    | brk => exact q
    | next =>
      refine byC fun nG => ?_
      obtain ⟨h', tk', m', news', n', rfl, F', N', h1, h2, h3⟩ := q
      refine nG ?_
      exact ⟨h', tk', m', news', n', rfl, F', N', h2, h1, h3⟩
    | cont =>
      refine byC fun nG => ?_
      obtain ⟨h', tk', m', news', n', rfl, F', N', h1, h2, h3⟩ := q
      refine nG ?_
      exact ⟨h', tk', m', news', n', rfl, F', N', h2, h1, h3⟩
end
end
local macro_rules | `(tactic| walk_at "call type:list") => `(tactic| (k_here; (with_reducible show wpAny _ _ (call (Value.type _) [Value.ref _]) _ _ _); k_dflt (refine' list_copyK ?k1 ?k2 ?k3 ?_ ?z; (case k1 | k2 => k_asm); (case k3 => exact News.isList (by k_asm) (by k_mem)); (case z => (rw [sizeLine_eq]; first | omega | (simp; omega))); k_whole); intro D' c' h' F' N' l1; (try k_sweep)))
local macro_rules | `(tactic| walk_at "call builtin:len") => `(tactic| (k_here; (with_reducible show wpAny _ _ (call (Value.builtin "len") [Value.ref _]) _ _ _); k_dflt (refine' KM.len_K ?k1 ?k2 ?k3 ?k4 ?_; (case k1 => k_asm); (case k2 => k_mem); (case k3 => exact rfl); (case k4 => (first | omega | (simp; omega))))))
local macro_rules | `(tactic| walk_at "call builtin:list.pop") => `(tactic| (k_here; (with_reducible show wpAny _ _ (call (Value.builtin _) [Value.ref _]) _ _ _); k_dflt (refine' pop_at ?F ?N ?m ?z ?_; (case F | N => k_asm); (case m => k_mem); (case z => (first | omega | (simp; omega)))); intro h' e' F' N'; (try k_sweep)))
local macro_rules | `(tactic| walk_at "call builtin:list.extend") => `(tactic| (k_here; (with_reducible show wpAny _ _ (call (Value.builtin _) [Value.ref _, Value.ref _]) _ _ _); k_dflt (refine' extend_at ?F ?N ?m ?b ?z ?_; (case F | N => k_asm); (case m | b => k_mem); (case z => (first | omega | (simp; omega)))); intro h' e' F' N'; (try k_sweep)))
local macro_rules | `(tactic| walk_at "compareOp In int ref") => `(tactic| (k_here; (with_reducible show wpAny _ _ (compareOp CmpOp.In (Value.int _ _) (Value.ref _)) _ _ _); k_dflt (refine' kda_in (knd := PySem.intKind _ _) ?N ?m ?d ?l (intKind_is _ _ _ _) _ ?b ?_; (case N => k_asm); (case m => k_mem); (case d => k_asm); (case l | b => assumption))))
local macro_rules | `(tactic| walk_at "setItem ref int") => `(tactic| (k_here; k_dflt (refine' dict_set_S (knd := PySem.intKind _ _) ?F ?N ?m ?d (intKind_is _ _ _ _) ?z ?_; (case F | N => k_asm); (case m => k_mem); (case d => k_asm); (case z => assumption)); intro h' o' F' N' hd'; (try k_sweep)))
local macro_rules | `(tactic| walk_at "mem tail") => `(tactic| first | ktr_member | (refine' mem_setAt_eq ?mm; case mm => walk_at "mem tail") | (refine' mem_setAt_ne ?mm ?nn; (case mm => walk_at "mem tail"); (case nn => walk_at "ne9")) | (refine' List.mem_cons_of_mem _ ?mm; case mm => walk_at "mem tail"))
local macro_rules | `(tactic| walk_at "setAttr ref") => `(tactic| (k_here; k_dflt (refine' attr_set_at ?k1 ?k2 ?k3 ?k4 ?k5 ?s1 ?s2 ?s3 ?s4 ?g ?e ?z ?_; (case k1 | k2 | k3 => k_asm); (case k4 | k5 => walk_at "mem tail"); (case s1 | s2 | s3 | s4 => k_is); (case g => k_get); (case e => k_put); (case z => exact Nat.le_of_ble_eq_true rfl); k_whole); intro h' F' N'; (try k_sweep)))
section
set_option maxRecDepth 100000
theorem name1 {h₀ h : Heap} {L a : Addr} {o : Obj} {r : List (Addr × Obj)} {G : Prop} (_ : News h₀ L h ((a, o) :: r)) (k : ∀ x, x = a → G) : G := k _ rfl
theorem name2 {h₀ h : Heap} {L a b : Addr} {o o' : Obj} {r : List (Addr × Obj)} {G : Prop} (_ : News h₀ L h ((a, o) :: (b, o') :: r)) (k : ∀ x y, x = a → y = b → G) : G := k _ _ rfl rfl
theorem name3 {h₀ h : Heap} {L a b c : Addr} {o o' o'' : Obj} {r : List (Addr × Obj)} {G : Prop} (_ : News h₀ L h ((a, o) :: (b, o') :: (c, o'') :: r)) (k : ∀ x y z, x = a → y = b → z = c → G) : G := k _ _ _ rfl rfl rfl
end
local macro_rules | `(tactic| walk_at "subscriptTail") => `(tactic| (k_here; (with_reducible show wpAny _ _ (subscriptTail _ _ (Value.ref _) (Value.str _ _)) _ _ _); k_dflt (refine dict_get_S (knd := PySem.strKind _ _) (by k_asm) (by k_mem) (by k_asm) (strKind_is _ _ _ _) (by k_asm) ?_)))
local macro_rules | `(tactic| walk_at "exec While Compare cons nil") => `(tactic| (refine hold ?_))
local macro_rules | `(tactic| walk_at "exec While BoolOp cons nil") => `(tactic| (refine hold ?_))
local macro_rules | `(tactic| walk_at "exec While") => `(tactic| (refine hold ?_))
section
set_option maxRecDepth 100000
/-- where the ways of a statement meet: what holds behind it, told by the ledger -/
noncomputable def JPost (h₀ : Heap) (L : Addr) (m : Str → Option Value) (I : List (Addr × Obj) → Prop) (g : Array GenState) (dr : Drawn) (os : OsState) (Q : Flow → Shared → Prop) (f : Flow) (s : Shared) : Prop :=
  match f with
  | .next => ∃ h k nx, s = ⟨h, g, dr, k, os⟩ ∧ Fr h₀ L h m ∧ News h₀ L h nx ∧ I nx
  | f => Q f s
section
variable {M : Model} {A : Around} {E : Value → Shared → Prop} {h₀ h h' : Heap} {L : Addr} {m : Str → Option Value} {g : Array GenState} {dr : Drawn} {k : Nat} {os : OsState} {Q : Flow → Shared → Prop} {nx : List (Addr × Obj)} {st : Stmt} {rest : List Stmt} {env : Env}
theorem jpost_next {I : List (Addr × Obj) → Prop} (F : Fr h₀ L h' m) (N : News h₀ L h' nx) (i : I nx) : JPost h₀ L m I g dr os Q .next ⟨h', g, dr, k, os⟩ := ⟨h', k, nx, rfl, F, N, i⟩
theorem jpost_cont {I : List (Addr × Obj) → Prop} {s : Shared} (i : Q .cont s) : JPost h₀ L m I g dr os Q .cont s := i
theorem if_join (F : Fr h₀ L h m) (I : List (Addr × Obj) → Prop) (tail : ∀ h k nx, Fr h₀ L h m → News h₀ L h nx → I nx → wpAny M A (execs rest env) Q E ⟨h, g, dr, k, os⟩)
    (H : wpAny M A (exec st env) (JPost h₀ L m I g dr os Q) E ⟨h, g, dr, k, os⟩) : wpAny M A (execs (st :: rest) env) Q E ⟨h, g, dr, k, os⟩ :=
  wpAny_execs_cons (wpAny_mono H (fun f s p => match f, p with
    | .next, ⟨h, k, nx, e, F, N, i⟩ => e ▸ tail h k nx F N i
    | .ret _, p => p
    | .brk, p => p
    | .cont, p => p) fun _ _ e => e)
end
theorem Con.of {w : World} {dmax umax : Nat} {f : Addr} {vs : List Value} {Pre : List (Addr × Obj) → Prop} {Post : List (Addr × Obj) → Value → List (Addr × Obj) → Prop}
    (h : ∀ news, Pre news → ∃ (Pre₁ : List (Addr × Obj) → Prop) (Post₁ : List (Addr × Obj) → Value → List (Addr × Obj) → Prop), Con w dmax umax f vs Pre₁ Post₁ ∧ Pre₁ news ∧ ∀ r news', Post₁ news r news' → Post news r news') : Con w dmax umax f vs Pre Post := by
  unfold Con
  intro p loose mean mg mb dp un gd cn cs a ccd cl outer A₀ base h₀ L m news s Q E B F X N T hk hd hu hpre hret
  obtain ⟨Pre₁, Post₁, C, h1, h2⟩ := h news hpre
  exact C _ _ _ _ _ _ _ _ _ _ _ _ _ _ _ _ _ _ _ _ _ _ _ B F X N T hk hd hu h1 fun r h' tk' news' F' N' hp => hret r h' tk' news' F' N' (h2 r news' hp)
end
section
set_option maxRecDepth 100000
set_option maxHeartbeats 8000000
noncomputable def CellIn (P : Params) (fl : Addr) (news : List (Addr × Obj)) (c : Cell) (mark : Int) (arr : Array Value) : Prop :=
  ∃ mtk ve, (c.a, instObj 260 c.d) ∈ news ∧ (c.d, dictOf (cellEs P fl c mark mtk) 5) ∈ news ∧ (c.v, PySem.W.listOf arr ve) ∈ news
noncomputable def NV (cs : List Cell) (v : Value) : Prop := (∃ x t, v = .str x t) ∨ (∃ i t, v = .int i t) ∨ ∃ c ∈ cs, v = .ref c.a
structure Apart (cs : List Cell) : Prop where
  ad : ∀ c ∈ cs, ∀ c' ∈ cs, c.a ≠ c'.d
  av : ∀ c ∈ cs, ∀ c' ∈ cs, c.a ≠ c'.v
  dv : ∀ c ∈ cs, ∀ c' ∈ cs, c.d ≠ c'.v
  aa : ∀ c ∈ cs, ∀ c' ∈ cs, c.a = c'.a → c = c'
  dd : ∀ c ∈ cs, ∀ c' ∈ cs, c.d = c'.d → c = c'
  vv : ∀ c ∈ cs, ∀ c' ∈ cs, c.v = c'.v → c = c'
  nn : ∀ c ∈ cs, ∀ c' ∈ cs, c.num = c'.num → c = c'
/-- what reach leaves -/
structure Reached (P : Params) (fl : Addr) (cs : List Cell) (arr : Cell → Array Value) (mark : Cell → Int) (vs : List Value) (news news' : List (Addr × Obj)) (M : List Cell) : Prop where
  sub : ∀ c ∈ M, c ∈ cs
  roots : ∀ v ∈ vs, ∀ c ∈ cs, v = .ref c.a → c ∈ M
  closed : ∀ c ∈ M, ∀ v ∈ (arr c).toList, ∀ c' ∈ cs, v = .ref c'.a → c' ∈ M
  sound : ∀ R : Cell → Prop, (∀ v ∈ vs, ∀ c ∈ cs, v = .ref c.a → R c) → (∀ c ∈ cs, R c → ∀ v ∈ (arr c).toList, ∀ c' ∈ cs, v = .ref c'.a → R c') → ∀ c ∈ M, R c
  cells : ∀ c ∈ cs, ∃ k, (c ∈ M → k = 1) ∧ (c ∉ M → k = mark c) ∧ CellIn P fl news' c k (arr c)
  keep : ∀ p ∈ news, (∀ c ∈ cs, p.1 ≠ c.d) → p ∈ news'
structure JIn (prog : Program) (w : World) (fl : Addr) (cs : List Cell) (arr : Cell → Array Value) (mark : Cell → Int) (vs : List Value) (news₀ : List (Addr × Obj)) (wl md : Addr) (n : Nat) (nx : List (Addr × Obj)) (W : List Value) (M : List Cell) (e : Nat) (om : Obj) : Prop where
  meas : n = 4 * (cs.length - M.length) + W.length
  room : W.length + 3 * (cs.length - M.length) ≤ 5000
  mle : M.length ≤ cs.length
  nd : M.Nodup
  sub : ∀ c ∈ M, c ∈ cs
  nv : ∀ v ∈ W, NV cs v
  wl : (wl, PySem.W.listOf W.toArray e) ∈ nx
  md : (md, om) ∈ nx
  dict : om.IsDictOf (PySem.intKind prog w) (M.map fun c => (c.num, Value.bool true))
  cells : ∀ c ∈ cs, ∃ k, (c ∈ M → k = 1) ∧ (c ∉ M → k = mark c) ∧ CellIn w.params fl nx c k (arr c)
  roots : ∀ v ∈ vs, ∀ c ∈ cs, v = .ref c.a → c ∈ M ∨ v ∈ W
  closed : ∀ c ∈ M, ∀ v ∈ (arr c).toList, ∀ c' ∈ cs, v = .ref c'.a → c' ∈ M ∨ v ∈ W
  sound : ∀ R : Cell → Prop, (∀ v ∈ vs, ∀ c ∈ cs, v = .ref c.a → R c) → (∀ c ∈ cs, R c → ∀ v ∈ (arr c).toList, ∀ c' ∈ cs, v = .ref c'.a → R c') → (∀ c ∈ M, R c) ∧ ∀ v ∈ W, ∀ c ∈ cs, v = .ref c.a → R c
  keep : ∀ p ∈ news₀, (∀ c ∈ cs, p.1 ≠ c.d) → p ∈ nx
theorem nodup_len {α : Type} : ∀ (M cs : List α), M.Nodup → (∀ c ∈ M, c ∈ cs) → M.length ≤ cs.length
  | [], _, _, _ => by simp
  | c :: M, cs, h, hs => by
    classical
    have hc : c ∈ cs := hs c (.head _)
    have h1 : c ∉ M := (List.nodup_cons.mp h).1
    have := nodup_len M (cs.erase c) (List.nodup_cons.mp h).2 fun x hx => (List.mem_erase_of_ne (by rintro rfl; exact h1 hx)).mpr (hs x (.tail _ hx))
    rw [List.length_erase_of_mem hc] at this
    have := List.length_pos_of_mem hc
    simp; exact om18 (by assumption) this
/-- popping what is no cell, or a met one -/
theorem JIn.drop {prog : Program} {w : World} {fl : Addr} {cs : List Cell} {arr : Cell → Array Value} {mark : Cell → Int} {vs : List Value} {news₀ : List (Addr × Obj)} {wl md : Addr} {n : Nat} {nx nx' : List (Addr × Obj)} {p : List Value} {y : Value} {M : List Cell} {e e' : Nat} {om : Obj}
    (j : JIn prog w fl cs arr mark vs news₀ wl md n nx (p ++ [y]) M e om) (hy : ∀ c ∈ cs, y = .ref c.a → c ∈ M) (h1 : (wl, PySem.W.listOf p.toArray e') ∈ nx') (h2 : ∀ q ∈ nx, q.1 ≠ wl → q ∈ nx') (hmd : md ≠ wl) (f : ∀ q ∈ news₀, q.1 ≠ wl) (ha : ∀ c ∈ cs, c.a ≠ wl) (hd : ∀ c ∈ cs, c.d ≠ wl) (hv : ∀ c ∈ cs, c.v ≠ wl) :
    JIn prog w fl cs arr mark vs news₀ wl md (n - 1) nx' p M e' om := by
  have hw : ∀ c v, c ∈ cs → v = .ref c.a → v ∈ p ++ [y] → c ∈ M ∨ v ∈ p := fun c v hc e h => by
    rcases List.mem_append.mp h with h | h
    · exact .inr h
    · exact .inl (hy c hc (by rw [List.mem_singleton.mp h] at e; exact e))
  refine ⟨?_, ?_, j.mle, j.nd, j.sub, fun v hv => j.nv v (List.mem_append_left _ hv), h1, h2 _ j.md hmd, j.dict, ?_, ?_, ?_, ?_, fun q hq hc => h2 q (j.keep q hq hc) (f q hq)⟩
  · have := j.meas; simp at this ⊢; exact om19 this
  · have := j.room; simp at this; exact om20 this
  · intro c hc
    obtain ⟨k, k1, k2, mtk, ve, m1, m2, m3⟩ := j.cells c hc
    exact ⟨k, k1, k2, mtk, ve, h2 _ m1 (ha c hc), h2 _ m2 (hd c hc), h2 _ m3 (hv c hc)⟩
  · intro v hv c hc e
    rcases j.roots v hv c hc e with h | h
    · exact .inl h
    · exact hw c v hc e h
  · intro c hc v hv c' hc' e
    rcases j.closed c hc v hv c' hc' e with h | h
    · exact .inl h
    · exact hw c' v hc' e h
  · intro R r1 r2
    exact ⟨(j.sound R r1 r2).1, fun v hv => (j.sound R r1 r2).2 v (List.mem_append_left _ hv)⟩
theorem JIn.take {prog : Program} {w : World} {fl : Addr} {cs : List Cell} {arr : Cell → Array Value} {mark : Cell → Int} {vs : List Value} {news₀ : List (Addr × Obj)} {wl md : Addr} {n : Nat} {nx nx' : List (Addr × Obj)} {p : List Value} {c : Cell} {M : List Cell} {e e' : Nat} {om om' : Obj} {mtk : Tok}
    (j : JIn prog w fl cs arr mark vs news₀ wl md n nx (p ++ [.ref c.a]) M e om) (ap : Apart cs) (hna : ∀ c ∈ cs, ∀ v ∈ (arr c).toList, NV cs v) (hsz : ∀ c ∈ cs, (arr c).size ≤ 3) (hc : c ∈ cs) (hm : c ∉ M) (h1 : (wl, PySem.W.listOf (p.toArray ++ arr c) e') ∈ nx')
    (hd' : om'.IsDictOf (PySem.intKind prog w) (M.map (fun c => (c.num, Value.bool true)) ++ [(c.num, Value.bool true)])) (h3 : (md, om') ∈ nx') (h4 : (c.d, dictOf (cellEs w.params fl c 1 mtk) 5) ∈ nx')
    (h2 : ∀ q ∈ nx, q.1 ≠ wl → q.1 ≠ md → q.1 ≠ c.d → q ∈ nx') (f : ∀ q ∈ news₀, q.1 ≠ wl ∧ q.1 ≠ md) (ha : ∀ c ∈ cs, c.a ≠ wl ∧ c.a ≠ md) (hd : ∀ c ∈ cs, c.d ≠ wl ∧ c.d ≠ md) (hv : ∀ c ∈ cs, c.v ≠ wl ∧ c.v ≠ md) :
    ∃ n', n' < n ∧ JIn prog w fl cs arr mark vs news₀ wl md n' nx' (p ++ (arr c).toList) (M ++ [c]) e' om' := by
  have hlen : M.length < cs.length := by
    have : (M ++ [c]).Nodup := List.nodup_append.mpr ⟨j.nd, by simp, fun a ha b hb => by rw [List.mem_singleton.mp hb]; intro q; exact hm (q ▸ ha)⟩
    have := nodup_len _ cs this fun x hx => (List.mem_append.mp hx).elim (j.sub x) fun h => by rw [List.mem_singleton.mp h]; exact hc
    simp at this; exact om21 this
  have hs := hsz c hc
  refine ⟨4 * (cs.length - (M ++ [c]).length) + (p ++ (arr c).toList).length, ?_, rfl, ?_, ?_, ?_, ?_, ?_, ?_, h3, by simpa using hd', ?_, ?_, ?_, ?_, ?_⟩
  · have := j.meas; simp at this ⊢; exact om22 hlen hs this
  · have := j.room; simp at this ⊢; exact om23 hlen hs this
  · simp; exact om24 hlen
  · exact List.nodup_append.mpr ⟨j.nd, by simp, fun a ha b hb => by rw [List.mem_singleton.mp hb]; intro q; exact hm (q ▸ ha)⟩
  · exact fun x hx => (List.mem_append.mp hx).elim (j.sub x) fun h => by rw [List.mem_singleton.mp h]; exact hc
  · exact fun v hv => (List.mem_append.mp hv).elim (fun h => j.nv v (List.mem_append_left _ h)) (hna c hc v)
  · simpa [← List.append_toArray] using h1
  · intro c' hc'
    obtain ⟨k, k1, k2, mtk', ve, m1, m2, m3⟩ := j.cells c' hc'
    have q1 := h2 _ m1 (ha c' hc').1 (ha c' hc').2 (ap.ad c' hc' c hc)
    have q3 := h2 _ m3 (hv c' hc').1 (hv c' hc').2 (ap.dv c hc c' hc').symm
    by_cases e : c' = c
    · subst e
      exact ⟨1, fun _ => rfl, fun h => absurd (List.mem_append_right _ (List.mem_singleton.mpr rfl)) h, mtk, ve, q1, h4, q3⟩
    · refine ⟨k, fun h => k1 ((List.mem_append.mp h).resolve_right fun h => e (List.mem_singleton.mp h)), fun h => k2 fun h' => h (List.mem_append_left _ h'), mtk', ve, q1, h2 _ m2 (hd c' hc').1 (hd c' hc').2 fun q => e (ap.dd c' hc' c hc q), q3⟩
  · intro v hv c' hc' e
    rcases j.roots v hv c' hc' e with h | h
    · exact .inl (List.mem_append_left _ h)
    · rcases List.mem_append.mp h with h | h
      · exact .inr (List.mem_append_left _ h)
      · rw [List.mem_singleton.mp h] at e
        injection e with e
        exact .inl (List.mem_append_right _ (List.mem_singleton.mpr (ap.aa c hc c' hc' e).symm))
  · intro x hx v hv c' hc' e
    rcases List.mem_append.mp hx with hx | hx
    · rcases j.closed x hx v hv c' hc' e with h | h
      · exact .inl (List.mem_append_left _ h)
      · rcases List.mem_append.mp h with h | h
        · exact .inr (List.mem_append_left _ h)
        · rw [List.mem_singleton.mp h] at e
          injection e with e
          exact .inl (List.mem_append_right _ (List.mem_singleton.mpr (ap.aa c hc c' hc' e).symm))
    · rw [List.mem_singleton.mp hx] at hv
      exact .inr (List.mem_append_right _ hv)
  · intro R r1 r2
    have hR := (j.sound R r1 r2).2 (.ref c.a) (List.mem_append_right _ (List.mem_singleton.mpr rfl)) c hc rfl
    refine ⟨fun x hx => (List.mem_append.mp hx).elim ((j.sound R r1 r2).1 x) fun h => by rw [List.mem_singleton.mp h]; exact hR, fun v hv c' hc' e => ?_⟩
    rcases List.mem_append.mp hv with h | h
    · exact (j.sound R r1 r2).2 v (List.mem_append_left _ h) c' hc' e
    · exact r2 c hc hR v h c' hc' e
  · exact fun q hq hqc => h2 q (j.keep q hq hqc) (f q hq).1 (f q hq).2 (hqc c hc)
end
section
set_option maxRecDepth 100000
set_option maxHeartbeats 8000000
theorem list_ints {prog : Program} {w : World} {A : Around} {E : Value → Shared → Prop} {s : Shared} {h₀ : Heap} {L : Addr} {m : Str → Option Value} {news : List (Addr × Obj)} {d : Addr} {o : Obj} {kvs : List (Int × Value)} {Q : Value → Shared → Prop} (hh : A.handled = none) (F : Fr h₀ L s.heap m) (N : News h₀ L s.heap news) (hm : (d, o) ∈ news) (hd : o.IsDictOf (PySem.intKind prog w) kvs) (lo : (d == sysModules) = false) (h64 : kvs.length < 64)
    (h : ∀ D n h' tk vs, Fr h₀ L h' m → News h₀ L h' ((D, PySem.W.listOf vs.toArray n) :: news) → (∀ q ∈ news, q.1 < D) → IntsAre vs (kvs.map (·.1)) → Q (.ref D) { s with heap := h', toks := tk }) :
    wpAny (model prog w) A (call (.type "list") [.ref d]) Q E s := by
  have hD := kda_dict N hm hd
  refine byC fun nG => ?_
  obtain ⟨ep, hat⟩ := hD.dictAt
  refine nG ?_
  refine kdl_N (kdl_dict (knd := PySem.intKind prog w) (kvs := kvs) (ep := ep) lo) hh F N hat (by rw [sizeLine_eq]; exact om6 h64) fun B n h' tk vs F' N' l1 hl hv => ?_
  refine h B n h' tk vs F' N' l1 (kdy_ints (by rw [hl, List.length_map]) fun j v hvj => ?_)
  refine byC fun nG => ?_
  obtain ⟨k, x, hx, hk⟩ := hv j v hvj
  obtain ⟨t, rfl⟩ := Value.isInt_shape hk
  refine nG ?_
  exact ⟨k, by rw [List.getElem?_map, hx]; rfl, t, rfl⟩
theorem allLt_mem {d : Nat} : ∀ {l : List (Addr × Obj)}, AllLt d l → ∀ p ∈ l, @LT.lt Nat _ p.1 d
  | [], _, _, h => nomatch h
  | _ :: _, x, p, h => by
    rcases List.mem_cons.mp h with rfl | h
    · exact x.1
    · exact allLt_mem x.2 p h
theorem cells_in {M : List Cell} {c : Cell} (f : Cell → Value) : (c ∈ M → ((valueAt (M.map fun c => (c.num, f c)) c.num).isSome = true)) := by
  intro h
  obtain ⟨v, hv⟩ := valueAt_some (kvs := M.map fun c => (c.num, f c)) (k := c.num) (by simp only [List.map_map]; exact List.mem_map.mpr ⟨c, h, rfl⟩)
  rw [hv]; rfl
theorem cells_out {cs M : List Cell} {c : Cell} (ap : Apart cs) (hs : ∀ c ∈ M, c ∈ cs) (hc : c ∈ cs) (f : Cell → Value) (h : c ∉ M) : valueAt (M.map fun c => (c.num, f c)) c.num = none := by
  induction M with
  | nil => rfl
  | cons x r ih =>
    rw [List.map_cons, valueAt_cons, if_neg]
    · exact ih (fun c h => hs c (.tail _ h)) fun q => h (.tail _ q)
    · intro q
      exact h (ap.nn x (hs x (.head _)) c hc q ▸ .head _)
theorem things_nv {w : World} {fl : Addr} {cs : List Cell} {arr : Cell → Array Value} {y : Value} (hy : NV cs y) : Con w 5 50 387 [y] (fun nx => ∀ c ∈ cs, y = .ref c.a → ∃ k, CellIn w.params fl nx c k (arr c))
    (fun nx r nx' => ∃ l its e, r = .ref l ∧ (l, PySem.W.listOf its e) ∈ nx' ∧ (∀ p ∈ nx, p ∈ nx') ∧ (its = #[] ∧ (∀ c ∈ cs, y ≠ .ref c.a) ∨ ∃ c ∈ cs, y = .ref c.a ∧ its = arr c)) := by
  rcases hy with ⟨x, t, rfl⟩ | ⟨x, t, rfl⟩ | ⟨c, hc, rfl⟩
  · refine Con.of fun nx _ => ⟨_, _, things_str, trivial, ?_⟩
    rintro r nx' ⟨l, rfl, rfl, -⟩
    exact ⟨l, #[], 0, rfl, .head _, fun p hp => .tail _ hp, .inl ⟨rfl, fun c _ e => by cases e⟩⟩
  · refine Con.of fun nx _ => ⟨_, _, things_int, trivial, ?_⟩
    rintro r nx' ⟨l, rfl, rfl, -⟩
    exact ⟨l, #[], 0, rfl, .head _, fun p hp => .tail _ hp, .inl ⟨rfl, fun c _ e => by cases e⟩⟩
  · refine Con.of fun nx hpre => ?_
    obtain ⟨k, mtk, ve, q1, q2, q3⟩ := hpre c hc rfl
    refine ⟨_, _, things_cell (fl := fl) (mark := k) (mtk := mtk), ⟨q1, q2⟩, ?_⟩
    rintro r nx' ⟨rfl, rfl⟩
    exact ⟨c.v, arr c, ve, rfl, q3, fun p hp => hp, .inr ⟨c, hc, rfl, rfl⟩⟩
theorem reach {w : World} {l fl : Addr} {vs : List Value} {e : Nat} {cs : List Cell} {arr : Cell → Array Value} {mark : Cell → Int} (ap : Apart cs) (hnv : ∀ v ∈ vs, NV cs v) (hna : ∀ c ∈ cs, ∀ v ∈ (arr c).toList, NV cs v) (hsz : ∀ c ∈ cs, (arr c).size ≤ 3) (hcl : cs.length ≤ 50) (hvl : vs.length ≤ 1000) :
    Con w 20 200 394 [.ref l] (fun news => (l, PySem.W.listOf vs.toArray e) ∈ news ∧ ∀ c ∈ cs, CellIn w.params fl news c (mark c) (arr c))
      (fun news r news' => ∃ M, Reached w.params fl cs arr mark vs news news' M) := by
  unfold Con
  k_fill
  intro p loose mean mg mb dp un gd cn cs' a ccd cl outer A₀ base h₀ L m news s Q E B F X N T hk hd hu hpre hret
  refine byC fun nG => ?_
  obtain ⟨m1, mc⟩ := hpre
  refine nG ?_
  refine wpAny_call ?_
  k_dflt ktr_enter
  k_steps
  refine name3 (by with_reducible assumption) fun t1 md wl e1 e2 e3 => ?_
  subst e1 e2 e3
  rename md < t1 ∧ wl < t1 ∧ AllLt t1 news => lt1
  rename wl < md ∧ AllLt md news => lt2
  rename (∀ q ∈ news, q.1 < wl) => lt3
  unfold Hold
  try k_fold
  refine while_one (n₀ := 4 * cs.length + vs.length) (Str.ofString "value") (fun n _ nx => ∃ W M e om, JIn PySem.Challenge.rw_sa0599_01.row.prog w fl cs arr mark vs news wl md n nx W M e om) (by k_asm) (by k_asm) ?_ ?_ (by passes_own)
  · refine' ⟨vs, [], _, _, by simp, by simp; exact om25 hcl hvl, by simp, by simp, by simp, hnv, ?m1, ?m2, ?m3, ?_, fun v hv _ _ _ => .inr hv, by simp, fun R r1 r2 => ⟨by simp, r1⟩, fun q hq _ => List.mem_cons_of_mem _ (List.mem_cons_of_mem _ (List.mem_cons_of_mem _ hq))⟩
    case m1 => k_mem
    case m2 => k_mem
    case m3 => k_asm
    intro c hc
    refine byC fun nG => ?_
    obtain ⟨mtk, ve, q1, q2, q3⟩ := mc c hc
    refine nG ?_
    exact ⟨_, by simp, fun _ => rfl, mtk, ve, by k_mem, by k_mem, by k_mem⟩
  · rintro n u nx h₁ tk₁ F₁ N₁ pP0
    refine byC fun nG => ?_
    obtain ⟨W, M, e, om, j⟩ := pP0
    refine nG ?_
    have mW := j.wl
    have mM := j.md
    have dM := j.dict
    have hmd : md ≠ wl := (neN (Nat.ne_of_gt lt2.1))
    have hwl : wl ≠ md := hmd.symm
    have lt4 := allLt_mem lt2.2
    have fr : ∀ q ∈ news, q.1 ≠ wl ∧ q.1 ≠ md := fun q hq => ⟨Nat.ne_of_lt (lt3 q hq), Nat.ne_of_lt (lt4 q hq)⟩
    have fa : ∀ c ∈ cs, c.a ≠ wl ∧ c.a ≠ md := fun c hc => let ⟨_, _, h, _, _⟩ := mc c hc; fr _ h
    have fd : ∀ c ∈ cs, c.d ≠ wl ∧ c.d ≠ md := fun c hc => let ⟨_, _, _, h, _⟩ := mc c hc; fr _ h
    have fv : ∀ c ∈ cs, c.v ≠ wl ∧ c.v ≠ md := fun c hc => let ⟨_, _, _, _, h⟩ := mc c hc; fr _ h
    obtain rfl | ⟨p', y, rfl⟩ : W = [] ∨ ∃ p y, W = p ++ [y] := by
      rcases W.eq_nil_or_concat with h | ⟨p, y, h⟩
      · exact .inl h
      · exact .inr ⟨p, y, by simpa using h⟩
    · have hme : (M.map fun c => (c.num, Value.bool true)).length < 64 := by have := j.mle; simp; exact om26 hcl this
      k_steps
      k_dflt (refine list_ints (by rfl) (by k_asm) (by k_asm) (by k_mem) dM (by k_asm) hme ?_)
      intro D3 n3 h3 tk3 vs3 F3 N3 l3 hi3
      k_steps
      refine hret _ _ _ _ (by k_asm) (news_tail2 (by k_asm)) ⟨M, j.sub, fun v hv c hc e => (j.roots v hv c hc e).resolve_right (by simp), fun c hc v hv c' hc' e => (j.closed c hc v hv c' hc' e).resolve_right (by simp), fun R r1 r2 => (j.sound R r1 r2).1, j.cells, j.keep⟩
    · have hroom := j.room
      have hmeas := j.meas
      simp only [List.length_append, List.length_singleton] at hroom hmeas
      have hy := j.nv y (by simp)
      repeat' (first | (fail_if_success (with_reducible show wpAny _ _ (execs (Stmt.If _ _ _ _ :: _) _) _ _ _)); first | (k_unfold; (try dsimp only)) | walk1 | (dsimp only; walk1))
      rotate_left
      · exfalso; rename ¬ (_ < _) => hq; simp at hq
      try k_fold
      rename Fr _ _ _ _ => F2
      refine if_join F2 (fun nx2 => ∃ e2, (wl, PySem.W.listOf p'.toArray e2) ∈ nx2 ∧ (∀ c ∈ cs, y = .ref c.a → ∃ k, CellIn w.params fl nx2 c k (arr c)) ∧ ∀ nx3 e3 its, (its = #[] ∧ (∀ c ∈ cs, y ≠ .ref c.a) ∨ ∃ c ∈ cs, y = .ref c.a ∧ its = arr c) → (wl, PySem.W.listOf (p'.toArray ++ its) e3) ∈ nx3 → (∀ q ∈ nx2, q.1 ≠ wl → q ∈ nx3) → ∃ n', n' < n ∧ ∃ W M e om, JIn PySem.Challenge.rw_sa0599_01.row.prog w fl cs arr mark vs news wl md n' nx3 W M e om) ?_ ?_
      · rintro h3 tk3 nx3 F3 N3 pP0
        refine byC fun nG => ?_
        obtain ⟨e2, mw, mc2, fin⟩ := pP0
        refine nG ?_
        k_steps
        unfold Hold
        try k_fold
        refine' con_useS (things_nv (fl := fl) (arr := arr) hy) ?B ?F ?X ?N ?T ?hk ?hd ?hu ?pp ?_
        walk_at "use con"
        case pp => exact mc2
        rintro r4 h4 tk4 nx4 F4 N4 pP0
        refine byC fun nG => ?_
        obtain ⟨l4, its, e4, rfl, ml, hsub, hits⟩ := pP0
        refine nG ?_
        have mw4 := hsub _ mw
        have hz : its.size ≤ 3 := by
          rcases hits with ⟨h, -⟩ | ⟨c, hc, -, h⟩
          · rw [h]; simp
          · rw [h]; exact hsz c hc
        k_steps
        rename News _ _ _ (setAt _ _ _) => NN
        refine byC fun nG => ?_
        obtain ⟨n', hn', W', M', e', om', j'⟩ := fin _ _ its hits (mem_setAt_eq mw4) (fun q hq h => mem_setAt_ne (hsub q hq) h)
        refine nG ?_
        first | refine wpost_next ?_ | refine wpost_cont ?_
        exact WEnd.intro (n' := n') (by k_asm) NN (fun y hy => by simp only [if_neg hy]) hn' ⟨W', M', e', om', j'⟩
      rcases hy with ⟨x, t, rfl⟩ | ⟨x, t, rfl⟩ | ⟨c, hc, rfl⟩
      · k_steps
        refine jpost_next (by k_asm) (by k_asm) ⟨_, mem_setAt_eq (by k_mem), (fun c _ e => by cases e), fun nx3 e3 its hi h1 h2 => ?_⟩
        obtain ⟨rfl, -⟩ | ⟨c, -, e, -⟩ := hi
        · exact ⟨n - 1, om27 hroom hmeas, p', M, e3, om, j.drop (fun c _ e => by cases e) (by rwa [Array.append_empty] at h1) (fun q hq h => h2 q (mem_setAt_ne hq h) h) hmd (fun q hq => (fr q hq).1) (fun c hc => (fa c hc).1) (fun c hc => (fd c hc).1) (fun c hc => (fv c hc).1)⟩
        · cases e
      · k_steps
        refine jpost_next (by k_asm) (by k_asm) ⟨_, mem_setAt_eq (by k_mem), (fun c _ e => by cases e), fun nx3 e3 its hi h1 h2 => ?_⟩
        obtain ⟨rfl, -⟩ | ⟨c, -, e, -⟩ := hi
        · exact ⟨n - 1, om27 hroom hmeas, p', M, e3, om, j.drop (fun c _ e => by cases e) (by rwa [Array.append_empty] at h1) (fun q hq h => h2 q (mem_setAt_ne hq h) h) hmd (fun q hq => (fr q hq).1) (fun c hc => (fa c hc).1) (fun c hc => (fd c hc).1) (fun c hc => (fv c hc).1)⟩
        · cases e
      · have ⟨fa1, fa2⟩ := fa c hc
        have ⟨fd1, fd2⟩ := fd c hc
        have ⟨fv1, fv2⟩ := fv c hc
        have g1 := ap.ad c hc c hc
        have g2 := ap.av c hc c hc
        have g3 := ap.dv c hc c hc
        refine byC fun nG => ?_
        obtain ⟨k, -, -, mtk, ve, q1, q2, q3⟩ := j.cells c hc
        refine nG ?_
        unfold cellEs at q2
        by_cases hm : c ∈ M
        · have hin := cells_in (fun _ => Value.bool true) hm
          k_steps
          refine jpost_cont ?_
          refine wpost_cont ?_
          exact WEnd.intro (n' := n - 1) (by k_asm) (by k_asm) (fun y hy => by simp only [if_neg hy]) (om27 hroom hmeas) ⟨p', M, _, om, j.drop (fun c' hc' e => by injection e with e; exact ap.aa c hc c' hc' e ▸ hm) (mem_setAt_eq (by k_mem)) (fun q hq h => mem_setAt_ne hq h) hmd (fun q hq => (fr q hq).1) (fun c hc => (fa c hc).1) (fun c hc => (fd c hc).1) (fun c hc => (fv c hc).1)⟩
        · have hin := cells_out ap j.sub hc (fun _ => Value.bool true) hm
          have hin' : (valueAt (M.map fun c => (c.num, Value.bool true)) c.num).isSome = false := by rw [hin]; rfl
          have hml : (M.map fun c => (c.num, Value.bool true)).length < 100000 := by have := j.mle; simp; exact om28 hcl this
          k_steps
          rename Obj.IsDictOf _ _ (stored _ _ _) => hdd
          rw [stored_absent hin] at hdd
          refine jpost_next (by k_asm) (by k_asm) ⟨_, by k_mem, ?_, fun nx3 e3 its hi h1 h2 => ?_⟩
          · intro c' hc' e
            injection e with e
            obtain rfl := ap.aa c hc c' hc' e
            exact ⟨1, _, ve, by k_mem, by k_mem, by k_mem⟩
          · obtain ⟨-, h⟩ | ⟨c', hc', e, rfl⟩ := hi
            · exact absurd rfl (h c hc)
            · injection e with e
              obtain rfl := ap.aa c hc c' hc' e
              obtain ⟨n', hn', j'⟩ := j.take (nx' := nx3) ap hna hsz hc hm h1 hdd (h2 _ (by k_mem) hmd) (h2 _ (by k_mem) fd1) (fun ⟨a, o⟩ hq h h' h'' => h2 _ (by k_mem) h) fr fa fd fv
              exact ⟨n', hn', _, _, _, _, j'⟩
end
section
set_option maxRecDepth 100000
set_option maxHeartbeats 8000000
section
variable {prog : Program} {w : World} {A : Around} {E : Value → Shared → Prop} {Q : Flow → Shared → Prop} {s : Shared} {env : Env} {h₀ : Heap}
theorem for_one {x : Str} {body : List Stmt} {l : Addr} {vs : List Value} {nn : Nat} {m₀ : Str → Option Value} {news : List (Addr × Obj)} (J : Nat → List (Addr × Obj) → Prop)
    (hh : A.handled = none) (F : Fr h₀ env.locals s.heap m₀) (N : News h₀ env.locals s.heap news) (hl : (l, PySem.W.listOf vs.toArray nn) ∈ news) (hj : J 0 news)
    (turn : ∀ i v nx h tk own, vs[i]? = some v → OwnOff own (nx.map (·.1)) → (l, PySem.W.listOf vs.toArray nn) ∈ nx → J i nx → Fr h₀ env.locals h (fun y => if y = x then some v else m₀ y) → News h₀ env.locals h (nx ++ own) →
      wpAny (model prog w) A (execs body env) (InvPostG h₀ env.locals (fun m' nx => (l, PySem.W.listOf vs.toArray nn) ∈ nx ∧ (∀ y, y ≠ x → m' y = m₀ y) ∧ J (i + 1) nx) own { s with heap := h, toks := tk } Q) E { s with heap := h, toks := tk })
    (done : ∀ u nx h tk, J vs.length nx → Fr h₀ env.locals h (fun y => if y = x then u else m₀ y) → News h₀ env.locals h nx → Q .next { s with heap := h, toks := tk }) :
    wpAny (model prog w) A (pyIter (.ref l)) (fun it s₂ => LoopAtV prog w A h₀ env x body Q E it s₂) E s := by
  refine kdl_iter (fun i m nx => (∀ y, y ≠ x → m y = m₀ y) ∧ J i nx) hh hl F N ⟨fun _ _ => rfl, hj⟩ ?_ ?_
  · rintro i v m₁ nx h tk own hv ho hl₁ pP0 F₁ N₁
    refine byC fun nG => ?_
    obtain ⟨hm, hJ⟩ := pP0
    refine nG ?_
    refine turn i v nx h tk own hv ho hl₁ hJ ?_ N₁
    have : (fun y => if y = x then some v else m₀ y) = fun y => if y = x then some v else m₁ y := by
      funext y
      by_cases hy : y = x
      · simp [hy]
      · simp only [if_neg hy]; exact (hm y hy).symm
    rw [this]; exact F₁
  · rintro m₁ nx h tk pP0 F₁ N₁
    refine byC fun nG => ?_
    obtain ⟨hm, hJ⟩ := pP0
    refine nG ?_
    refine done (m₁ x) nx h tk hJ ?_ N₁
    have : (fun y => if y = x then m₁ x else m₀ y) = m₁ := by
      funext y
      by_cases hy : y = x
      · subst hy; simp
      · simp only [if_neg hy]; exact (hm y hy).symm
    rw [this]; exact F₁
end
end
local macro_rules | `(tactic| walk_at "pyIter ref") => `(tactic| (refine hold ?_))
section
set_option maxRecDepth 100000
set_option maxHeartbeats 8000000
theorem setAt_addrs {d : Addr} {o : Obj} {l : List (Addr × Obj)} : (setAt d o l).map (·.1) = l.map (·.1) := by
  unfold setAt
  rw [List.map_map]
  refine List.map_congr_left fun p _ => ?_
  by_cases h : p.1 = d <;> simp [h]
structure WorldAt (prog : Program) (w : World) (aw dw st hl : Addr) (wes : List DictEntry) (wn : Nat) (so : Obj) (kvs : List (Str × Value)) (hs : List Cell) (hn : Nat) (news : List (Addr × Obj)) : Prop where
  miw : (aw, instObj 329 dw) ∈ news
  mdw : (dw, dictOf wes wn) ∈ news
  mst : (st, so) ∈ news
  mhl : (hl, PySem.W.listOf (hs.map fun c => Value.ref c.a).toArray hn) ∈ news
  gst : getL (Str.ofString "store") wes = some (some (.ref st))
  ghl : getL (Str.ofString "holders") wes = some (some (.ref hl))
  lo : (st == sysModules) = false
  mso : so.IsDictOf (PySem.strKind prog w) kvs
  sz : kvs.length < 64
  wz : wes.length ≤ 500
/-- which addresses are apart -/
structure Far (aw dw st hl : Addr) (hs : List Cell) : Prop where
  aw_dw : aw ≠ dw
  aw_st : aw ≠ st
  aw_hl : aw ≠ hl
  dw_st : dw ≠ st
  dw_hl : dw ≠ hl
  st_hl : st ≠ hl
  ca : ∀ c ∈ hs, c.a ≠ aw ∧ c.a ≠ dw ∧ c.a ≠ st ∧ c.a ≠ hl
  cd : ∀ c ∈ hs, c.d ≠ aw ∧ c.d ≠ dw ∧ c.d ≠ st ∧ c.d ≠ hl
  cv : ∀ c ∈ hs, c.v ≠ aw ∧ c.v ≠ dw ∧ c.v ≠ st ∧ c.v ≠ hl
end
section
set_option maxRecDepth 100000
set_option maxHeartbeats 8000000
theorem isStr_eq {v : Value} {a b : Str} (h : v.isStr a = true) (h' : v.isStr b = true) : a = b := by
  cases v with
  | str s t =>
    have e1 : s = a := by
      first
        | exact eq_of_beq h
        | exact of_decide_eq_true h
    have e2 : s = b := by
      first
        | exact eq_of_beq h'
        | exact of_decide_eq_true h'
    exact e1.symm.trans e2
  | _ => exact absurd h (by first | exact Bool.false_ne_true | (intro q; cases q))
theorem getL_some {name : Str} {es : List DictEntry} {v : Value} : getL name es = some (some v) ↔ ∃ e, es.find? (·.key.isStr name) = some e ∧ e.val = v := by
  unfold getL
  constructor
  · intro h
    split at h
    · rename_i e he
      injection h with h; injection h with h
      exact ⟨e, he, h⟩
    · split at h
      · cases h
      · injection h with h; cases h
  · rintro ⟨e, he, rfl⟩
    rw [he]
theorem getL_put_same {name : Str} {hsh : Int} {key u v : Value} {es : List DictEntry} (h : getL name es = some (some u)) : getL name (putL name hsh key v es) = some (some v) := by
  obtain ⟨e, he, -⟩ := getL_some.mp h
  refine getL_some.mpr ?_
  clear h
  induction es with
  | nil => simp at he
  | cons x r ih =>
    unfold putL
    rw [List.find?_cons] at he
    cases hx : x.key.isStr name with
    | true => simp only [if_true]; exact ⟨⟨x.hash, x.key, v⟩, by rw [List.find?_cons]; simp [hx], rfl⟩
    | false =>
      rw [hx] at he
      simp only [Bool.false_eq_true, if_false]
      rw [List.find?_cons, hx]
      exact ih he
theorem getL_put_ne {name other : Str} {hsh : Int} {key u v : Value} {es : List DictEntry} (h : getL other es = some (some u)) (hn : other ≠ name) : getL other (putL name hsh key v es) = some (some u) := by
  obtain ⟨e, he, rfl⟩ := getL_some.mp h
  refine getL_some.mpr ⟨e, ?_, rfl⟩
  clear h
  induction es with
  | nil => simp at he
  | cons x r ih =>
    unfold putL
    rw [List.find?_cons] at he
    cases hx : x.key.isStr name with
    | true =>
      have ho : x.key.isStr other = false := by
        cases q : x.key.isStr other with
        | false => rfl
        | true => exact absurd (isStr_eq q hx) hn
      rw [ho] at he
      simp only [if_true]
      rw [List.find?_cons]
      simp only [ho]
      exact he
    | false =>
      simp only [Bool.false_eq_true, if_false]
      rw [List.find?_cons]
      cases ho : x.key.isStr other with
      | true => rw [ho] at he; exact he
      | false => rw [ho] at he; exact ih he
theorem putL_le {name : Str} {hsh : Int} {key v : Value} : ∀ {es : List DictEntry}, (putL name hsh key v es).length ≤ es.length + 1
  | [] => by simp [putL]
  | x :: r => by
    unfold putL
    split
    · simp
    · have := putL_le (name := name) (hsh := hsh) (key := key) (v := v) (es := r); simp; omega
theorem putL_len {name : Str} {hsh : Int} {key u v : Value} {es : List DictEntry} (h : getL name es = some (some u)) : (putL name hsh key v es).length = es.length := by
  obtain ⟨e, he, -⟩ := getL_some.mp h
  clear h
  induction es with
  | nil => simp at he
  | cons x r ih =>
    unfold putL
    rw [List.find?_cons] at he
    cases hx : x.key.isStr name with
    | true => simp
    | false => rw [hx] at he; simp only [Bool.false_eq_true, if_false, List.length_cons]; rw [ih he]
theorem compT_loop {prog : Program} {w : World} {A : Around} {h₀ : Heap} {L : Addr} {m : Str → Option Value} {env : Env} {ct elt : Expr} {x : Str} {scope : Scope} {cl : List (Str × Addr)} {s : Shared} {S : List (Addr × Obj) → Prop} {P : Nat → Value → Prop}
    {Fin : List Value → List (Addr × Obj) → Prop} {n : Nat} {news : List (Addr × Obj)} (J : Nat → List Value → List (Addr × Obj) → Prop) (hJ : J 0 [] news)
    (step : ∀ i ys news v I oI C oC D m₂ h tk (E' : Value → Shared → Prop), i < n → J i ys news → P i v → LCg.NsObj oC m₂ → m₂ x = some v → Fr h₀ L h m → News h₀ L h ((I, oI) :: (C, oC) :: (D, LCg.lst ys) :: news) → LCg.Off3 I C D news → ((@Ne Nat I C) ∧ (@Ne Nat I D) ∧ (@Ne Nat C D)) →
      wpAny (model prog w) A (isTrue ct (compEnvC scope cl C env) (eval ct (compEnvC scope cl C env))) (fun ok s' => if ok = true then
        wpAny (model prog w) A (eval elt (compEnvC scope cl C env)) (CPost h₀ L m { s with heap := h, toks := tk } I oI C oC D (LCg.lst ys) S fun y news' => J (i + 1) (ys ++ [y]) news') E' s'
        else CPost h₀ L m { s with heap := h, toks := tk } I oI C oC D (LCg.lst ys) S (fun _ news' => J (i + 1) ys news') Value.none s') E' { s with heap := h, toks := tk })
    (fin : ∀ ys news, J n ys news → Fin ys news) : LCt.CompRestT prog w A h₀ L m env ct elt x scope cl s S P Fin n 0 [] news := by
  have loop : ∀ k i ys news, i + k = n → J i ys news → LCt.CompRestT prog w A h₀ L m env ct elt x scope cl s S P Fin k i ys news := by
    intro k
    induction k with
    | zero => intro i ys news e hj; obtain rfl : i = n := by omega
              exact LCt.CompRestT.zero (fin ys news hj)
    | succ k ih =>
      intro i ys news e hj
      refine LCt.CompRestT.succ fun v I oI C oC D m₂ h tk E' hP hC hx F N off ne => ?_
      refine wpAny_mono (step i ys news v I oI C oC D m₂ h tk E' (by omega) hj hP hC hx F N off ne) (fun ok s' hq => ?_) fun _ _ e => e
      cases ok with
      | true =>
        simp only [if_true] at hq ⊢
        refine wpAny_mono hq (fun y s₂ hq => ?_) fun _ _ e => e
        refine byC fun nG => ?_
        obtain ⟨h', tk', news', rfl, F', N', off', hS', hj'⟩ := hq
        refine nG ?_
        exact ⟨h', tk', news', rfl, F', N', off', hS', ih (i + 1) (ys ++ [y]) news' (by omega) hj'⟩
      | false =>
        simp only [Bool.false_eq_true, if_false] at hq ⊢
        refine byC fun nG => ?_
        obtain ⟨h', tk', news', rfl, F', N', off', hS', hj'⟩ := hq
        refine nG ?_
        exact ⟨h', tk', news', rfl, F', N', off', hS', ih (i + 1) ys news' (by omega) hj'⟩
  exact loop n 0 [] news (by omega) hJ
end
local macro_rules | `(tactic| walk_at "eval ListComp") => `(tactic| (k_here; k_dflt (refine LCt.ListComp_T (F₀ := by k_asm) (by with_unfolding_all rfl) (by decide) (by rfl) (by decide) (by rfl) ?_)))
local macro_rules | `(tactic| walk_at "binaryOp Add ref ref") => `(tactic| (refine hold ?_))
section
set_option maxRecDepth 100000
set_option maxHeartbeats 8000000
noncomputable def gone (M hs : List Cell) : List Cell := hs.filter fun c => @decide (c ∉ M) (Classical.propDecidable _)
noncomputable def kept (M hs : List Cell) : List Cell := hs.filter fun c => @decide (c ∈ M) (Classical.propDecidable _)
theorem mem_gone {M hs : List Cell} {c : Cell} : c ∈ gone M hs ↔ c ∈ hs ∧ c ∉ M := by unfold gone; rw [List.mem_filter]; exact and_congr_right fun _ => @decide_eq_true_iff _ (Classical.propDecidable _)
theorem mem_kept {M hs : List Cell} {c : Cell} : c ∈ kept M hs ↔ c ∈ hs ∧ c ∈ M := by unfold kept; rw [List.mem_filter]; exact and_congr_right fun _ => @decide_eq_true_iff _ (Classical.propDecidable _)
theorem gone_snoc_in {M hs : List Cell} {i : Nat} {c : Cell} (h : hs[i]? = some c) (hm : c ∈ M) : gone M (hs.take (i + 1)) = gone M (hs.take i) := by
  unfold gone; rw [List.take_add_one, h, List.filter_append]; simp [hm]
theorem gone_snoc_out {M hs : List Cell} {i : Nat} {c : Cell} (h : hs[i]? = some c) (hm : c ∉ M) : gone M (hs.take (i + 1)) = gone M (hs.take i) ++ [c] := by
  unfold gone; rw [List.take_add_one, h, List.filter_append]; simp [hm]
theorem kept_snoc_in {M hs : List Cell} {i : Nat} {c : Cell} (h : hs[i]? = some c) (hm : c ∈ M) : kept M (hs.take (i + 1)) = kept M (hs.take i) ++ [c] := by
  unfold kept; rw [List.take_add_one, h, List.filter_append]; simp [hm]
theorem kept_snoc_out {M hs : List Cell} {i : Nat} {c : Cell} (h : hs[i]? = some c) (hm : c ∉ M) : kept M (hs.take (i + 1)) = kept M (hs.take i) := by
  unfold kept; rw [List.take_add_one, h, List.filter_append]; simp [hm]
theorem ints_map : ∀ l : List Cell, IntsAre (l.map fun c => Value.int c.num c.ntk) (l.map (·.num))
  | [] => .nil
  | c :: r => .cons _ _ (ints_map r)
theorem at_ref {hs : List Cell} {i : Nat} {v : Value} (hv : (hs.map fun c => Value.ref c.a).toArray[i]? = some v) : ∃ c, hs[i]? = some c ∧ v = .ref c.a := by
  rw [List.getElem?_toArray, List.getElem?_map] at hv
  cases hi : hs[i]? with
  | none => rw [hi] at hv; simp at hv
  | some c => rw [hi] at hv; simp at hv; exact ⟨c, rfl, hv.symm⟩
theorem valueAt_mem {K : Type} [DecidableEq K] {k : K} {v : Value} : ∀ {kvs : List (K × Value)}, valueAt kvs k = some v → k ∈ kvs.map (·.1)
  | (k', v') :: r, h => by
    rw [valueAt_cons] at h
    by_cases e : k' = k
    · simp [e]
    · rw [if_neg e] at h; simp only [List.map_cons, List.mem_cons]; exact .inr (valueAt_mem h)
/-- what collect leaves -/
structure Collected (prog : Program) (w : World) (aw dw st hl fl : Addr) (wes : List DictEntry) (wn : Nat) (so : Obj) (kvs : List (Str × Value)) (hs : List Cell) (arr : Cell → Array Value) (news : List (Addr × Obj)) (r : Value) (news' : List (Addr × Obj)) (M : List Cell) (g hl' : Addr) (gs : List Value) (ns : List Int) (ge he wn' : Nat) (wes' : List DictEntry) : Prop where
  sub : ∀ c ∈ M, c ∈ hs
  roots : ∀ k v, valueAt kvs k = some v → ∀ c ∈ hs, v = .ref c.a → c ∈ M
  closed : ∀ c ∈ M, ∀ v ∈ (arr c).toList, ∀ c' ∈ hs, v = .ref c'.a → c' ∈ M
  sound : ∀ R : Cell → Prop, (∀ k v, valueAt kvs k = some v → ∀ c ∈ hs, v = .ref c.a → R c) → (∀ c ∈ hs, R c → ∀ v ∈ (arr c).toList, ∀ c' ∈ hs, v = .ref c'.a → R c') → ∀ c ∈ M, R c
  r : r = .ref g
  gl : (g, PySem.W.listOf gs.toArray ge) ∈ news'
  hgs : IntsAre gs ns
  perm : ns.Perm ((gone M hs).map (·.num))
  up : ns.Pairwise (· ≤ ·)
  fg : ∀ p ∈ news, p.1 ≠ g
  fh : ∀ p ∈ news, p.1 ≠ hl'
  gh : g ≠ hl'
  cells : ∀ c ∈ hs, ∃ k, CellIn w.params fl news' c k (arr c)
  world : WorldAt prog w aw dw st hl' wes' wn' so kvs (kept M hs) he news'
  same : ∀ k u, k ≠ Str.ofString "holders" → getL k wes = some (some u) → getL k wes' = some (some u)
  len : wes'.length = wes.length
  keep : ∀ p ∈ news, p.1 ≠ dw → (∀ c ∈ hs, p.1 ≠ c.d) → p ∈ news'
theorem collect {w : World} {aw dw st hl fl ml : Addr} {wes : List DictEntry} {wn hn em : Nat} {so : Obj} {kvs : List (Str × Value)} {hs : List Cell} {arr : Cell → Array Value} {mark : Cell → Int} (ap : Apart hs) (far : Far aw dw st hl hs)
    (hnv : ∀ k v, valueAt kvs k = some v → NV hs v) (hna : ∀ c ∈ hs, ∀ v ∈ (arr c).toList, NV hs v) (hsz : ∀ c ∈ hs, (arr c).size ≤ 3) (hcl : hs.length ≤ 50) :
    Con w 40 400 404 [.ref aw, .ref ml] (fun news => WorldAt PySem.Challenge.rw_sa0599_01.row.prog w aw dw st hl wes wn so kvs hs hn news ∧ (ml, PySem.W.listOf #[] em) ∈ news ∧ ml ≠ dw ∧ (∀ c ∈ hs, ml ≠ c.d) ∧ ∀ c ∈ hs, CellIn w.params fl news c (mark c) (arr c))
      (fun news r news' => ∃ M g hl' gs ns ge he wn' wes', Collected PySem.Challenge.rw_sa0599_01.row.prog w aw dw st hl fl wes wn so kvs hs arr news r news' M g hl' gs ns ge he wn' wes') := by
  unfold Con
  k_fill
  intro p loose mean mg mb dp un gd cn cs a ccd cl outer A₀ base h₀ L m news s Q E B F X N T hk hd hu hpre hret
  refine byC fun nG => ?_
  obtain ⟨wa, m1, mld, mlc, mc⟩ := hpre
  obtain ⟨iw, idw, ist, ihl, gst, ghl, lo, hso, hkz, hwz⟩ := wa
  refine nG ?_
  refine wpAny_call ?_
  k_dflt ktr_enter
  k_steps
  unfold Hold
  try k_fold
  refine for_one (fun i nx => (∀ c ∈ hs, ∃ k, (c ∈ hs.take i → k = 0) ∧ CellIn w.params fl nx c k (arr c)) ∧ (∀ p ∈ news, (∀ c ∈ hs, p.1 ≠ c.d) → p ∈ nx)) (by rfl) (by k_asm) (by k_asm) ihl ⟨fun c hc => ⟨_, by simp, mc c hc⟩, fun _ h _ => h⟩ ?_ ?_
  · intro i v nx h1 tk1 own hv ho hl₁ ⟨hJ, hkp⟩ F₁ N₁
    obtain ⟨c, hci, rfl⟩ := at_ref (by rw [List.getElem?_toArray]; exact hv)
    have hc := List.mem_of_getElem? hci
    refine byC fun nG => ?_
    obtain ⟨k, -, mtk, ve, q1, q2, q3⟩ := hJ c hc
    refine nG ?_
    unfold cellEs at q2
    have r1 := List.mem_append_left own q1
    have r2 := List.mem_append_left own q2
    k_steps
    rename News _ _ _ (setAt _ _ _) => NN
    have hdm : c.d ∈ nx.map (·.1) := List.mem_map.mpr ⟨_, q2, rfl⟩
    refine InvEndG.intro (nx := setAt c.d _ nx) (by k_asm) NN ⟨mem_setAt_ne hl₁ (far.cd c hc).2.2.2.symm, fun y hy => by simp only [if_neg hy], ?_, fun p hp hq => mem_setAt_ne (hkp p hp hq) (hq c hc)⟩ (by rw [setAt_addrs]; exact ho) (setAt_sub fun p hp => List.mem_append_left _ hp) (fun p hp => mem_setAt_ne (List.mem_append_right _ hp) (ho p hp _ hdm))
    intro c' hc'
    refine byC fun nG => ?_
    obtain ⟨k', k1, mtk', ve', u1, u2, u3⟩ := hJ c' hc'
    refine nG ?_
    have v1 := mem_setAt_ne (o' := dictOf (cellEs w.params fl c 0 691) 5) u1 (ap.ad c' hc' c hc)
    have v3 := mem_setAt_ne (o' := dictOf (cellEs w.params fl c 0 691) 5) u3 (ap.dv c hc c' hc').symm
    by_cases e : c' = c
    · subst e
      exact ⟨0, fun _ => rfl, _, ve', v1, mem_setAt_eq u2, v3⟩
    · refine ⟨k', fun h => k1 ?_, mtk', ve', v1, mem_setAt_ne u2 fun q => e (ap.dd c' hc' c hc q), v3⟩
      rw [List.take_add_one, hci] at h
      simpa [e] using h
  · rintro u nx h1 tk1 pP0 F₁ N₁
    refine byC fun nG => ?_
    obtain ⟨hJ, hkp⟩ := pP0
    refine nG ?_
    have hJ' : ∀ c ∈ hs, CellIn w.params fl nx c 0 (arr c) := fun c hc => by
      refine byC fun nG => ?_
      obtain ⟨k, k1, k2⟩ := hJ c hc
      refine nG ?_
      rw [k1 (by simpa using hc)] at k2; exact k2
    have jw := hkp _ iw fun c hc => ((far.cd c hc).1).symm
    have jdw := hkp _ idw fun c hc => ((far.cd c hc).2.1).symm
    have jst := hkp _ ist fun c hc => ((far.cd c hc).2.2.1).symm
    have jhl := hkp _ ihl fun c hc => ((far.cd c hc).2.2.2).symm
    have jml := hkp _ m1 mlc
    k_steps
    unfold Hold
    try k_fold
    refine con_use (world_roots gst hso lo hkz) (by k_asm) (by k_asm) (by k_asm) (by k_asm) (by k_asm) (by first | exact rfl | assumption) (by dsimp only [ktrTop, Around.deeper, Around.in1]; exact om29 hd) (by dsimp only [ktrTop, Around.deeper, Around.in1]; exact om30 hu) ⟨jw, jdw, jst⟩ ?_
    rintro r h2 tk2 nx2 F₂ N₂ pP0
    refine byC fun nG => ?_
    obtain ⟨rl, ss, e2, hperm, rfl, rfl, hrl⟩ := pP0
    refine nG ?_
    k_steps
    unfold Hold
    have hrz : (ss.filterMap (valueAt kvs)).length ≤ 64 := by
      have h1 := List.length_filterMap_le (valueAt kvs) ss
      have h2 := hperm.length_eq
      simp at h2; exact om31 hkz h1 h2
    refine kmk_add_lit (by k_asm) (by k_asm) (News.isList (by k_asm) (by k_mem)) (News.isList (by k_asm) (by k_mem)) (zs := ss.filterMap (valueAt kvs)) (by simp) ?_ (by rw [sizeLine_eq]; simp; exact om32 hrz)
    intro D3 h3 F₃ N₃ l3
    have hroots : ∀ v ∈ ss.filterMap (valueAt kvs), ∃ k, valueAt kvs k = some v := fun v hv => by
      refine byC fun nG => ?_
      obtain ⟨k, _, h⟩ := List.mem_filterMap.mp hv
      refine nG ?_
      exact ⟨k, h⟩
    have hroots' : ∀ k v, valueAt kvs k = some v → v ∈ ss.filterMap (valueAt kvs) := fun k v h => List.mem_filterMap.mpr ⟨k, hperm.mem_iff.mpr (valueAt_mem h), h⟩
    k_steps
    unfold Hold
    try k_fold
    refine con_use (reach (fl := fl) (e := 0) (mark := fun _ => 0) ap (fun v hv => let ⟨k, h⟩ := hroots v hv; hnv k v h) hna hsz hcl (om33 hrz)) (by k_asm) (by k_asm) (by k_asm) N₃ (by k_asm) (by first | exact rfl | assumption) (by dsimp only [ktrTop, Around.deeper, Around.in1]; exact om34 hd) (by dsimp only [ktrTop, Around.deeper, Around.in1]; exact om35 hu) ⟨List.mem_cons_self .., fun c hc => ?_⟩ ?_
    · refine byC fun nG => ?_
      obtain ⟨mtk, ve, u1, u2, u3⟩ := hJ' c hc
      refine nG ?_
      exact ⟨mtk, ve, .tail _ (.tail _ u1), .tail _ (.tail _ u2), .tail _ (.tail _ u3)⟩
    rintro r h4 tk4 nx4 F₄ N₄ pP0
    refine byC fun nG => ?_
    obtain ⟨M, R⟩ := pP0
    refine nG ?_
    have kp4 : ∀ q ∈ nx, (∀ c ∈ hs, q.1 ≠ c.d) → q ∈ nx4 := fun q hq hqc => R.keep q (.tail _ (.tail _ hq)) hqc
    have jw := kp4 _ jw fun c hc => ((far.cd c hc).1).symm
    have jdw := kp4 _ jdw fun c hc => ((far.cd c hc).2.1).symm
    have jst := kp4 _ jst fun c hc => ((far.cd c hc).2.2.1).symm
    have jhl := kp4 _ jhl fun c hc => ((far.cd c hc).2.2.2).symm
    k_steps
    have hsz4 : (hs.map fun c => Value.ref c.a).toArray.size ≤ sizeLine := by rw [sizeLine_eq]; simp; exact om36 hcl
    k_dflt (refine LCt.CompSrcT.ledger (by rfl) (by k_asm) (by k_asm) (by k_mem) hsz4 ?_)
    intro g1
    refine compT_loop (fun i ys n1 => ys = (gone M (hs.take i)).map (fun c => Value.int c.num c.ntk) ∧ n1 = nx4) ⟨by simp [gone], rfl⟩ ?_ ?_
    · rintro i ys n1 v I oI C oC D m₂ h tk E' hi pP0 hP' hC hx F5 N5 off ne
      refine byC fun nG => ?_
      obtain ⟨rfl, rfl⟩ := pP0
      obtain ⟨c, hci, rfl⟩ := at_ref hP'
      have hc := List.mem_of_getElem? hci
      obtain ⟨k, k1, k2, mtk, ve, q1, q2, q3⟩ := R.cells c hc
      refine nG ?_
      unfold cellEs at q2
      by_cases hm : c ∈ M
      · obtain rfl := k1 hm
        have hys := gone_snoc_in hci hm
        k_steps
        exact CPost.intro (by k_asm) (by k_asm) (by assumption) (.inr ⟨_, jhl, rfl, _, rfl⟩) ⟨by rw [hys], rfl⟩
      · obtain rfl := k2 hm
        have hys := gone_snoc_out hci hm
        k_steps
        exact CPost.intro (by k_asm) (by k_asm) (by assumption) (.inr ⟨_, jhl, rfl, _, rfl⟩) ⟨by rw [hys, List.map_append]; rfl, rfl⟩
    · rintro ys n1 pP0
      refine byC fun nG => ?_
      obtain ⟨hy, rfl⟩ := pP0
      refine nG ?_
      rw [show hs.take (hs.map fun c => Value.ref c.a).toArray.size = hs by simp] at hy
      subst hy
      have hgi := ints_map (gone M hs)
      have hgl : ((gone M hs).map (·.num)).length < 64 := by
        have := List.length_filter_le (fun c => @decide (c ∉ M) (Classical.propDecidable _)) hs
        simp only [List.length_map]; unfold gone; exact om26 hcl this
      k_steps
      rename IntsAre _ _ => hgs
      rename List.Perm _ ((gone M hs).map _) => hperm6
      rename List.Pairwise _ _ => hup
      k_dflt (refine LCt.CompSrcT.ledger (by rfl) (by k_asm) (by k_asm) (by k_mem) hsz4 ?_)
      intro g2
      refine name2 (by with_reducible assumption) fun g t1 e1 e2 => ?_
      subst e1 e2
      refine compT_loop (fun i ys n1 => ys = (kept M (hs.take i)).map (fun c => Value.ref c.a) ∧ n1 = _) ⟨by simp [kept], rfl⟩ ?_ ?_
      · rintro i ys n1 v I oI C oC D m₂ h tk E' hi pP0 hP' hC hx F5 N5 off ne
        refine byC fun nG => ?_
        obtain ⟨rfl, rfl⟩ := pP0
        obtain ⟨c, hci, rfl⟩ := at_ref hP'
        have hc := List.mem_of_getElem? hci
        obtain ⟨k, k1, k2, mtk, ve, q1, q2, q3⟩ := R.cells c hc
        refine nG ?_
        unfold cellEs at q2
        by_cases hm : c ∈ M
        · obtain rfl := k1 hm
          have hys := kept_snoc_in hci hm
          k_steps
          exact CPost.intro (by k_asm) (by k_asm) (by assumption) (.inr ⟨_, .tail _ (.tail _ jhl), rfl, _, rfl⟩) ⟨by rw [hys, List.map_append]; rfl, rfl⟩
        · obtain rfl := k2 hm
          have hys := kept_snoc_out hci hm
          k_steps
          exact CPost.intro (by k_asm) (by k_asm) (by assumption) (.inr ⟨_, .tail _ (.tail _ jhl), rfl, _, rfl⟩) ⟨by rw [hys], rfl⟩
      · rintro ys n1 pP0
        refine byC fun nG => ?_
        obtain ⟨hy, rfl⟩ := pP0
        refine nG ?_
        rw [show hs.take (hs.map fun c => Value.ref c.a).toArray.size = hs by simp] at hy
        subst hy
        have hgd : g ≠ dw := fun e => Nat.lt_irrefl _ (e ▸ allLt_mem (by assumption : t1 < g ∧ AllLt g n1).2 _ jdw)
        rename t1 < g ∧ AllLt g n1 => lg
        rename LCg.Off1 t1 n1 => ot1
        k_steps
        refine name1 (by with_reducible assumption) fun hl' e1 => ?_
        subst e1
        rename _ ∧ _ ∧ LCg.Off1 _ _ => ohl
        k_here
        refine' attr_set_at ?k1 ?k2 ?k3 ?k4 ?k5 ?s1 ?s2 ?s3 ?s4 ?g ?e ?z ?_
        case k1 => k_asm
        case k2 => k_asm
        case k3 => k_asm
        case k4 => walk_at "mem tail"
        case k5 => walk_at "mem tail"
        case s1 => k_is
        case s2 => k_is
        case s3 => k_is
        case s4 => k_is
        case g => rw [ghl]; rfl
        case e => exact rfl
        case z => rw [putL_len ghl]; exact om37 hwz
        intro h8 F8 N8
        k_steps
        have adr : ∀ p ∈ news, ∃ o, (p.1, o) ∈ n1 := fun p hp => by
          by_cases h : ∃ c ∈ hs, p.1 = c.d
          · refine byC fun nG => ?_
            obtain ⟨c, hc, e⟩ := h
            obtain ⟨k, -, -, mtk, ve, q1, q2, q3⟩ := R.cells c hc
            refine nG ?_
            exact ⟨_, by rw [e]; exact q2⟩
          · exact ⟨p.2, kp4 _ (hkp _ hp fun c hc e => h ⟨c, hc, e⟩) fun c hc e => h ⟨c, hc, e⟩⟩
        have gld := allLt_mem lg.2
        have ohm := off1_mem ohl.2.2
        refine' hret _ _ _ _ (by k_asm) (by k_asm) ⟨M, g, hl', _, _, _, _, _, _, { sub := R.sub, roots := fun k v hv c hc e => R.roots v (hroots' k v hv) c hc e, closed := R.closed, sound := fun P h1 h2 => R.sound P (fun v hv c hc e => let ⟨k, hk⟩ := hroots v hv; h1 k v hk c hc e) h2, r := rfl, gl := ?x1, hgs := hgs, perm := hperm6, up := hup, fg := ?x2, fh := ?x3, gh := ohl.1, cells := ?x4, world := ?x5, same := ?x6, len := ?x7, keep := ?x8 }⟩
        case x1 =>
          exact mem_setAt_ne (.tail _ (.head _)) hgd
        case x2 =>
          intro p hp e
          refine byC fun nG => ?_
          obtain ⟨o, ho⟩ := adr p hp
          refine nG ?_
          exact Nat.lt_irrefl _ (e ▸ gld _ ho)
        case x3 =>
          intro p hp e
          refine byC fun nG => ?_
          obtain ⟨o, ho⟩ := adr p hp
          refine nG ?_
          exact ohm _ ho e
        case x4 =>
          intro c hc
          refine byC fun nG => ?_
          obtain ⟨k, -, -, mtk, ve, q1, q2, q3⟩ := R.cells c hc
          refine nG ?_
          exact ⟨k, mtk, ve, mem_setAt_ne (.tail _ (.tail _ (.tail _ q1))) (far.ca c hc).2.1, mem_setAt_ne (.tail _ (.tail _ (.tail _ q2))) (far.cd c hc).2.1, mem_setAt_ne (.tail _ (.tail _ (.tail _ q3))) (far.cv c hc).2.1⟩
        case x5 =>
          exact ⟨mem_setAt_ne (.tail _ (.tail _ (.tail _ jw))) far.aw_dw, mem_setAt_eq (.tail _ (.tail _ (.tail _ jdw))), mem_setAt_ne (.tail _ (.tail _ (.tail _ jst))) far.dw_st.symm, mem_setAt_ne (.head _) fun e => ohm _ jdw e.symm, getL_put_ne gst (by decide), getL_put_same ghl, lo, hso, hkz, by rw [putL_len ghl]; exact hwz⟩
        case x6 =>
          intro k u hk hku
          exact getL_put_ne hku hk
        case x7 =>
          exact putL_len ghl
        case x8 =>
          intro p hp h1 h2
          exact mem_setAt_ne (.tail _ (.tail _ (.tail _ (kp4 _ (hkp _ hp h2) h2)))) h1
end
section
set_option maxRecDepth 100000
set_option maxHeartbeats 8000000
noncomputable def sV : Str := Str.ofString "VALUE"
noncomputable def sL : Str := Str.ofString "LINK"
noncomputable def IsL (v : Value) : Option Cell → Prop
  | none => ∃ t, v = .str (Str.ofString "") t
  | some c => v = .ref c.a
noncomputable def rowOf (ys : List Str) (vv lv : Value) (tm : Tok) : Array Value := (ys.map fun f => if f = Str.ofString "VALUE" then vv else if f = Str.ofString "LINK" then lv else .str (Str.ofString "") tm).toArray
theorem sVL : Str.ofString "LINK" ≠ Str.ofString "VALUE" := by decide
theorem getElem?_idxOf' {α : Type} [BEq α] [LawfulBEq α] {x : α} : ∀ {l : List α}, x ∈ l → l[l.idxOf x]? = some x
  | y :: r, h => by
    rw [List.idxOf_cons]
    cases e : y == x with
    | true => simp [eq_of_beq e]
    | false =>
      have : x ∈ r := by
        rcases List.mem_cons.mp h with rfl | h
        · simp at e
        · exact h
      simpa using getElem?_idxOf' this
theorem rowOf_value {ys : List Str} {vv lv : Value} {tm : Tok} (h : Str.ofString "VALUE" ∈ ys) : (rowOf ys vv lv tm)[(((ys.idxOf (Str.ofString "VALUE") : Nat) : Int)).toNat]? = some vv := by
  unfold rowOf
  rw [Int.toNat_natCast, List.getElem?_toArray, List.getElem?_map, getElem?_idxOf' h]
  simp
theorem rowOf_link {ys : List Str} {vv lv : Value} {tm : Tok} (h : Str.ofString "LINK" ∈ ys) : (rowOf ys vv lv tm)[(((ys.idxOf (Str.ofString "LINK") : Nat) : Int)).toNat]? = some lv := by
  unfold rowOf
  rw [Int.toNat_natCast, List.getElem?_toArray, List.getElem?_map, getElem?_idxOf' h]
  simp [sVL]
theorem map_set {α β : Type} [BEq α] [LawfulBEq α] {x : α} (f g : α → β) (v : β) (hg : ∀ y, y ≠ x → g y = f y) (hx : g x = v) : ∀ {l : List α}, l.Nodup → (l.map f).set (l.idxOf x) v = if x ∈ l then l.map g else l.map f
  | [], _ => by simp
  | y :: r, h => by
    classical
    have h1 := (List.nodup_cons.mp h)
    rw [List.idxOf_cons]
    cases e : y == x with
    | true =>
      obtain rfl := eq_of_beq e
      simp only [cond_true, List.map_cons, List.set_cons_zero, List.mem_cons, true_or, if_true, hx]
      rw [List.map_congr_left fun z hz => (hg z fun q => h1.1 (q ▸ hz)).symm]
    | false =>
      have hne : x ≠ y := fun q => by subst q; simp at e
      have ih := map_set f g v hg hx h1.2
      simp only [cond_false, List.map_cons, List.set_cons_succ, ih, List.mem_cons, hne, false_or]
      by_cases hm : x ∈ r
      · simp [hm, hg y hne.symm]
      · simp [hm]
theorem rowOf_set {ys : List Str} {vv lv v : Value} {tm : Tok} (h : Str.ofString "LINK" ∈ ys) (hn : ys.Nodup) : (rowOf ys vv lv tm).setIfInBounds (ys.idxOf (Str.ofString "LINK")) v = rowOf ys vv v tm := by
  unfold rowOf
  apply Array.ext'
  rw [Array.toList_setIfInBounds]
  have := map_set (x := Str.ofString "LINK") (fun f => if f = Str.ofString "VALUE" then vv else if f = Str.ofString "LINK" then lv else .str (Str.ofString "") tm) (fun f => if f = Str.ofString "VALUE" then vv else if f = Str.ofString "LINK" then v else .str (Str.ofString "") tm) v
    (fun y hy => by simp only [if_neg hy]) (by simp [sVL]) hn
  rw [if_pos h] at this
  exact this
theorem rowOf_size {ys : List Str} {vv lv : Value} {tm : Tok} : (rowOf ys vv lv tm).size = ys.length := by simp [rowOf]
theorem rowOf_mem {ys : List Str} {vv lv v : Value} {tm : Tok} (h : v ∈ (rowOf ys vv lv tm).toList) : v = vv ∨ v = lv ∨ v = .str (Str.ofString "") tm := by
  unfold rowOf at h
  obtain ⟨f, -, rfl⟩ := List.mem_map.mp h
  by_cases h1 : f = Str.ofString "VALUE"
  · simp [h1]
  · by_cases h2 : f = Str.ofString "LINK"
    · simp [h2, sVL]
    · simp [h1, h2]
theorem rowOf_link_mem {ys : List Str} {vv lv : Value} {tm : Tok} (h : Str.ofString "LINK" ∈ ys) : lv ∈ (rowOf ys vv lv tm).toList := by
  unfold rowOf
  exact List.mem_map.mpr ⟨_, h, by simp [sVL]⟩
structure Lay where
  aw : Addr
  dw : Addr
  st : Addr
  fl : Addr
  wl : Addr
  ac : Addr
  ys : List Str
  fvs : List Value
  fe : Nat
  ns : List Int
  dvs : List Value
  de : Nat
structure LayOk (S : Lay) : Prop where
  hstr : StrsAre S.fvs S.ys
  val : Str.ofString "VALUE" ∈ S.ys
  link : Str.ofString "LINK" ∈ S.ys
  other : Str.ofString "OTHER" ∉ S.ys
  nd : S.ys.Nodup
  len : S.ys.length ≤ 3
  draws : IntsAre S.dvs S.ns
  dlen : S.dvs.length ≤ 48
structure Pl where
  hs : List Cell
  lk : Cell → Option Cell
  vl : Cell → Value
  vr : Str → Option (Option Cell)
  t : Int
  made : Int
noncomputable def upd (f : Cell → Option Cell) (c : Cell) (o : Option Cell) : Cell → Option Cell := fun x => if x.a = c.a then o else f x
noncomputable def Pl.led (d : Pl) (c : Cell) (o : Option Cell) : Pl := { d with lk := upd d.lk c o }
noncomputable def Pl.atT (d : Pl) (t : Int) : Pl := { d with t := t }
noncomputable def Pl.only (d : Pl) (hs : List Cell) : Pl := { d with hs := hs }
structure Hid where
  hl : Addr
  wes : List DictEntry
  wn : Nat
  so : Obj
  kvs : List (Str × Value)
  hn : Nat
  we : Nat
  wt : Tok
  mt : Tok
  lv : Cell → Value
  tm : Cell → Tok
  ρ : Addr → Nat
noncomputable def names6 : List Str := [Str.ofString "C", Str.ofString "D", Str.ofString "T", Str.ofString "N", Str.ofString "S", Str.ofString "H"]
structure StAt (w : World) (S : Lay) (d : Pl) (U : List (Addr × Obj)) (news : List (Addr × Obj)) (H : Hid) : Prop where
  iw : (S.aw, instObj 329 S.dw) ∈ news
  dw : (S.dw, dictOf H.wes H.wn) ∈ news
  st : (S.st, H.so) ∈ news
  hl : (H.hl, PySem.W.listOf (d.hs.map fun c => Value.ref c.a).toArray H.hn) ∈ news
  fl : (S.fl, PySem.W.listOf S.fvs.toArray S.fe) ∈ news
  wl : (S.wl, PySem.W.listOf #[.ref S.ac, .int d.t H.wt] H.we) ∈ news
  ac : (S.ac, PySem.W.listOf S.dvs.toArray S.de) ∈ news
  cells : ∀ c ∈ d.hs, ∃ k, CellIn w.params S.fl news c k (rowOf S.ys (d.vl c) (H.lv c) (H.tm c))
  own : ∀ p ∈ U, p ∈ news
  gst : getL (Str.ofString "store") H.wes = some (some (.ref S.st))
  ghl : getL (Str.ofString "holders") H.wes = some (some (.ref H.hl))
  gmd : getL (Str.ofString "made") H.wes = some (some (.int d.made H.mt))
  wz : H.wes.length ≤ 500
  lo : (S.st == sysModules) = false
  so : H.so.IsDictOf (PySem.strKind PySem.Challenge.rw_sa0599_01.row.prog w) H.kvs
  knd : (H.kvs.map (·.1)).Nodup
  ksub : ∀ k ∈ H.kvs.map (·.1), k ∈ names6
  lks : ∀ c ∈ d.hs, IsL (H.lv c) (d.lk c)
  lkin : ∀ c ∈ d.hs, ∀ c', d.lk c = some c' → c' ∈ d.hs
  vls : ∀ c ∈ d.hs, (∃ x t, d.vl c = .int x t) ∨ ∃ x t, d.vl c = .str x t
  vars : ∀ k, match d.vr k with | none => valueAt H.kvs k = none | some o => ∃ v, valueAt H.kvs k = some v ∧ IsL v o
  vin : ∀ k c, d.vr k = some (some c) → c ∈ d.hs
  aa : ∀ c ∈ d.hs, ∀ c' ∈ d.hs, c.a = c'.a → c = c'
  dd : ∀ c ∈ d.hs, ∀ c' ∈ d.hs, c.d = c'.d → c = c'
  vv : ∀ c ∈ d.hs, ∀ c' ∈ d.hs, c.v = c'.v → c = c'
  nn : ∀ c ∈ d.hs, ∀ c' ∈ d.hs, c.num = c'.num → c = c'
  hcl : d.hs.length ≤ 10
  t0 : 0 ≤ d.t
  raw : H.ρ S.aw = 1
  rdw : H.ρ S.dw = 2
  rst : H.ρ S.st = 3
  rhl : H.ρ H.hl = 4
  rfl' : H.ρ S.fl = 5
  rwl : H.ρ S.wl = 6
  rac : H.ρ S.ac = 7
  ra : ∀ c ∈ d.hs, H.ρ c.a = 10
  rd : ∀ c ∈ d.hs, H.ρ c.d = 11
  rv : ∀ c ∈ d.hs, H.ρ c.v = 12
  rU : ∀ p ∈ U, H.ρ p.1 = 0
noncomputable def St (w : World) (S : Lay) (d : Pl) (U : List (Addr × Obj)) (news : List (Addr × Obj)) : Prop := ∃ H, StAt w S d U news H
theorem ne_ρ {ρ : Addr → Nat} {a b : Addr} {m n : Nat} (h : ρ a = m) (h' : ρ b = n) (e : m ≠ n) : a ≠ b := fun q => e (h ▸ h' ▸ q ▸ rfl)
theorem StAt.mono {w : World} {S : Lay} {d : Pl} {U news news' : List (Addr × Obj)} {H : Hid} (A : StAt w S d U news H) (h : ∀ p ∈ news, p ∈ news') : StAt w S d U news' H :=
  { A with iw := h _ A.iw, dw := h _ A.dw, st := h _ A.st, hl := h _ A.hl, fl := h _ A.fl, wl := h _ A.wl, ac := h _ A.ac, cells := fun c hc => let ⟨k, mtk, ve, a, b, c⟩ := A.cells c hc; ⟨k, mtk, ve, h _ a, h _ b, h _ c⟩, own := fun p hp => h _ (A.own p hp) }
theorem St.mono {w : World} {S : Lay} {d : Pl} {U news news' : List (Addr × Obj)} (A : St w S d U news) (h : ∀ p ∈ news, p ∈ news') : St w S d U news' := let ⟨H, A⟩ := A; ⟨H, A.mono h⟩
theorem StAt.apart {w : World} {S : Lay} {d : Pl} {U news : List (Addr × Obj)} {H : Hid} (A : StAt w S d U news H) : Apart d.hs where
  ad := fun c hc c' hc' => ne_ρ (A.ra c hc) (A.rd c' hc') (by decide)
  av := fun c hc c' hc' => ne_ρ (A.ra c hc) (A.rv c' hc') (by decide)
  dv := fun c hc c' hc' => ne_ρ (A.rd c hc) (A.rv c' hc') (by decide)
  aa := A.aa
  dd := A.dd
  vv := A.vv
  nn := A.nn
theorem StAt.far {w : World} {S : Lay} {d : Pl} {U news : List (Addr × Obj)} {H : Hid} (A : StAt w S d U news H) : Far S.aw S.dw S.st H.hl d.hs where
  aw_dw := ne_ρ A.raw A.rdw (by decide)
  aw_st := ne_ρ A.raw A.rst (by decide)
  aw_hl := ne_ρ A.raw A.rhl (by decide)
  dw_st := ne_ρ A.rdw A.rst (by decide)
  dw_hl := ne_ρ A.rdw A.rhl (by decide)
  st_hl := ne_ρ A.rst A.rhl (by decide)
  ca := fun c hc => ⟨ne_ρ (A.ra c hc) A.raw (by decide), ne_ρ (A.ra c hc) A.rdw (by decide), ne_ρ (A.ra c hc) A.rst (by decide), ne_ρ (A.ra c hc) A.rhl (by decide)⟩
  cd := fun c hc => ⟨ne_ρ (A.rd c hc) A.raw (by decide), ne_ρ (A.rd c hc) A.rdw (by decide), ne_ρ (A.rd c hc) A.rst (by decide), ne_ρ (A.rd c hc) A.rhl (by decide)⟩
  cv := fun c hc => ⟨ne_ρ (A.rv c hc) A.raw (by decide), ne_ρ (A.rv c hc) A.rdw (by decide), ne_ρ (A.rv c hc) A.rst (by decide), ne_ρ (A.rv c hc) A.rhl (by decide)⟩
theorem StAt.klen {w : World} {S : Lay} {d : Pl} {U news : List (Addr × Obj)} {H : Hid} (A : StAt w S d U news H) : H.kvs.length ≤ 6 := by
  have := nodup_len _ _ A.knd A.ksub
  simpa [names6] using this
theorem StAt.worldAt {w : World} {S : Lay} {d : Pl} {U news : List (Addr × Obj)} {H : Hid} (A : StAt w S d U news H) : WorldAt PySem.Challenge.rw_sa0599_01.row.prog w S.aw S.dw S.st H.hl H.wes H.wn H.so H.kvs d.hs H.hn news :=
  ⟨A.iw, A.dw, A.st, A.hl, A.gst, A.ghl, A.lo, A.so, by have := A.klen; exact om38 this, A.wz⟩
theorem StAt.var {w : World} {S : Lay} {d : Pl} {U news : List (Addr × Obj)} {H : Hid} (A : StAt w S d U news H) {k : Str} {o : Option Cell} (h : d.vr k = some o) : ∃ v, valueAt H.kvs k = some v ∧ IsL v o := by
  have := A.vars k; rw [h] at this; exact this
theorem IsL.nv {v : Value} {o : Option Cell} {hs : List Cell} (h : IsL v o) (hc : ∀ c, o = some c → c ∈ hs) : NV hs v := by
  cases o with
  | none => obtain ⟨t, rfl⟩ := h; exact .inl ⟨_, _, rfl⟩
  | some c => exact .inr (.inr ⟨c, hc c rfl, h⟩)
theorem StAt.nva {w : World} {S : Lay} {d : Pl} {U news : List (Addr × Obj)} {H : Hid} (A : StAt w S d U news H) {c : Cell} (hc : c ∈ d.hs) : ∀ v ∈ (rowOf S.ys (d.vl c) (H.lv c) (H.tm c)).toList, NV d.hs v := fun v hv => by
  rcases rowOf_mem hv with rfl | rfl | rfl
  · rcases A.vls c hc with ⟨x, t, e⟩ | ⟨x, t, e⟩
    · exact .inr (.inl ⟨x, t, e⟩)
    · exact .inl ⟨x, t, e⟩
  · exact (A.lks c hc).nv (A.lkin c hc)
  · exact .inl ⟨_, _, rfl⟩
theorem StAt.nvr {w : World} {S : Lay} {d : Pl} {U news : List (Addr × Obj)} {H : Hid} (A : StAt w S d U news H) (k : Str) (v : Value) (h : valueAt H.kvs k = some v) : NV d.hs v := by
  have := A.vars k
  cases e : d.vr k with
  | none => rw [e] at this; rw [this] at h; cases h
  | some o =>
    rw [e] at this
    obtain ⟨v', h', hl⟩ := this
    rw [h'] at h; injection h with h; subst h
    exact hl.nv fun c hc => A.vin k c (by rw [e, hc])
end
section
set_option maxRecDepth 100000
set_option maxHeartbeats 8000000
variable {w : World} {S : Lay} {d : Pl} {U : List (Addr × Obj)}
theorem held_link {k : Str} {nt ft : Tok} {c : Cell} (ok : LayOk S) (hk : d.vr k = some (some c)) :
    Con w 20 100 486 [.ref S.aw, .str k nt, .str (Str.ofString "LINK") ft] (fun news => St w S d U news) (fun news r news' => IsL r (d.lk c) ∧ news' = news) :=
  Con.of fun news ⟨H, A⟩ => by
    obtain ⟨v, hv, rfl⟩ := A.var hk
    have hc := A.vin k c hk
    obtain ⟨kk, mtk, ve, q1, q2, q3⟩ := A.cells c hc
    have hlen := List.idxOf_lt_length_iff.mpr ok.link
    have hl3 := ok.len
    exact ⟨_, _, held (dw := S.dw) (fl := S.fl) (c := c) (mark := kk) (mtk := mtk) (wn := H.wn) (fe := S.fe) (ve := ve) A.gst A.so hv ok.hstr (om39 hl3) ok.link (om40 hlen hl3) (rowOf_link ok.link), ⟨A.iw, A.dw, A.st, q1, q2, A.fl, q3⟩, fun r news' ⟨h1, h2⟩ => ⟨h1 ▸ A.lks c hc, h2⟩⟩
theorem held_value {k : Str} {nt ft : Tok} {c : Cell} (ok : LayOk S) (hk : d.vr k = some (some c)) :
    Con w 20 100 486 [.ref S.aw, .str k nt, .str (Str.ofString "VALUE") ft] (fun news => St w S d U news) (fun news r news' => r = d.vl c ∧ news' = news) :=
  Con.of fun news ⟨H, A⟩ => by
    obtain ⟨v, hv, rfl⟩ := A.var hk
    have hc := A.vin k c hk
    obtain ⟨kk, mtk, ve, q1, q2, q3⟩ := A.cells c hc
    have hlen := List.idxOf_lt_length_iff.mpr ok.val
    have hl3 := ok.len
    exact ⟨_, _, held (dw := S.dw) (fl := S.fl) (c := c) (mark := kk) (mtk := mtk) (wn := H.wn) (fe := S.fe) (ve := ve) A.gst A.so hv ok.hstr (om39 hl3) ok.val (om40 hlen hl3) (rowOf_value ok.val), ⟨A.iw, A.dw, A.st, q1, q2, A.fl, q3⟩, fun r news' ⟨h1, h2⟩ => ⟨h1, h2⟩⟩
theorem led_st {k other : Str} {nt ot : Tok} {c : Cell} {o : Option Cell} (ok : LayOk S) (hk : d.vr k = some (some c)) (ho : d.vr other = some o) :
    Con w 20 100 493 [.ref S.aw, .str k nt, .str other ot] (fun news => St w S d U news) (fun news r news' => r = .none ∧ St w S (d.led c o) U news') :=
  Con.of fun news ⟨H, A⟩ => by
    obtain ⟨v, hv, rfl⟩ := A.var hk
    obtain ⟨v, hv', hvo⟩ := A.var ho
    have hc := A.vin k c hk
    obtain ⟨kk, mtk, ve, q1, q2, q3⟩ := A.cells c hc
    have hlen := List.idxOf_lt_length_iff.mpr ok.link
    have hl3 := ok.len
    refine ⟨_, _, led (dw := S.dw) (fl := S.fl) (c := c) (mark := kk) (mtk := mtk) (wn := H.wn) (fe := S.fe) (ve := ve) (arr := rowOf S.ys (d.vl c) (H.lv c) (H.tm c)) A.gst A.so hv hv' ok.hstr (om39 hl3) ok.link (by rw [rowOf_size]; exact om41 hlen) (by rw [rowOf_size]; exact om42 hl3), ⟨A.iw, A.dw, A.st, q1, q2, A.fl, q3⟩, ?_⟩
    rintro r news' ⟨rfl, rfl⟩
    refine ⟨rfl, { H with lv := fun x => if x.a = c.a then v else H.lv x }, ?_⟩
    have hrv := A.rv c hc
    have ap := A.apart
    have kp : ∀ {a : Addr} {ob : Obj} {n : Nat}, (a, ob) ∈ news → H.ρ a = n → n ≠ 12 → (a, ob) ∈ setAt c.v (PySem.W.listOf ((rowOf S.ys (d.vl c) (H.lv c) (H.tm c)).setIfInBounds (S.ys.idxOf (Str.ofString "LINK")) v) ve) news := fun h1 h2 h3 => mem_setAt_ne h1 (ne_ρ h2 hrv h3)
    exact { A with
      iw := kp A.iw A.raw (by decide), dw := kp A.dw A.rdw (by decide), st := kp A.st A.rst (by decide), hl := kp A.hl A.rhl (by decide), fl := kp A.fl A.rfl' (by decide), wl := kp A.wl A.rwl (by decide), ac := kp A.ac A.rac (by decide)
      own := fun p hp => kp (A.own p hp) (A.rU p hp) (by decide)
      cells := fun c' hc' => by
        obtain ⟨k', mtk', ve', u1, u2, u3⟩ := A.cells c' hc'
        by_cases e : c' = c
        · subst e
          refine ⟨k', mtk', ve, kp u1 (A.ra _ hc') (by decide), kp u2 (A.rd _ hc') (by decide), ?_⟩
          simp only [if_true]
          rw [rowOf_set ok.link ok.nd]
          exact mem_setAt_eq u3
        · have hne : c'.a ≠ c.a := fun q => e (ap.aa c' hc' c hc q)
          refine ⟨k', mtk', ve', kp u1 (A.ra _ hc') (by decide), kp u2 (A.rd _ hc') (by decide), ?_⟩
          simp only [if_neg hne]
          exact mem_setAt_ne u3 fun q => e (ap.vv c' hc' c hc q)
      lks := fun c' hc' => by
        show IsL (if c'.a = c.a then v else H.lv c') (if c'.a = c.a then o else d.lk c')
        by_cases e : c'.a = c.a
        · simp only [if_pos e]; exact hvo
        · simp only [if_neg e]; exact A.lks c' hc'
      lkin := fun c' hc' x hx => by
        replace hx : (if c'.a = c.a then o else d.lk c') = some x := hx
        by_cases e : c'.a = c.a
        · rw [if_pos e] at hx; exact A.vin other x (by rw [ho, hx])
        · rw [if_neg e] at hx; exact A.lkin c' hc' x hx }
noncomputable def Rch (d : Pl) (c : Cell) : Prop := ∀ R : Cell → Prop, (∀ k x, d.vr k = some (some x) → R x) → (∀ x, R x → ∀ y, d.lk x = some y → R y) → R c
noncomputable def live (d : Pl) : List Cell := d.hs.filter fun c => @decide (Rch d c) (Classical.propDecidable _)
noncomputable def dead (d : Pl) : List Cell := d.hs.filter fun c => @decide (¬ Rch d c) (Classical.propDecidable _)
theorem dipped_st {many : Int} {tm : Tok} (ok : LayOk S) (ht : d.t < 1000) (hm : 1 ≤ many) (hm2 : many ≤ 10) :
    Con w 5 50 479 [.ref S.wl, .int many tm] (fun news => St w S d U news) (fun news r news' => ∃ v tv, r = .int v tv ∧ 0 ≤ v ∧ v < many ∧ St w S (d.atT (d.t + 1)) U news') :=
  Con.of fun news ⟨H, A⟩ => by
    refine ⟨_, _, dipped (aw := S.wl) (ac := S.ac) (t := d.t) (tk := H.wt) (e := H.we) (e' := S.de) ok.draws ok.dlen A.t0 ht hm hm2, ⟨A.wl, A.ac, ne_ρ A.rwl A.rac (by decide)⟩, ?_⟩
    rintro r news' ⟨v, tv, tk', rfl, h0, h1, rfl⟩
    refine ⟨v, tv, rfl, h0, h1, { H with wt := tk' }, ?_⟩
    have kp : ∀ {a : Addr} {ob : Obj} {n : Nat}, (a, ob) ∈ news → H.ρ a = n → n ≠ 6 → (a, ob) ∈ setAt S.wl (PySem.W.listOf #[.ref S.ac, .int (d.t + 1) tk'] H.we) news := fun h1 h2 h3 => mem_setAt_ne h1 (ne_ρ h2 A.rwl h3)
    exact { A with
      iw := kp A.iw A.raw (by decide), dw := kp A.dw A.rdw (by decide), st := kp A.st A.rst (by decide), hl := kp A.hl A.rhl (by decide), fl := kp A.fl A.rfl' (by decide), wl := mem_setAt_eq A.wl, ac := kp A.ac A.rac (by decide)
      own := fun p hp => kp (A.own p hp) (A.rU p hp) (by decide)
      t0 := by have := A.t0; show 0 ≤ d.t + 1; exact om43 ht this
      cells := fun c' hc' => by
        obtain ⟨k', mtk', ve', u1, u2, u3⟩ := A.cells c' hc'
        exact ⟨k', mtk', ve', kp u1 (A.ra _ hc') (by decide), kp u2 (A.rd _ hc') (by decide), kp u3 (A.rv _ hc') (by decide)⟩ }
end
section
set_option maxRecDepth 100000
set_option maxHeartbeats 8000000
variable {w : World} {S : Lay} {d : Pl} {U : List (Addr × Obj)}
theorem mem_live {c : Cell} : c ∈ live d ↔ c ∈ d.hs ∧ Rch d c := by unfold live; rw [List.mem_filter]; exact and_congr_right fun _ => @decide_eq_true_iff _ (Classical.propDecidable _)
theorem mem_dead {c : Cell} : c ∈ dead d ↔ c ∈ d.hs ∧ ¬ Rch d c := by unfold dead; rw [List.mem_filter]; exact and_congr_right fun _ => @decide_eq_true_iff _ (Classical.propDecidable _)
theorem IsL.of_ref {x : Addr} {o : Option Cell} (h : IsL (.ref x) o) : ∃ c, o = some c ∧ c.a = x := by
  cases o with
  | none => obtain ⟨t, h⟩ := h; cases h
  | some c => injection (show Value.ref x = Value.ref c.a from h) with h; exact ⟨c, rfl, h.symm⟩
theorem Rch.root {k : Str} {x : Cell} (h : d.vr k = some (some x)) : Rch d x := fun _ h1 _ => h1 k x h
theorem Rch.step {x y : Cell} (h : Rch d x) (hl : d.lk x = some y) : Rch d y := fun R h1 h2 => h2 x (h R h1 h2) y hl
theorem reach_iff {news : List (Addr × Obj)} {H : Hid} (ok : LayOk S) (A : StAt w S d U news H) {M : List Cell} (hsub : ∀ c ∈ M, c ∈ d.hs)
    (hroots : ∀ k v, valueAt H.kvs k = some v → ∀ c ∈ d.hs, v = .ref c.a → c ∈ M)
    (hclosed : ∀ c ∈ M, ∀ v ∈ (rowOf S.ys (d.vl c) (H.lv c) (H.tm c)).toList, ∀ c' ∈ d.hs, v = .ref c'.a → c' ∈ M)
    (hsound : ∀ R : Cell → Prop, (∀ k v, valueAt H.kvs k = some v → ∀ c ∈ d.hs, v = .ref c.a → R c) → (∀ c ∈ d.hs, R c → ∀ v ∈ (rowOf S.ys (d.vl c) (H.lv c) (H.tm c)).toList, ∀ c' ∈ d.hs, v = .ref c'.a → R c') → ∀ c ∈ M, R c) (c : Cell) (hc : c ∈ d.hs) : c ∈ M ↔ Rch d c := by
  constructor
  · intro hm R h1 h2
    refine hsound R (fun k v hv c hc e => ?_) (fun c hc hR v hv c' hc' e => ?_) c hm
    · have := A.vars k
      cases ek : d.vr k with
      | none => rw [ek] at this; rw [this] at hv; cases hv
      | some o =>
        rw [ek] at this
        obtain ⟨v', h', hl⟩ := this
        rw [h'] at hv; injection hv with hv; subst hv; subst e
        obtain ⟨x, rfl, hx⟩ := hl.of_ref
        exact A.aa x (A.vin k x ek) c hc hx ▸ h1 k x ek
    · subst e
      rcases rowOf_mem hv with h | h | h
      · rcases A.vls c hc with ⟨x, t, e⟩ | ⟨x, t, e⟩ <;> rw [e] at h <;> cases h
      · have hl := A.lks c hc
        rw [← h] at hl
        obtain ⟨x, hx, hxa⟩ := hl.of_ref
        exact A.aa x (A.lkin c hc x hx) c' hc' hxa ▸ h2 c hR x hx
      · cases h
  · intro h
    refine h (· ∈ M) (fun k x hk => ?_) (fun x hx y hy => ?_)
    · obtain ⟨v, hv, e⟩ := A.var hk
      exact hroots k v hv x (A.vin k x hk) e
    · have hxh := hsub x hx
      have hl := A.lks x hxh
      rw [hy] at hl
      exact hclosed x hx _ (rowOf_link_mem ok.link) y (A.lkin x hxh y hy) hl
theorem collect_st {ml : Addr} {em : Nat} (ok : LayOk S) (hml : (ml, PySem.W.listOf #[] em) ∈ U) :
    Con w 40 400 404 [.ref S.aw, .ref ml] (fun news => St w S d U news) (fun news r news' => ∃ g gs ns ge, r = .ref g ∧ IntsAre gs ns ∧ ns.Perm ((dead d).map (·.num)) ∧ ns.Pairwise (· ≤ ·) ∧ St w S (d.only (live d)) ((g, PySem.W.listOf gs.toArray ge) :: U) news') :=
  Con.of fun news ⟨H, A⟩ => by
    have ap := A.apart
    have hm0 := A.rU _ hml
    have hl3 := ok.len
    obtain ⟨mk, hmk⟩ : ∃ mk : Cell → Int, ∀ c ∈ d.hs, CellIn w.params S.fl news c (mk c) (rowOf S.ys (d.vl c) (H.lv c) (H.tm c)) := ⟨fun c => Classical.epsilon fun k => CellIn w.params S.fl news c k (rowOf S.ys (d.vl c) (H.lv c) (H.tm c)), fun c hc => Classical.epsilon_spec (A.cells c hc)⟩
    refine ⟨_, _, collect (fl := S.fl) (em := em) (wn := H.wn) (hn := H.hn) (arr := fun c => rowOf S.ys (d.vl c) (H.lv c) (H.tm c)) (mark := mk) ap A.far A.nvr (fun c hc => A.nva hc) (fun c _ => by rw [rowOf_size]; exact hl3) (by have := A.hcl; exact om44 this), ⟨A.worldAt, A.own _ hml, ne_ρ hm0 A.rdw (by decide), fun c hc => ne_ρ hm0 (A.rd c hc) (by decide), hmk⟩, ?_⟩
    rintro r news' ⟨M, g, hl', gs, ns, ge, he, wn', wes', C⟩
    have hiff := reach_iff ok A C.sub C.roots C.closed C.sound
    have ek : kept M d.hs = live d := by
      unfold kept live
      exact List.filter_congr fun c hc => by
        by_cases h : c ∈ M
        · rw [@decide_eq_true _ (Classical.propDecidable _) h, @decide_eq_true _ (Classical.propDecidable _) ((hiff c hc).mp h)]
        · rw [@decide_eq_false _ (Classical.propDecidable _) h, @decide_eq_false _ (Classical.propDecidable _) fun q => h ((hiff c hc).mpr q)]
    have eg : gone M d.hs = dead d := by
      unfold gone dead
      exact List.filter_congr fun c hc => by
        by_cases h : c ∈ M
        · rw [@decide_eq_false _ (Classical.propDecidable _) (fun q => q h), @decide_eq_false _ (Classical.propDecidable _) fun q => q ((hiff c hc).mp h)]
        · rw [@decide_eq_true _ (Classical.propDecidable _) h, @decide_eq_true _ (Classical.propDecidable _) fun q => h ((hiff c hc).mpr q)]
    have W := C.world
    rw [ek] at W
    refine ⟨g, gs, ns, ge, C.r, C.hgs, eg ▸ C.perm, C.up, { H with hl := hl', wes := wes', wn := wn', hn := he, ρ := fun a => if a = hl' then 4 else if a = g then 0 else H.ρ a }, ?_⟩
    have old : ∀ {a : Addr} {o : Obj} {n : Nat}, (a, o) ∈ news → H.ρ a = n → (if a = hl' then 4 else if a = g then 0 else H.ρ a) = n := fun h1 h2 => by
      rw [if_neg (C.fh _ h1), if_neg (C.fg _ h1)]; exact h2
    have kp : ∀ {a : Addr} {o : Obj} {n : Nat}, (a, o) ∈ news → H.ρ a = n → n ≠ 2 → n ≠ 11 → (a, o) ∈ news' := fun h1 h2 h3 h4 => C.keep _ h1 (ne_ρ h2 A.rdw h3) fun c hc => ne_ρ h2 (A.rd c hc) h4
    have inn : ∀ c ∈ live d, c ∈ d.hs := fun c hc => (mem_live.mp hc).1
    exact { A with
      iw := W.miw, dw := W.mdw, st := W.mst, hl := W.mhl, fl := kp A.fl A.rfl' (by decide) (by decide), wl := kp A.wl A.rwl (by decide) (by decide), ac := kp A.ac A.rac (by decide) (by decide)
      cells := fun c hc => C.cells c (inn c hc)
      own := fun p hp => by
        rcases List.mem_cons.mp hp with rfl | hp
        · exact C.gl
        · exact kp (A.own p hp) (A.rU p hp) (by decide) (by decide)
      gst := W.gst, ghl := W.ghl, gmd := C.same _ _ (by decide) A.gmd, wz := W.wz
      lks := fun c hc => A.lks c (inn c hc)
      lkin := fun c hc c' h => mem_live.mpr ⟨A.lkin c (inn c hc) c' h, (mem_live.mp hc).2.step h⟩
      vls := fun c hc => A.vls c (inn c hc)
      vin := fun k c h => mem_live.mpr ⟨A.vin k c h, Rch.root h⟩
      aa := fun c hc c' hc' => A.aa c (inn c hc) c' (inn c' hc')
      dd := fun c hc c' hc' => A.dd c (inn c hc) c' (inn c' hc')
      vv := fun c hc c' hc' => A.vv c (inn c hc) c' (inn c' hc')
      nn := fun c hc c' hc' => A.nn c (inn c hc) c' (inn c' hc')
      hcl := Nat.le_trans (List.length_filter_le _ _) A.hcl
      raw := old A.iw A.raw, rdw := old A.dw A.rdw, rst := old A.st A.rst, rhl := if_pos rfl, rfl' := old A.fl A.rfl', rwl := old A.wl A.rwl, rac := old A.ac A.rac
      ra := fun c hc => let ⟨_, _, _, h, _, _⟩ := A.cells c (inn c hc); old h (A.ra c (inn c hc))
      rd := fun c hc => let ⟨_, _, _, _, h, _⟩ := A.cells c (inn c hc); old h (A.rd c (inn c hc))
      rv := fun c hc => let ⟨_, _, _, _, _, h⟩ := A.cells c (inn c hc); old h (A.rv c (inn c hc))
      rU := fun p hp => by
        rcases List.mem_cons.mp hp with rfl | hp
        · show (if g = hl' then 4 else if g = g then 0 else H.ρ g) = 0
          rw [if_neg C.gh, if_pos rfl]
        · exact old (A.own p hp) (A.rU p hp) }
end
section
set_option maxRecDepth 100000
set_option maxHeartbeats 8000000
variable {w : World} {S : Lay} {d : Pl} {U : List (Addr × Obj)}
theorem St.sub {U' news : List (Addr × Obj)} (A : St w S d U' news) (h : ∀ p ∈ U, p ∈ U') : St w S d U news :=
  let ⟨H, A⟩ := A
  ⟨H, { A with own := fun p hp => A.own p (h p hp), rU := fun p hp => A.rU p (h p hp) }⟩
theorem St.push {news : List (Addr × Obj)} (A : St w S d U news) {x : Addr} {o : Obj} (hx : ∀ p ∈ news, p.1 ≠ x) : St w S d ((x, o) :: U) ((x, o) :: news) := by
  obtain ⟨H, A⟩ := A
  have old : ∀ {a : Addr} {o : Obj} {n : Nat}, (a, o) ∈ news → H.ρ a = n → (if a = x then 0 else H.ρ a) = n := fun h1 h2 => by rw [if_neg (hx _ h1)]; exact h2
  have B := A.mono (news' := (x, o) :: news) fun p hp => .tail _ hp
  exact ⟨{ H with ρ := fun a => if a = x then 0 else H.ρ a }, { B with
    own := fun p hp => by
      rcases List.mem_cons.mp hp with rfl | hp
      · exact .head _
      · exact .tail _ (A.own p hp)
    raw := old A.iw A.raw, rdw := old A.dw A.rdw, rst := old A.st A.rst, rhl := old A.hl A.rhl, rfl' := old A.fl A.rfl', rwl := old A.wl A.rwl, rac := old A.ac A.rac
    ra := fun c hc => let ⟨_, _, _, h, _, _⟩ := A.cells c hc; old h (A.ra c hc)
    rd := fun c hc => let ⟨_, _, _, _, h, _⟩ := A.cells c hc; old h (A.rd c hc)
    rv := fun c hc => let ⟨_, _, _, _, _, h⟩ := A.cells c hc; old h (A.rv c hc)
    rU := fun p hp => by
      rcases List.mem_cons.mp hp with rfl | hp
      · exact if_pos rfl
      · exact old (A.own p hp) (A.rU p hp) }⟩
noncomputable def Full (d : Pl) : Prop := ∀ c ∈ d.hs, Rch d c
theorem live_full (h : Full d) : live d = d.hs := by unfold live; exact List.filter_eq_self.mpr fun c hc => @decide_eq_true _ (Classical.propDecidable _) (h c hc)
theorem dead_full (h : Full d) : dead d = [] := by unfold dead; exact List.filter_eq_nil_iff.mpr fun c hc => by rw [@decide_eq_false _ (Classical.propDecidable _) fun q => q (h c hc)]; simp
theorem ints_nil {gs : List Value} {ns : List Int} (h : IntsAre gs ns) (hp : ns.Perm []) : gs = [] := by
  have := hp.eq_nil
  subst this
  cases h; rfl
theorem swept_st (ok : LayOk S) (ht : d.t < 1000) (full : Full d) :
    Con w 60 600 507 [.ref S.aw, .ref S.wl] (fun news => St w S d U news) (fun _ r news' => ∃ t, r = .bool true ∧ d.t ≤ t ∧ t ≤ d.t + 1 ∧ St w S (d.atT t) U news') := by
  unfold Con
  k_fill
  intro p loose mean mg mb dp un gd cn cs a ccd cl outer A₀ base h₀ L m news s Q E B F X N T hk hd hu hpre hret
  refine wpAny_call ?_
  k_dflt ktr_enter
  k_steps
  unfold Hold
  try k_fold
  refine' con_useS (dipped_st (d := d) (U := U) ok ht (by decide) (by decide)) ?B ?F ?X ?N ?T ?hk ?hd ?hu ?pp ?_
  walk_at "use con"
  case pp => exact hpre
  rintro r h1 tk1 nx F₁ N₁ pP0
  refine byC fun nG => ?_
  obtain ⟨v, tv, rfl, v0, v1, A₁⟩ := pP0
  refine nG ?_
  obtain rfl | rfl : v = 0 ∨ v = 1 := by exact om45 v0 v1
  · k_steps
    exact hret _ _ _ _ (by k_asm) (by k_asm) ⟨_, rfl, by exact om46, by exact om47, A₁⟩
  · k_steps
    refine name1 (by with_reducible assumption) fun e e1 => ?_
    subst e1
    rename (∀ q ∈ nx, q.1 < e) => le
    have A₂ := A₁.push (x := e) (o := PySem.W.listOf #[] 0) fun p hp => Nat.ne_of_lt (le p hp)
    unfold Hold
    try k_fold
    refine' con_useS (collect_st (em := 0) ok (List.mem_cons_self ..)) ?B ?F ?X ?N ?T ?hk ?hd ?hu ?pp ?_
    walk_at "use con"
    case pp => exact A₂
    rintro r h2 tk2 nx2 F₂ N₂ pP0
    refine byC fun nG => ?_
    obtain ⟨g, gs, ns, ge, rfl, hgs, hperm, -, A₃⟩ := pP0
    refine nG ?_
    rw [dead_full (d := d.atT (d.t + 1)) full] at hperm
    rw [live_full (d := d.atT (d.t + 1)) full] at A₃
    obtain rfl := ints_nil hgs hperm
    have mg := let ⟨H, A⟩ := A₃; A.own _ (List.mem_cons_self ..)
    k_steps
    refine hret _ _ _ _ (by k_asm) (by k_asm) ⟨d.t + 1, rfl, by exact om46, by exact om47, (A₃.sub fun p hp => .tail _ (.tail _ hp)).mono ?_⟩
    exact fun p hp => .tail _ hp
end
section
open PySem PySem.W PyProof.Rows PySem.Calls Builtin
set_option maxRecDepth 100000
set_option maxHeartbeats 8000000
theorem str_ne_declines_inst (b : Str) (u : Tok) (l : Addr) (c : Value) (dd : Option Addr) (sl : Array (Option Value)) :
    Meets (Builtin.«str.__ne__» ⟨[.str b u, .ref l], []⟩) (fun _ R s => s.heap.get? l = some { cls := c, dict := dd, data := .plain, slots := sl } ∧ R (.ok (.ret .notImplemented)) s) :=
  .of_wp fun prog w A R s h => by obtain ⟨hp, g, d, tk, os⟩ := s; obtain ⟨hl, h⟩ := h; wp_walk using wpAny_loadPart' hl, wpAny_load hl; exact ⟨_, rfl, h⟩
theorem str_eq_declines_inst (b : Str) (u : Tok) (l : Addr) (c : Value) (dd : Option Addr) (sl : Array (Option Value)) :
    Meets (Builtin.«str.__eq__» ⟨[.str b u, .ref l], []⟩) (fun _ R s => s.heap.get? l = some { cls := c, dict := dd, data := .plain, slots := sl } ∧ R (.ok (.ret .notImplemented)) s) :=
  .of_wp fun prog w A R s h => by obtain ⟨hp, g, d, tk, os⟩ := s; obtain ⟨hl, h⟩ := h; wp_walk using wpAny_loadPart' hl, wpAny_load hl; exact ⟨_, rfl, h⟩
section
variable {prog : Program} {w : World} {A : Around} {E : Value → Shared → Prop} {s : Shared} {K : Frag} {x C dx : Addr} {sl : Array (Option Value)} {od : Option Obj} {k : Str} {t : Tok}
theorem ifBound_slot {M : Model} {B id : String} {name : Str} {args : List Value} {ox : Obj} {Q : Option Value → Shared → Prop} (X : K.In s.heap) (I : InstAt s.heap x ox C od) (hs : findIn K (.ref C) name = some (some (.builtin id))) (S : Slot B name id)
    (h : wpAny M A (call (.builtin id) (.ref x :: args)) (fun v => Q (some v)) E s) : wpAny M A (callSpecialIfBound? (.ref x) name args) Q E s := by
  simp only [callSpecialIfBound?, bindSpecialIfBound?]
  refine wpAny_holding (wpAny_bind (wpAny_bind (wpAny_bind (I.type.here ((looks_findIn X hs).here ?_)))))
  simp only [S.bind]
  refine wpAny_bind (wpAny_askSetting (wpAny_ite ?_))
  have fin : wpAny M A (call (.builtin id) ([.ref x] ++ args) >>= fun v => pure (some v)) Q E s := wpAny_bind (wpAny_mono h (fun v s' h' => wpAny_pure h') fun _ _ h' => h')
  split
  · exact wpAny_bind (wpAny_pure (wpAny_pure fin))
  · exact wpAny_tryCatch (wpAny_bind (wpAny_pure (wpAny_pure fin)))
theorem inst_sub {M : Model} {ox : Obj} {base : Value} {r : Bool} (X : K.In s.heap) (I : InstAt s.heap x ox C od) (e : subIn K (.ref C) base = some r) : Looks M s.heap (isInstance (.ref x) base) r := by
  unfold isInstance
  exact I.type.andThen (looks_subIn X e)
theorem call_eq_str {ox : Obj} {Q : Value → Shared → Prop} (X : K.In s.heap) (I : InstAt s.heap x ox C od) (ho : subIn K (.ref C) (.type "object") = some true) (h : Q .notImplemented s) :
    wpAny (model prog w) A (call (.builtin "object.__eq__") [.ref x, .str k t]) Q E s := by
  refine wpAny_call (codeAny_call_builtin F.cmp_object.eq.plain F.cmpEntry_eq (check_slot F.cmpKind_eq F.cmpSplit_eq (inst_sub X I ho) (F.cmpArgs_eq _ _) ?_))
  unfold Builtin.«object.__eq__»
  repeat (first | wp_step)
  exact h
theorem call_ne_str {ox : Obj} {Q : Value → Shared → Prop} (hu : A.in1.units < cLine) (X : K.In s.heap) (I : InstAt s.heap x ox C od) (ho : subIn K (.ref C) (.type "object") = some true) (he : findIn K (.ref C) "__eq__" = some (some (.builtin "object.__eq__"))) (h : Q .notImplemented s) :
    wpAny (model prog w) A (call (.builtin "object.__ne__") [.ref x, .str k t]) Q E s := by
  refine wpAny_call (codeAny_call_builtin F.cmp_object.ne.plain F.cmpEntry_ne (check_slot F.cmpKind_ne F.cmpSplit_ne (inst_sub X I ho) (F.cmpArgs_ne _ _) ?_))
  unfold Builtin.«object.__ne__»
  repeat (first | with_reducible refine wpAny_cRoomFor hu ?_ | with_reducible refine ifBound_slot X I he F.cmp_object.eq (call_eq_str X I ho ?_) | wp_step)
  exact h
theorem try_ne_str {ox : Obj} {Q : Option Value → Shared → Prop} (hu : A.in1.units < cLine) (X : K.In s.heap) (I : InstAt s.heap x ox C od) (ho : subIn K (.ref C) (.type "object") = some true) (he : findIn K (.ref C) "__eq__" = some (some (.builtin "object.__eq__"))) (hn : findIn K (.ref C) "__ne__" = some (some (.builtin "object.__ne__"))) (h : Q none s) :
    wpAny (model prog w) A (tryCompare (.ref x) "__ne__" (.str k t)) Q E s := by
  unfold tryCompare
  exact wpAny_bind (ifBound_slot X I hn F.cmp_object.ne (call_ne_str hu X I ho he (wpAny_pure h)))
theorem try_eq_str {ox : Obj} {Q : Option Value → Shared → Prop} (X : K.In s.heap) (I : InstAt s.heap x ox C od) (ho : subIn K (.ref C) (.type "object") = some true) (he : findIn K (.ref C) "__eq__" = some (some (.builtin "object.__eq__"))) (h : Q none s) :
    wpAny (model prog w) A (tryCompare (.ref x) "__eq__" (.str k t)) Q E s := by
  unfold tryCompare
  exact wpAny_bind (ifBound_slot X I he F.cmp_object.eq (call_eq_str X I ho (wpAny_pure h)))
theorem try_str {M : Model} {name : Str} {id : String} {y : Value} {Q : Option Value → Shared → Prop} (S : Slot "str" name id) (hc : wpAny M A (call (.builtin id) [.str k t, y]) (fun v s' => v = .notImplemented ∧ Q none s') E s) :
    wpAny M A (tryCompare (.str k t) name y) Q E s := by
  unfold tryCompare
  simp only [callSpecialIfBound?, bindSpecialIfBound?]
  refine wpAny_bind (wpAny_holding (wpAny_bind (wpAny_bind ?_)))
  unfold specialOf
  refine wpAny_bind (Looks.here (Looks.of_pure rfl) ?_)
  rw [S.lookup]
  refine wpAny_pure ?_
  simp only [S.bind]
  refine wpAny_bind (wpAny_askSetting (wpAny_ite ?_))
  have fin : wpAny M A (call (.builtin id) ([.str k t] ++ [y]) >>= fun v => pure (some v)) (fun r s' => wpAny M A (match r with | some .notImplemented | none => pure none | some v => pure (some v)) Q E s') E s := wpAny_bind (wpAny_mono hc (fun v s' h' => by obtain ⟨rfl, h'⟩ := h'; exact wpAny_pure (wpAny_pure h')) fun _ _ h' => h')
  split
  · exact wpAny_bind (wpAny_pure (wpAny_pure fin))
  · exact wpAny_tryCatch (wpAny_bind (wpAny_pure (wpAny_pure fin)))
theorem ne_inst_str {Q : Value → Shared → Prop} (hu : A.units < cLine) (hu1 : A.in1.units < cLine) (X : K.In s.heap) (I : InstAt s.heap x ⟨.ref C, some dx, .plain, sl⟩ C od) (ho : subIn K (.ref C) (.type "object") = some true) (hr : subIn K (.type "str") (.ref C) = some false)
    (he : findIn K (.ref C) "__eq__" = some (some (.builtin "object.__eq__"))) (hn : findIn K (.ref C) "__ne__" = some (some (.builtin "object.__ne__"))) (h : Q (.bool true) s) :
    wpAny (model prog w) A (compareOp .NotEq (.ref x) (.str k t)) Q E s := by
  refine cmp_ofNotEq ?_
  unfold richCompare
  simp only [oneThing_ref, cmpInfo_NotEq]
  refine wpAny_holding (wpAny_bind (wpAny_cRoomFor hu ?_))
  refine wpAny_bind (I.type.here (wpAny_bind ((Looks.of_pure rfl : Looks _ _ (typeOf (.str k t)) (.type "str")).here ?_)))
  rw [if_pos (by rfl)]
  refine wpAny_bind ((looks_subIn X hr).here ?_)
  simp only [Bool.false_eq_true, if_false]
  refine wpAny_bind (try_ne_str hu1 X I ho he hn ?_)
  refine wpAny_bind (try_str F.slot_str_ne_refl (call_meets F.slot_str_ne_refl (typeIs_str s k t) F.entry_str_ne (F.args_str_ne_2 _ _) (str_ne_declines_inst k t x _ _ _) ⟨I.at_, rfl, ?_⟩))
  repeat (first | wp_step)
  exact h
theorem eq_inst_str {Q : Value → Shared → Prop} (hu : A.units < cLine) (X : K.In s.heap) (I : InstAt s.heap x ⟨.ref C, some dx, .plain, sl⟩ C od) (ho : subIn K (.ref C) (.type "object") = some true) (hr : subIn K (.type "str") (.ref C) = some false)
    (he : findIn K (.ref C) "__eq__" = some (some (.builtin "object.__eq__"))) (h : Q (.bool false) s) :
    wpAny (model prog w) A (compareOp .Eq (.ref x) (.str k t)) Q E s := by
  refine cmp_ofEq ?_
  unfold richCompare
  simp only [oneThing_ref, cmpInfo_Eq]
  refine wpAny_holding (wpAny_bind (wpAny_cRoomFor hu ?_))
  refine wpAny_bind (I.type.here (wpAny_bind ((Looks.of_pure rfl : Looks _ _ (typeOf (.str k t)) (.type "str")).here ?_)))
  rw [if_pos (by rfl)]
  refine wpAny_bind ((looks_subIn X hr).here ?_)
  simp only [Bool.false_eq_true, if_false]
  refine wpAny_bind (try_eq_str X I ho he ?_)
  refine wpAny_bind (try_str F.slot_str_eq_refl (call_meets F.slot_str_eq_refl (typeIs_str s k t) F.entry_str_eq (F.args_str_eq_2 _ _) (str_eq_declines_inst k t x _ _ _) ⟨I.at_, rfl, ?_⟩))
  repeat (first | wp_step)
  exact h
end
end
section
set_option maxRecDepth 100000
set_option maxHeartbeats 8000000
section
variable {K : Type} [DecidableEq K]
theorem valueAt_map {k x : K} {v : Value} : ∀ {kvs : List (K × Value)}, valueAt (kvs.map fun kv => if kv.1 = k then (kv.1, v) else kv) x = if x = k then (valueAt kvs k).map (fun _ => v) else valueAt kvs x
  | [] => by by_cases h : x = k <;> simp [valueAt, h]
  | (k', v') :: r => by
    have ih := valueAt_map (k := k) (x := x) (v := v) (kvs := r)
    rw [List.map_cons, valueAt_cons, valueAt_cons]
    by_cases h : k' = k
    · subst h
      simp only [if_true]
      rw [valueAt_cons]
      by_cases h2 : k' = x
      · subst h2; simp
      · rw [if_neg h2, ih, if_neg fun q => h2 q.symm, if_neg fun q => h2 q.symm, if_neg h2]
    · simp only [if_neg h]
      rw [valueAt_cons]
      by_cases h2 : k' = x
      · subst h2; simp [h]
      · rw [if_neg h2, ih, if_neg h2]
theorem valueAt_append {x : K} {b : List (K × Value)} : ∀ {a : List (K × Value)}, valueAt (a ++ b) x = (valueAt a x).or (valueAt b x)
  | [] => by simp [valueAt]
  | (k', v') :: r => by
    rw [List.cons_append, valueAt_cons, valueAt_cons]
    by_cases h : k' = x
    · simp [h]
    · rw [if_neg h, if_neg h, valueAt_append]
theorem valueAt_none_of {k : K} : ∀ {kvs : List (K × Value)}, k ∉ kvs.map (·.1) → valueAt kvs k = none
  | [], _ => rfl
  | (k', v') :: r, h => by
    rw [valueAt_cons, if_neg fun q => h (by simp [q])]
    exact valueAt_none_of fun q => h (by simp only [List.map_cons, List.mem_cons]; exact .inr q)
theorem any_key {k : K} {kvs : List (K × Value)} : kvs.any (fun kv => decide (kv.1 = k)) = true ↔ k ∈ kvs.map (·.1) := by
  rw [List.any_eq_true]
  constructor
  · rintro ⟨x, hx, h⟩; exact List.mem_map.mpr ⟨x, hx, of_decide_eq_true h⟩
  · intro h; obtain ⟨x, hx, e⟩ := List.mem_map.mp h; exact ⟨x, hx, decide_eq_true e⟩
theorem valueAt_stored {k x : K} {v : Value} {kvs : List (K × Value)} : valueAt (stored kvs k v) x = if x = k then some v else valueAt kvs x := by
  unfold stored
  by_cases h : k ∈ kvs.map (·.1)
  · rw [if_pos (any_key.mpr h), valueAt_map]
    obtain ⟨u, hu⟩ := valueAt_some h
    rw [hu]; rfl
  · rw [if_neg fun q => h (any_key.mp q), valueAt_append]
    by_cases e : x = k
    · subst e
      rw [valueAt_none_of h, if_pos rfl]
      simp [valueAt]
    · rw [if_neg e]
      have : valueAt [(k, v)] x = none := by rw [valueAt_cons, if_neg fun q => e q.symm]; rfl
      rw [this]; simp
theorem stored_keys {k : K} {v : Value} {kvs : List (K × Value)} : (stored kvs k v).map (·.1) = if k ∈ kvs.map (·.1) then kvs.map (·.1) else kvs.map (·.1) ++ [k] := by
  unfold stored
  by_cases h : k ∈ kvs.map (·.1)
  · rw [if_pos (any_key.mpr h), if_pos h, List.map_map]
    refine List.map_congr_left fun p _ => ?_
    by_cases e : p.1 = k <;> simp [e]
  · rw [if_neg fun q => h (any_key.mp q), if_neg h]; simp
theorem stored_le {k : K} {v : Value} {kvs : List (K × Value)} {n : Nat} (h : kvs.length ≤ n) : (stored kvs k v).length ≤ n + 1 := Nat.le_trans (stored_length_le ..) (om48 h)
end
variable {w : World} {S : Lay} {d : Pl} {U : List (Addr × Obj)}
noncomputable def Pl.set (d : Pl) (k : Str) (o : Option Cell) : Pl := { d with vr := fun x => if x = k then some o else d.vr x }
theorem StAt.store {news : List (Addr × Obj)} {H : Hid} {k : Str} {v : Value} {o : Option Cell} {o' : Obj} (A : StAt w S d U news H) (hk : k ∈ names6) (hv : IsL v o) (ho : ∀ c, o = some c → c ∈ d.hs) (hd : o'.IsDictOf (PySem.strKind PySem.Challenge.rw_sa0599_01.row.prog w) (stored H.kvs k v)) :
    StAt w S (d.set k o) U (setAt S.st o' news) { H with so := o', kvs := stored H.kvs k v } := by
  have kp : ∀ {a : Addr} {ob : Obj} {n : Nat}, (a, ob) ∈ news → H.ρ a = n → n ≠ 3 → (a, ob) ∈ setAt S.st o' news := fun h1 h2 h3 => mem_setAt_ne h1 (ne_ρ h2 A.rst h3)
  exact { A with
      iw := kp A.iw A.raw (by decide), dw := kp A.dw A.rdw (by decide), st := mem_setAt_eq A.st, hl := kp A.hl A.rhl (by decide), fl := kp A.fl A.rfl' (by decide), wl := kp A.wl A.rwl (by decide), ac := kp A.ac A.rac (by decide)
      own := fun p hp => kp (A.own p hp) (A.rU p hp) (by decide)
      cells := fun c' hc' => by
        obtain ⟨k', mtk', ve', u1, u2, u3⟩ := A.cells c' hc'
        exact ⟨k', mtk', ve', kp u1 (A.ra _ hc') (by decide), kp u2 (A.rd _ hc') (by decide), kp u3 (A.rv _ hc') (by decide)⟩
      so := hd
      knd := by
        show ((stored H.kvs k v).map (·.1)).Nodup
        rw [stored_keys]
        by_cases h : k ∈ H.kvs.map (·.1)
        · rw [if_pos h]; exact A.knd
        · rw [if_neg h]; exact List.nodup_append.mpr ⟨A.knd, by simp, fun a ha b hb => by rw [List.mem_singleton.mp hb]; intro q; exact h (q ▸ ha)⟩
      ksub := by
        intro x hx
        have hx' : x ∈ (stored H.kvs k v).map (·.1) := hx
        rw [stored_keys] at hx'
        by_cases h : k ∈ H.kvs.map (·.1)
        · rw [if_pos h] at hx'; exact A.ksub x hx'
        · rw [if_neg h] at hx'
          rcases List.mem_append.mp hx' with h | h
          · exact A.ksub x h
          · rw [List.mem_singleton.mp h]; exact hk
      vars := fun x => by
        show match (if x = k then some o else d.vr x) with | none => valueAt (stored H.kvs k v) x = none | some o => ∃ u, valueAt (stored H.kvs k v) x = some u ∧ IsL u o
        rw [valueAt_stored]
        by_cases e : x = k
        · rw [if_pos e, if_pos e]; exact ⟨v, rfl, hv⟩
        · rw [if_neg e, if_neg e]; exact A.vars x
      vin := fun x c h => by
        have h' : (if x = k then some o else d.vr x) = some (some c) := h
        by_cases e : x = k
        · rw [if_pos e] at h'; injection h' with h'; exact ho c h'
        · rw [if_neg e] at h'; exact A.vin x c h' }
end
local macro_rules | `(tactic| walk_at "setItem ref str") => `(tactic| (k_here; k_dflt (refine' dict_set_S (knd := PySem.strKind _ _) ?F ?N ?m ?d (strKind_is _ _ _ _) ?z ?_; (case F | N => k_asm); (case m => k_mem); (case d => k_asm); (case z => (refine Nat.lt_of_le_of_lt (m := 50000) ?_ (by decide); (repeat refine stored_le ?_); omega))); intro h' o' F' N' hd'; (try k_sweep)))
local macro_rules | `(tactic| walk_at "compareOp NotEq ref str") => `(tactic| (k_here; k_dflt (refine' ne_inst_str ?k1 ?k2 ?k3 ?k4 ?k5 ?k6 ?k7 ?k8 ?_; (case k1 | k2 => k_units); (case k3 => k_in); (case k4 => k_inst); (case k5 | k6 | k7 | k8 => k_is); k_whole)))
local macro_rules | `(tactic| walk_at "compareOp Eq ref str") => `(tactic| (k_here; k_dflt (refine' eq_inst_str ?k1 ?k3 ?k4 ?k5 ?k6 ?k7 ?_; (case k1 => k_units); (case k3 => k_in); (case k4 => k_inst); (case k5 | k6 | k7 => k_is); k_whole)))
section
set_option maxRecDepth 100000
set_option maxHeartbeats 8000000
variable {w : World} {S : Lay} {d : Pl} {U : List (Addr × Obj)}
/-- the chain of cells from a variable's thing -/
noncomputable def Chain (lk : Cell → Option Cell) : Option Cell → List Cell → Prop
  | o, [] => o = none
  | o, c :: r => o = some c ∧ Chain lk (lk c) r
end
section
set_option maxRecDepth 100000
set_option maxHeartbeats 8000000
variable {w : World} {S : Lay} {d : Pl} {U : List (Addr × Obj)}
theorem Chain.congr {lk lk' : Cell → Option Cell} : ∀ {xs : List Cell} {o : Option Cell}, Chain lk o xs → (∀ c ∈ xs, lk' c = lk c) → Chain lk' o xs
  | [], _, h, _ => h
  | c :: r, _, ⟨h1, h2⟩, h => ⟨h1, by rw [h c (.head _)]; exact Chain.congr h2 fun x hx => h x (.tail _ hx)⟩
theorem Chain.rch : ∀ {xs : List Cell} {o : Option Cell}, Chain d.lk o xs → (∀ x, o = some x → Rch d x) → ∀ c ∈ xs, Rch d c
  | [], _, _, _, _, h => nomatch h
  | c :: r, _, ⟨h1, h2⟩, h, x, hx => by
    rcases List.mem_cons.mp hx with rfl | hx
    · exact h _ h1
    · exact Chain.rch h2 (fun y hy => (h c h1).step hy) x hx
theorem vr_set {k x : Str} {o : Option Cell} : (d.set k o).vr x = if x = k then some o else d.vr x := rfl
theorem vr_led {c : Cell} {o : Option Cell} {x : Str} : (d.led c o).vr x = d.vr x := rfl
theorem vr_atT {t : Int} {x : Str} : (d.atT t).vr x = d.vr x := rfl
theorem vr_only {hs : List Cell} {x : Str} : (d.only hs).vr x = d.vr x := rfl
theorem Pl.set_ne {k x : Str} {o : Option Cell} (h : x ≠ k) : (d.set k o).vr x = d.vr x := if_neg h
theorem Pl.set_eq {k : Str} {o : Option Cell} : (d.set k o).vr k = some o := if_pos rfl
structure Turned (d : Pl) (xs : List Cell) (d' : Pl) (b : Value) : Prop where
  b : b = .bool true
  hs : d'.hs = d.hs
  vl : d'.vl = d.vl
  made : d'.made = d.made
  t1 : d.t ≤ d'.t
  t2 : d'.t ≤ d.t + xs.length
  ch : ∃ o, d'.vr (Str.ofString "C") = some o ∧ Chain d'.lk o xs.reverse
  vt : d'.vr (Str.ofString "T") = some none
  vn : d'.vr (Str.ofString "N") = some none ∨ d'.vr (Str.ofString "N") = d.vr (Str.ofString "N")
  vo : ∀ k, k ≠ Str.ofString "C" → k ≠ Str.ofString "T" → k ≠ Str.ofString "N" → d'.vr k = d.vr k
structure TIn (w : World) (S : Lay) (d : Pl) (U : List (Addr × Obj)) (xs : List Cell) (n : Nat) (nx : List (Addr × Obj)) (done todo : List Cell) (d' : Pl) : Prop where
  eq : xs = done ++ todo
  n : n = todo.length
  st : St w S d' U nx
  hs : d'.hs = d.hs
  vl : d'.vl = d.vl
  made : d'.made = d.made
  t1 : d.t ≤ d'.t
  t2 : d'.t ≤ d.t + done.length
  cc : ∃ o, d'.vr (Str.ofString "C") = some o ∧ Chain d'.lk o todo
  ct : ∃ o, d'.vr (Str.ofString "T") = some o ∧ Chain d'.lk o done.reverse
  vn : d'.vr (Str.ofString "N") = some none ∨ d'.vr (Str.ofString "N") = d.vr (Str.ofString "N")
  vo : ∀ k, k ≠ Str.ofString "C" → k ≠ Str.ofString "T" → k ≠ Str.ofString "N" → d'.vr k = d.vr k
theorem turned {xs : List Cell} {o₀ : Option Cell} (ok : LayOk S) (ht : d.t + 10 < 900) (hC : d.vr (Str.ofString "C") = some o₀) (hch : Chain d.lk o₀ xs) (hnd : xs.Nodup) (hsub : ∀ c ∈ xs, c ∈ d.hs) (hall : ∀ c ∈ d.hs, c ∈ xs) (hlen : xs.length ≤ 10) :
    Con w 100 1000 514 [.ref S.aw, .ref S.wl] (fun news => St w S d U news) (fun _ r news' => ∃ d', Turned d xs d' r ∧ St w S d' U news') := by
  unfold Con
  k_fill
  intro p loose mean mg mb dp un gd cn cs a ccd cl outer A₀ base h₀ L m news s Q E B F X N T hk hd hu hpre hret
  refine byC fun nG => ?_
  obtain ⟨H, A⟩ := hpre
  refine nG ?_
  have m1 := A.iw
  have m2 := A.dw
  have m3 := A.st
  have hkl := A.klen
  have hso := A.so
  have gst := A.gst
  refine wpAny_call ?_
  k_dflt ktr_enter
  k_steps
  unfold Hold
  try k_fold
  refine while_one (n₀ := xs.length) (Str.ofString "is_whole") (fun n u nx => u = some (.bool true) ∧ ∃ done todo d', TIn w S d U xs n nx done todo d') (by k_asm) (by k_asm) ?_ ?_ (by passes_own)
  · rename Obj.IsDictOf _ _ (stored H.kvs (Str.ofString "T") _) => hd1
    have B1 := A.store (by decide) (o := none) ⟨_, rfl⟩ (by intro c h; cases h) hd1
    refine ⟨rfl, [], xs, d.set (Str.ofString "T") none, { eq := rfl, n := rfl, st := St.mono ⟨_, B1⟩ (setAt_sub fun p hp => .tail _ hp), hs := rfl, vl := rfl, made := rfl, t1 := Int.le_refl _, t2 := by simp [Pl.set], cc := ⟨o₀, hC, hch⟩, ct := ⟨none, rfl, rfl⟩, vn := .inr rfl, vo := fun k h1 h2 h3 => if_neg h2 }⟩
  · rintro n u nx h₁ tk₁ F₁ N₁ pP0
    refine byC fun nG => ?_
    obtain ⟨rfl, done, todo, d₁, J⟩ := pP0
    obtain ⟨H₁, A₁⟩ := J.st
    have m3 := A₁.st
    have hso := A₁.so
    have hkl := A₁.klen
    obtain ⟨o, hvC, hcc⟩ := J.cc
    obtain ⟨v, hv, hvo⟩ := A₁.var hvC
    obtain ⟨o', hvT, hct⟩ := J.ct
    obtain ⟨v', hv', hvo'⟩ := A₁.var hvT
    refine nG ?_
    cases todo with
    | nil =>
      refine byC fun nG => ?_
      obtain rfl := hcc
      obtain ⟨t, rfl⟩ := hvo
      refine nG ?_
      k_steps
      rename Obj.IsDictOf _ _ (stored (stored H₁.kvs _ _) _ _) => hz2
      rename Obj.IsDictOf _ _ (stored H₁.kvs _ _) => hz1
      have B1 := A₁.store (by decide) hvo' (fun x hx => A₁.vin _ x (hvT.trans (congrArg some hx))) hz1
      have B2 := B1.store (by decide) (o := none) ⟨_, rfl⟩ (by intro x h; cases h) hz2
      have hdx : xs = done := by rw [J.eq]; simp
      refine hret _ _ _ _ (by k_asm) (by k_asm) ⟨(d₁.set (Str.ofString "C") o').set (Str.ofString "T") none, { b := rfl, hs := J.hs, vl := J.vl, made := J.made, t1 := J.t1, t2 := by rw [hdx]; exact J.t2, ch := ⟨o', by (repeat refine (Pl.set_ne (by decide)).trans ?_); (first | exact Pl.set_eq | rfl | skip), by rw [hdx]; exact hct⟩, vt := Pl.set_eq, vn := ?_, vo := ?_ }, St.mono ⟨_, B2⟩ (setAt_sub (setAt_sub fun p hp => .tail _ hp))⟩
      · rcases J.vn with h | h
        · exact .inl (by (repeat refine (Pl.set_ne (by decide)).trans ?_); (first | exact Pl.set_eq | rfl | skip); exact h)
        · exact .inr (by (repeat refine (Pl.set_ne (by decide)).trans ?_); (first | exact Pl.set_eq | rfl | skip); exact h)
      · intro k h1 h2 h3
        simp only [vr_set, if_neg h1, if_neg h2]
        exact J.vo k h1 h2 h3
    | cons c r =>
      refine byC fun nG => ?_
      obtain ⟨rfl, hcc⟩ := hcc
      obtain rfl := hvo
      have hc : c ∈ d₁.hs := A₁.vin _ _ hvC
      obtain ⟨kk, mtk, ve, q1, q2, q3⟩ := A₁.cells c hc
      refine nG ?_
      k_steps
      unfold Hold
      try k_fold
      refine' con_useS (held_link (U := U) ok hvC) ?B ?F ?X ?N ?T ?hk ?hd ?hu ?pp ?_
      walk_at "use con"
      case pp => exact J.st
      rintro r2 h2 tk2 nx2 F₂ N₂ pP0
      refine byC fun nG => ?_
      obtain ⟨hr2, rfl⟩ := pP0
      refine nG ?_
      k_steps
      rename Obj.IsDictOf _ _ (stored H₁.kvs (Str.ofString "N") _) => hd2
      have A₂ := A₁.store (by decide) hr2 (A₁.lkin c hc) hd2
      unfold Hold
      try k_fold
      refine' con_useS (led_st (U := U) (d := d₁.set (Str.ofString "N") (d₁.lk c)) (c := c) (o := o') ok (by rw [Pl.set_ne (by decide)]; exact hvC) (by rw [Pl.set_ne (by decide)]; exact hvT)) ?B ?F ?X ?N ?T ?hk ?hd ?hu ?pp ?_
      walk_at "use con"
      case pp => exact ⟨_, A₂⟩
      rintro r3 h3 tk3 nx3 F₃ N₃ pP0
      refine byC fun nG => ?_
      obtain ⟨rfl, S₃⟩ := pP0
      refine nG ?_
      k_steps
      unfold Hold
      have hnd' := hnd
      rw [J.eq] at hnd'
      have hhs : ∀ x ∈ done ++ c :: r, x ∈ d₁.hs := fun x hx => by rw [J.hs]; exact hsub x (by rw [J.eq]; exact hx)
      have hoff : ∀ x ∈ done ++ r, x.a ≠ c.a := fun x hx e => by
        have hx' : x ∈ done ++ c :: r := (List.mem_append.mp hx).elim (fun h => List.mem_append_left _ h) fun h => List.mem_append_right _ (.tail _ h)
        obtain rfl := A₁.aa x (hhs x hx') c hc e
        have h1 := List.nodup_append.mp hnd'
        rcases List.mem_append.mp hx with h | h
        · exact h1.2.2 x h x (.head _) rfl
        · exact (List.nodup_cons.mp h1.2.1).1 h
      have ch1 : Chain (upd d₁.lk c o') (d₁.lk c) r := hcc.congr fun x hx => if_neg (hoff x (List.mem_append_right _ hx))
      have ch2 : Chain (upd d₁.lk c o') o' done.reverse := hct.congr fun x hx => if_neg (hoff x (List.mem_append_left _ (List.mem_reverse.mp hx)))
      have full : Full ((d₁.set (Str.ofString "N") (d₁.lk c)).led c o') := fun x hx => by
        have hx1 : x ∈ done ++ c :: r := by
          have := hall x (by rw [← J.hs]; exact hx)
          rwa [J.eq] at this
        have rc : Rch ((d₁.set (Str.ofString "N") (d₁.lk c)).led c o') c := Rch.root (k := Str.ofString "C") (by exact vr_led.trans ((Pl.set_ne (by decide)).trans hvC))
        rcases List.mem_append.mp hx1 with h | h
        · exact Chain.rch (d := (d₁.set (Str.ofString "N") (d₁.lk c)).led c o') (o := o') ch2 (fun y hy => Rch.root (k := Str.ofString "T") (by exact vr_led.trans ((Pl.set_ne (by decide)).trans (hvT.trans (congrArg some hy))))) x (List.mem_reverse.mpr h)
        · rcases List.mem_cons.mp h with rfl | h
          · exact rc
          · exact Chain.rch (d := (d₁.set (Str.ofString "N") (d₁.lk c)).led c o') (o := d₁.lk c) ch1 (fun y hy => Rch.root (k := Str.ofString "N") (by rw [vr_led, vr_set, if_pos rfl, hy])) x h
      have hlx : xs.length = done.length + (r.length + 1) := by rw [J.eq]; simp
      have jt1 := J.t1
      have jt2 := J.t2
      have jn := J.n
      try k_fold
      refine' con_useS (swept_st (U := U) (d := (d₁.set (Str.ofString "N") (d₁.lk c)).led c o') ok ?ht full) ?B ?F ?X ?N ?T ?hk ?hd ?hu ?pp ?_
      case ht => show d₁.t < 1000; exact om49 ht hlen hlx jt2
      walk_at "use con"
      case pp => exact S₃
      rintro r4 h4 tk4 nx4 F₄ N₄ pP0
      refine byC fun nG => ?_
      obtain ⟨t4, rfl, t41, t42, H₄, A₄⟩ := pP0
      refine nG ?_
      have m3 := A₄.st
      have hso := A₄.so
      have hkl := A₄.klen
      have e4 : (((d₁.set (Str.ofString "N") (d₁.lk c)).led c o').atT t4).vr (Str.ofString "C") = some (some c) := by exact vr_atT.trans (vr_led.trans ((Pl.set_ne (by decide)).trans hvC))
      have e5 : (((d₁.set (Str.ofString "N") (d₁.lk c)).led c o').atT t4).vr (Str.ofString "N") = some (d₁.lk c) := by rw [vr_atT, vr_led, vr_set, if_pos rfl]
      refine byC fun nG => ?_
      obtain ⟨v4, hv4, hvo4⟩ := A₄.var e4
      obtain ⟨v5, hv5, hvo5⟩ := A₄.var e5
      refine nG ?_
      k_steps
      rename Obj.IsDictOf _ _ (stored (stored (stored H₄.kvs _ _) _ _) _ _) => hz3
      rename Obj.IsDictOf _ _ (stored (stored H₄.kvs _ _) _ _) => hz2
      rename Obj.IsDictOf _ _ (stored H₄.kvs _ _) => hz1
      have B1 := A₄.store (by decide) hvo4 (fun x hx => by injection hx with hx; exact hx ▸ hc) hz1
      have B2 := B1.store (by decide) hvo5 (fun x hx => A₁.lkin c hc x hx) hz2
      have B3 := B2.store (by decide) (o := none) ⟨_, rfl⟩ (by intro x h; cases h) hz3
      refine wpost_next (WEnd.intro (n' := r.length) (by k_asm) (by k_asm) (fun y hy => by simp only [if_neg hy]) (by simp at jn; exact om50 jn) ⟨rfl, done ++ [c], r, _, { eq := by rw [J.eq]; simp, n := rfl, st := St.mono ⟨_, B3⟩ (setAt_sub (setAt_sub (setAt_sub fun p hp => .tail _ hp))), hs := J.hs, vl := J.vl, made := J.made, t1 := ?_, t2 := ?_, cc := ?_, ct := ?_, vn := ?_, vo := ?_ }⟩)
      · show d.t ≤ t4
        have : d₁.t ≤ t4 := t41
        exact om51 hlen hlx jt1 jt2 this
      · show t4 ≤ d.t + ((done ++ [c]).length : Nat)
        have : t4 ≤ d₁.t + 1 := t42
        simp; exact om52 jt2 this
      · exact ⟨d₁.lk c, by (repeat refine (Pl.set_ne (by decide)).trans ?_); (first | exact Pl.set_eq | rfl | skip), ch1⟩
      · refine ⟨some c, by (repeat refine (Pl.set_ne (by decide)).trans ?_); (first | exact Pl.set_eq | rfl | skip), ?_⟩
        rw [List.reverse_append]
        exact ⟨rfl, by show Chain (upd d₁.lk c o') (if c.a = c.a then o' else d₁.lk c) done.reverse; rw [if_pos rfl]; exact ch2⟩
      · exact .inl Pl.set_eq
      · intro k h1 h2 h3
        simp only [vr_set, vr_atT, vr_led, if_neg h1, if_neg h2, if_neg h3]
        exact J.vo k h1 h2 h3
end
section
set_option maxRecDepth 100000
set_option maxHeartbeats 8000000
variable {w : World} {S : Lay} {d : Pl} {U : List (Addr × Obj)}
section
variable {prog : Program} {A : Around} {E : Value → Shared → Prop} {Q : Flow → Shared → Prop} {s : Shared} {env : Env} {h₀ : Heap} {L : Addr}
noncomputable def XEnd (h₀ : Heap) (L : Addr) (s : Shared) (x : Str) (m₀ : Str → Option Value) (X : Option Value → List (Addr × Obj) → Prop) (s₃ : Shared) : Prop :=
  ∃ h' tk m' news', s₃ = { s with heap := h', toks := tk } ∧ Fr h₀ L h' m' ∧ News h₀ L h' news' ∧ (∀ y, y ≠ x → m' y = m₀ y) ∧ X (m' x) news'
theorem XEnd.intro {x : Str} {m₀ m' : Str → Option Value} {X : Option Value → List (Addr × Obj) → Prop} {h' : Heap} {tk : Nat} {news' : List (Addr × Obj)} (F : Fr h₀ L h' m') (N : News h₀ L h' news') (hm : ∀ y, y ≠ x → m' y = m₀ y) (hx : X (m' x) news') :
    XEnd h₀ L s x m₀ X { s with heap := h', toks := tk } := ⟨h', tk, m', news', rfl, F, N, hm, hx⟩
theorem while_ex {test : Expr} {body : List Stmt} {pos : Pos} {m₀ : Str → Option Value} {news : List (Addr × Obj)} (x : Str) (J : Nat → Option Value → List (Addr × Obj) → Prop) (X : Option Value → List (Addr × Obj) → Prop) {n₀ : Nat}
    (F : Fr h₀ L s.heap m₀) (N : News h₀ L s.heap news) (hJ : J n₀ (m₀ x) news)
    (turn : ∀ n u nx h₁ tk₁, Fr h₀ L h₁ (fun y => if y = x then u else m₀ y) → News h₀ L h₁ nx → J n u nx →
      wpAny (model prog w) A (isTrue test env (eval test env)) (fun b s₂ =>
        if b = true then wpAny (model prog w) A (execs body env) (WPost h₀ L s x m₀ J Q n) E s₂ else XEnd h₀ L s x m₀ X s₂) E { s with heap := h₁, toks := tk₁ })
    (exit : ∀ u nx h tk, Fr h₀ L h (fun y => if y = x then u else m₀ y) → News h₀ L h nx → X u nx → Q .next { s with heap := h, toks := tk })
    (hE : PassesOwn (model prog w) A env E) :
    wpAny (model prog w) A (exec (.While test body [] pos) env) Q E s := by
  try k_fold
  refine while_one x J F N hJ (fun n u nx h₁ tk₁ F₁ N₁ hj => wpAny_mono (turn n u nx h₁ tk₁ F₁ N₁ hj) (fun b s₂ p => ?_) fun _ _ e => e) hE
  cases b with
  | true => simpa using p
  | false =>
    simp only [Bool.false_eq_true, if_false] at p ⊢
    refine byC fun nG => ?_
    obtain ⟨h', tk', m', news', rfl, F', N', hm, hx⟩ := p
    refine nG ?_
    refine exit (m' x) news' h' tk' ?_ N' hx
    have : (fun y => if y = x then m' x else m₀ y) = m' := by
      funext y
      by_cases hy : y = x
      · subst hy; simp
      · simp only [if_neg hy]; exact (hm y hy).symm
    rw [this]; exact F'
end
noncomputable def ins (vi : Cell → Int) (ys : List Cell) (c : Cell) : List Cell := (ys.takeWhile fun y => decide (vi y ≤ vi c)) ++ c :: (ys.dropWhile fun y => decide (vi y ≤ vi c))
theorem ins_split {vi : Cell → Int} {c : Cell} : ∀ {pre suf : List Cell}, (∀ y ∈ pre, vi y ≤ vi c) → (∀ y r, suf = y :: r → ¬ vi y ≤ vi c) → ins vi (pre ++ suf) c = pre ++ c :: suf
  | [], [], _, _ => rfl
  | [], y :: r, _, h => by
    have := h y r rfl
    unfold ins
    simp [this]
  | y :: pre, suf, h1, h2 => by
    have ih := ins_split (pre := pre) (suf := suf) (fun z hz => h1 z (.tail _ hz)) h2
    have hy := h1 y (.head _)
    unfold ins at ih ⊢
    rw [List.cons_append, List.takeWhile_cons, List.dropWhile_cons]
    simp only [hy, decide_true, if_true, List.cons_append, ih]
theorem ins_perm {vi : Cell → Int} {ys : List Cell} {c : Cell} : (ins vi ys c).Perm (c :: ys) := by
  unfold ins
  refine List.perm_middle.trans ?_
  rw [List.takeWhile_append_dropWhile]
theorem Chain.append {lk : Cell → Option Cell} : ∀ {pre : List Cell} {p : Cell} {suf : List Cell} {o : Option Cell}, Chain lk o (pre ++ p :: suf) → Chain lk (lk p) suf
  | [], _, _, _, h => h.2
  | _ :: r, _, _, _, h => Chain.append (pre := r) h.2
theorem Chain.join {lk : Cell → Option Cell} {suf suf' : List Cell} {p : Cell} : ∀ {pre : List Cell} {o : Option Cell}, Chain lk o (pre ++ p :: suf) → Chain lk (lk p) suf' → Chain lk o (pre ++ p :: suf')
  | [], _, h, h' => ⟨h.1, h'⟩
  | _ :: _, _, h, h' => ⟨h.1, Chain.join h.2 h'⟩
/-- up to a cell, where all behind it is given anew -/
theorem Chain.relink {lk lk' : Cell → Option Cell} {suf suf' : List Cell} {p : Cell} : ∀ {pre : List Cell} {o : Option Cell}, Chain lk o (pre ++ p :: suf) → (∀ x ∈ pre, lk' x = lk x) → Chain lk' (lk' p) suf' → Chain lk' o (pre ++ p :: suf')
  | [], _, h, _, h' => ⟨h.1, h'⟩
  | x :: r, _, h, he, h' => ⟨h.1, by rw [he x (.head _)]; exact Chain.relink h.2 (fun y hy => he y (.tail _ hy)) h'⟩
structure Ranged (d : Pl) (vi : Cell → Int) (xs : List Cell) (d' : Pl) (b : Value) : Prop where
  b : b = .bool true
  hs : d'.hs = d.hs
  vl : d'.vl = d.vl
  made : d'.made = d.made
  t1 : d.t ≤ d'.t
  t2 : d'.t ≤ d.t + xs.length
  ch : ∃ o, d'.vr (Str.ofString "C") = some o ∧ Chain d'.lk o (xs.foldl (ins vi) [])
  vt : d'.vr (Str.ofString "T") = some none
  vh : d'.vr (Str.ofString "H") = some none
  vs : d'.vr (Str.ofString "S") = some none
  vn : d'.vr (Str.ofString "N") = some none ∨ d'.vr (Str.ofString "N") = d.vr (Str.ofString "N")
  vo : d'.vr (Str.ofString "D") = d.vr (Str.ofString "D")
structure RIn (w : World) (S : Lay) (d : Pl) (U : List (Addr × Obj)) (vi : Cell → Int) (xs : List Cell) (n : Nat) (nx : List (Addr × Obj)) (done todo : List Cell) (d' : Pl) : Prop where
  eq : xs = done ++ todo
  n : n = todo.length
  st : St w S d' U nx
  hs : d'.hs = d.hs
  vl : d'.vl = d.vl
  made : d'.made = d.made
  t1 : d.t ≤ d'.t
  t2 : d'.t ≤ d.t + done.length
  cc : ∃ o, d'.vr (Str.ofString "C") = some o ∧ Chain d'.lk o todo
  cs : ∃ o, d'.vr (Str.ofString "S") = some o ∧ Chain d'.lk o (done.foldl (ins vi) [])
  vn : d'.vr (Str.ofString "N") = some none ∨ d'.vr (Str.ofString "N") = d.vr (Str.ofString "N")
  vo : d'.vr (Str.ofString "D") = d.vr (Str.ofString "D")
structure IIn (w : World) (S : Lay) (d : Pl) (U : List (Addr × Obj)) (vi : Cell → Int) (ys : List Cell) (c : Cell) (n : Nat) (nx : List (Addr × Obj)) (pre suf : List Cell) (d' : Pl) : Prop where
  eq : ys = pre ++ suf
  n : n = suf.length
  st : St w S d' U nx
  hs : d'.hs = d.hs
  vl : d'.vl = d.vl
  lk : d'.lk = d.lk
  t : d'.t = d.t
  made : d'.made = d.made
  ch : ∃ o, d'.vr (Str.ofString "H") = some o ∧ Chain d'.lk o suf
  ct : d'.vr (Str.ofString "T") = some pre.getLast?
  le : ∀ y ∈ pre, vi y ≤ vi c
  vo : ∀ k, k ≠ Str.ofString "T" → k ≠ Str.ofString "H" → d'.vr k = d.vr k
theorem fold_perm {vi : Cell → Int} : ∀ (xs : List Cell) (acc : List Cell), (xs.foldl (ins vi) acc).Perm (acc ++ xs)
  | [], acc => by simp
  | x :: r, acc => by
    rw [List.foldl_cons]
    refine (fold_perm r _).trans ?_
    refine (List.Perm.append_right r ins_perm).trans ?_
    exact List.perm_middle.symm
/-- behind the linking of the cell at hand -/
structure RMid (w : World) (S : Lay) (d d₁ : Pl) (U : List (Addr × Obj)) (zs : List Cell) (c : Cell) (r : List Cell) (nx : List (Addr × Obj)) (d₇ : Pl) : Prop where
  st : St w S d₇ U nx
  hs : d₇.hs = d.hs
  vl : d₇.vl = d.vl
  made : d₇.made = d.made
  t : d₇.t = d₁.t
  vn : d₇.vr (Str.ofString "N") = some (d₁.lk c)
  vs : ∃ o, d₇.vr (Str.ofString "S") = some o ∧ Chain d₇.lk o zs
  vd : d₇.vr (Str.ofString "D") = d.vr (Str.ofString "D")
  cr : Chain d₇.lk (d₁.lk c) r
theorem ranged {xs : List Cell} {o₀ : Option Cell} {vi : Cell → Int} (ok : LayOk S) (ht : d.t + 10 < 900) (hC : d.vr (Str.ofString "C") = some o₀) (hch : Chain d.lk o₀ xs) (hnd : xs.Nodup) (hsub : ∀ c ∈ xs, c ∈ d.hs) (hall : ∀ c ∈ d.hs, c ∈ xs) (hlen : xs.length ≤ 10)
    (hvi : ∀ c ∈ d.hs, ∃ t, d.vl c = .int (vi c) t) :
    Con w 100 1000 521 [.ref S.aw, .ref S.wl] (fun news => St w S d U news) (fun _ r news' => ∃ d', Ranged d vi xs d' r ∧ St w S d' U news') := by
  unfold Con
  k_fill
  intro p loose mean mg mb dp un gd cn cs a ccd cl outer A₀ base h₀ L m news s Q E B F X N T hk hd hu hpre hret
  refine byC fun nG => ?_
  obtain ⟨H, A⟩ := hpre
  refine nG ?_
  have m1 := A.iw
  have m2 := A.dw
  have m3 := A.st
  have hkl := A.klen
  have hso := A.so
  have gst := A.gst
  refine wpAny_call ?_
  k_dflt ktr_enter
  k_steps
  unfold Hold
  try k_fold
  refine while_one (n₀ := xs.length) (Str.ofString "is_whole") (fun n u nx => u = some (.bool true) ∧ ∃ done todo d', RIn w S d U vi xs n nx done todo d') (by k_asm) (by k_asm) ?_ ?_ (by passes_own)
  · rename Obj.IsDictOf _ _ (stored H.kvs (Str.ofString "S") _) => hd1
    have B1 := A.store (by decide) (o := none) ⟨_, rfl⟩ (by intro c h; cases h) hd1
    refine ⟨rfl, [], xs, d.set (Str.ofString "S") none, { eq := rfl, n := rfl, st := St.mono ⟨_, B1⟩ (setAt_sub fun p hp => .tail _ hp), hs := rfl, vl := rfl, made := rfl, t1 := Int.le_refl _, t2 := by simp [Pl.set], cc := ⟨o₀, by (repeat refine (Pl.set_ne (by decide)).trans ?_); (first | exact Pl.set_eq | rfl | skip); exact hC, hch⟩, cs := ⟨none, by rw [vr_set, if_pos rfl], rfl⟩, vn := .inr (by (repeat refine (Pl.set_ne (by decide)).trans ?_); (first | exact Pl.set_eq | rfl | skip)), vo := by (repeat refine (Pl.set_ne (by decide)).trans ?_); (first | exact Pl.set_eq | rfl | skip) }⟩
  · rintro n u nx h₁ tk₁ F₁ N₁ pP0
    refine byC fun nG => ?_
    obtain ⟨rfl, done, todo, d₁, J⟩ := pP0
    obtain ⟨H₁, A₁⟩ := J.st
    have m3 := A₁.st
    have hso := A₁.so
    have hkl := A₁.klen
    obtain ⟨o, hvC, hcc⟩ := J.cc
    obtain ⟨v, hv, hvo⟩ := A₁.var hvC
    obtain ⟨o', hvS, hcs⟩ := J.cs
    obtain ⟨v', hv', hvo'⟩ := A₁.var hvS
    refine nG ?_
    cases todo with
    | nil =>
      refine byC fun nG => ?_
      obtain rfl := hcc
      obtain ⟨t, rfl⟩ := hvo
      refine nG ?_
      k_steps
      rename Obj.IsDictOf _ _ (stored (stored (stored (stored H₁.kvs _ _) _ _) _ _) _ _) => hz4
      rename Obj.IsDictOf _ _ (stored (stored (stored H₁.kvs _ _) _ _) _ _) => hz3
      rename Obj.IsDictOf _ _ (stored (stored H₁.kvs _ _) _ _) => hz2
      rename Obj.IsDictOf _ _ (stored H₁.kvs _ _) => hz1
      have B1 := A₁.store (by decide) hvo' (fun x hx => A₁.vin _ x (hvS.trans (congrArg some hx))) hz1
      have B2 := B1.store (by decide) (o := none) ⟨_, rfl⟩ (by intro x h; cases h) hz2
      have B3 := B2.store (by decide) (o := none) ⟨_, rfl⟩ (by intro x h; cases h) hz3
      have B4 := B3.store (by decide) (o := none) ⟨_, rfl⟩ (by intro x h; cases h) hz4
      have hdx : xs = done := by rw [J.eq]; simp
      refine hret _ _ _ _ (by k_asm) (by k_asm) ⟨(((d₁.set (Str.ofString "C") o').set (Str.ofString "T") none).set (Str.ofString "H") none).set (Str.ofString "S") none, { b := rfl, hs := J.hs, vl := J.vl, made := J.made, t1 := J.t1, t2 := by rw [hdx]; exact J.t2, ch := ⟨o', by (repeat refine (Pl.set_ne (by decide)).trans ?_); (first | exact Pl.set_eq | rfl | skip), by rw [hdx]; exact hcs⟩, vt := by (repeat refine (Pl.set_ne (by decide)).trans ?_); (first | exact Pl.set_eq | rfl | skip), vh := by (repeat refine (Pl.set_ne (by decide)).trans ?_); (first | exact Pl.set_eq | rfl | skip), vs := by (repeat refine (Pl.set_ne (by decide)).trans ?_); (first | exact Pl.set_eq | rfl | skip), vn := ?_, vo := by (repeat refine (Pl.set_ne (by decide)).trans ?_); (first | exact Pl.set_eq | rfl | skip); exact J.vo }, St.mono ⟨_, B4⟩ (setAt_sub (setAt_sub (setAt_sub (setAt_sub fun p hp => .tail _ hp))))⟩
      · rcases J.vn with h | h
        · exact .inl (by (repeat refine (Pl.set_ne (by decide)).trans ?_); (first | exact Pl.set_eq | rfl | skip); exact h)
        · exact .inr (by (repeat refine (Pl.set_ne (by decide)).trans ?_); (first | exact Pl.set_eq | rfl | skip); exact h)
    | cons c r =>
      refine byC fun nG => ?_
      obtain ⟨rfl, hcc⟩ := hcc
      obtain rfl := hvo
      have hc : c ∈ d₁.hs := A₁.vin _ _ hvC
      obtain ⟨kk, mtk, ve, q1, q2, q3⟩ := A₁.cells c hc
      refine nG ?_
      k_steps
      unfold Hold
      try k_fold
      refine' con_useS (held_link (U := U) ok hvC) ?B ?F ?X ?N ?T ?hk ?hd ?hu ?pp ?_
      walk_at "use con"
      case pp => exact J.st
      rintro r2 h2 tk2 nx2 F₂ N₂ pP0
      refine byC fun nG => ?_
      obtain ⟨hr2, rfl⟩ := pP0
      refine nG ?_
      k_steps
      rename Obj.IsDictOf _ _ (stored (stored (stored H₁.kvs _ _) _ _) _ _) => hz3
      rename Obj.IsDictOf _ _ (stored (stored H₁.kvs _ _) _ _) => hz2
      rename Obj.IsDictOf _ _ (stored H₁.kvs _ _) => hz1
      have B1 := A₁.store (by decide) hr2 (fun x hx => A₁.lkin c hc x hx) hz1
      have B2 := B1.store (by decide) (o := none) ⟨_, rfl⟩ (by intro x h; cases h) hz2
      have B3 := B2.store (by decide) hvo' (fun x hx => A₁.vin _ x (hvS.trans (congrArg some hx))) hz3
      have hys := (fold_perm (vi := vi) done []).mem_iff (a := c)
      obtain ⟨d₂, e₂⟩ : ∃ d₂, d₂ = ((d₁.set (Str.ofString "N") (d₁.lk c)).set (Str.ofString "T") none).set (Str.ofString "H") o' := ⟨_, rfl⟩
      rw [← e₂] at B3
      unfold Hold
      have ehs : d₂.hs = d.hs := by rw [e₂]; exact J.hs
      have evl : d₂.vl = d.vl := by rw [e₂]; exact J.vl
      have elk : d₂.lk = d₁.lk := by rw [e₂]; rfl
      have et : d₂.t = d₁.t := by rw [e₂]; rfl
      have emd : d₂.made = d.made := by rw [e₂]; exact J.made
      have evC : d₂.vr (Str.ofString "C") = some (some c) := by rw [e₂]; (repeat refine (Pl.set_ne (by decide)).trans ?_); (first | exact Pl.set_eq | rfl | skip); exact hvC
      have evN : d₂.vr (Str.ofString "N") = some (d₁.lk c) := by rw [e₂]; (repeat refine (Pl.set_ne (by decide)).trans ?_); (first | exact Pl.set_eq | rfl | skip)
      have evS : d₂.vr (Str.ofString "S") = some o' := by rw [e₂]; (repeat refine (Pl.set_ne (by decide)).trans ?_); (first | exact Pl.set_eq | rfl | skip); exact hvS
      have evD : d₂.vr (Str.ofString "D") = d.vr (Str.ofString "D") := by rw [e₂]; (repeat refine (Pl.set_ne (by decide)).trans ?_); (first | exact Pl.set_eq | rfl | skip); exact J.vo
      try k_fold
      refine while_ex (n₀ := (done.foldl (ins vi) []).length) (Str.ofString "is_whole") (fun n u nx => u = some (.bool true) ∧ ∃ pre suf d', IIn w S d₂ U vi (done.foldl (ins vi) []) c n nx pre suf d')
        (fun u nx => u = some (.bool true) ∧ ∃ pre suf d', IIn w S d₂ U vi (done.foldl (ins vi) []) c suf.length nx pre suf d' ∧ ∀ y r, suf = y :: r → ¬ vi y ≤ vi c) (by k_asm) (by k_asm) ?_ ?_ ?_ (by passes_own)
      · refine ⟨rfl, [], _, d₂, { eq := rfl, n := rfl, st := St.mono ⟨_, B3⟩ (setAt_sub (setAt_sub (setAt_sub fun p hp => .tail _ hp))), hs := rfl, vl := rfl, lk := rfl, t := rfl, made := rfl, ch := ⟨o', by rw [e₂, vr_set, if_pos rfl], by rw [e₂]; exact hcs⟩, ct := by rw [e₂]; exact (Pl.set_ne (by decide)).trans Pl.set_eq, le := by simp, vo := fun _ _ _ => rfl }⟩
      · rintro n5 u5 nx5 h5 tk5 F₅ N₅ pP0
        refine byC fun nG => ?_
        obtain ⟨rfl, pre, suf, d₅, J5⟩ := pP0
        obtain ⟨H₅, A₅⟩ := J5.st
        have m3 := A₅.st
        have hso := A₅.so
        have hkl := A₅.klen
        obtain ⟨o5, hvH, hch5⟩ := J5.ch
        obtain ⟨v5, hv5, hvo5⟩ := A₅.var hvH
        refine nG ?_
        have hvC5 : d₅.vr (Str.ofString "C") = some (some c) := (J5.vo _ (by decide) (by decide)).trans evC
        obtain ⟨tvc, hvc⟩ := hvi c (by rw [← J.hs]; exact hc)
        cases suf with
        | nil =>
          refine byC fun nG => ?_
          obtain rfl := hch5
          obtain ⟨t, rfl⟩ := hvo5
          refine nG ?_
          k_steps
          exact XEnd.intro (by k_asm) (by k_asm) (fun y hy => by simp only [if_neg hy]) ⟨rfl, pre, [], d₅, { J5 with n := rfl }, by intro y r h; cases h⟩
        | cons y r5 =>
          refine byC fun nG => ?_
          obtain ⟨rfl, hch5⟩ := hch5
          obtain rfl := hvo5
          refine nG ?_
          have hy : y ∈ d₅.hs := A₅.vin _ _ hvH
          obtain ⟨tvy, hvy⟩ := hvi y (by rw [← ehs, ← J5.hs]; exact hy)
          refine byC fun nG => ?_
          obtain ⟨kk5, mtk5, ve5, u1, u2, u3⟩ := A₅.cells y hy
          refine nG ?_
          k_steps
          unfold Hold
          try k_fold
          refine' con_useS (held_value (U := U) ok hvH) ?B ?F ?X ?N ?T ?hk ?hd ?hu ?pp ?_
          walk_at "use con"
          case pp => exact J5.st
          rintro r6 h6 tk6 nx6 F₆ N₆ pP0
          refine byC fun nG => ?_
          obtain ⟨hr6, rfl⟩ := pP0
          refine nG ?_
          rw [J5.vl, evl, hvy] at hr6
          subst hr6
          k_steps
          unfold Hold
          try k_fold
          refine' con_useS (held_value (U := U) ok hvC5) ?B ?F ?X ?N ?T ?hk ?hd ?hu ?pp ?_
          walk_at "use con"
          case pp => exact J5.st
          rintro r7 h7 tk7 nx7 F₇ N₇ pP0
          refine byC fun nG => ?_
          obtain ⟨hr7, rfl⟩ := pP0
          refine nG ?_
          rw [J5.vl, evl, hvc] at hr7
          subst hr7
          k_steps
          · rename vi y ≤ vi c => hle
            unfold Hold
            try k_fold
            refine' con_useS (held_link (U := U) ok hvH) ?B ?F ?X ?N ?T ?hk ?hd ?hu ?pp ?_
            walk_at "use con"
            case pp => exact J5.st
            rintro r8 h8 tk8 nx8 F₈ N₈ pP0
            refine byC fun nG => ?_
            obtain ⟨hr8, rfl⟩ := pP0
            refine nG ?_
            k_steps
            rename Obj.IsDictOf _ _ (stored (stored H₅.kvs _ _) _ _) => hz2
            rename Obj.IsDictOf _ _ (stored H₅.kvs _ _) => hz1
            have C1 := A₅.store (by decide) (o := some y) (v := .ref y.a) rfl (fun x hx => by injection hx with hx; exact hx ▸ hy) hz1
            have C2 := C1.store (by decide) hr8 (fun x hx => A₅.lkin y hy x hx) hz2
            have jn5 := J5.n
            refine wpost_next (WEnd.intro (n' := r5.length) (by k_asm) (by k_asm) (fun y hy => by simp only [if_neg hy]) (by simp at jn5; exact om50 jn5) ⟨rfl, pre ++ [y], r5, _, { eq := by rw [J5.eq]; simp, n := rfl, st := St.mono ⟨_, C2⟩ (setAt_sub (setAt_sub fun p hp => .tail _ hp)), hs := J5.hs, vl := J5.vl, lk := J5.lk, t := J5.t, made := J5.made, ch := ?_, ct := ?_, le := ?_, vo := ?_ }⟩)
            · exact ⟨d₅.lk y, by (repeat refine (Pl.set_ne (by decide)).trans ?_); (first | exact Pl.set_eq | rfl | skip), hch5⟩
            · rw [List.getLast?_concat]; exact (Pl.set_ne (by decide)).trans Pl.set_eq
            · intro z hz
              rcases List.mem_append.mp hz with h | h
              · exact J5.le z h
              · rw [List.mem_singleton.mp h]; exact hle
            · intro k h1 h2
              simp only [vr_set, if_neg h1, if_neg h2]
              exact J5.vo k h1 h2
          · rename ¬ vi y ≤ vi c => hgt
            exact XEnd.intro (by k_asm) (by k_asm) (fun y hy => by simp only [if_neg hy]) ⟨rfl, pre, y :: r5, d₅, { J5 with n := rfl }, by intro y' r h; injection h with h; exact h ▸ hgt⟩
      · rintro u5 nx5 h5 tk5 F₅ N₅ pP0
        refine byC fun nG => ?_
        obtain ⟨rfl, pre, suf, d₅, J5, hgt⟩ := pP0
        obtain ⟨o5, hvH, hch5⟩ := J5.ch
        refine nG ?_
        have hvC5 : d₅.vr (Str.ofString "C") = some (some c) := (J5.vo _ (by decide) (by decide)).trans evC
        have hvN5 : d₅.vr (Str.ofString "N") = some (d₁.lk c) := (J5.vo _ (by decide) (by decide)).trans evN
        have hvS5 : d₅.vr (Str.ofString "S") = some o' := (J5.vo _ (by decide) (by decide)).trans evS
        have hvD5 : d₅.vr (Str.ofString "D") = d.vr (Str.ofString "D") := (J5.vo _ (by decide) (by decide)).trans evD
        have hhs5 : d₅.hs = d.hs := J5.hs.trans ehs
        have hlk5 : d₅.lk = d₁.lk := J5.lk.trans elk
        have hxs5 : xs.Perm ((pre ++ c :: suf) ++ r) := by
          rw [J.eq]
          have h1 : (pre ++ suf).Perm done := by rw [← J5.eq]; simpa using fold_perm (vi := vi) done []
          have h2 : (done ++ c :: r).Perm (c :: (done ++ r)) := List.perm_middle
          have h3 : ((pre ++ c :: suf) ++ r).Perm (c :: ((pre ++ suf) ++ r)) := by
            rw [List.append_assoc, List.cons_append, List.append_assoc]; exact List.perm_middle
          exact h2.trans ((h1.symm.append_right r).cons c |>.trans h3.symm)
        have hnd5 : ((pre ++ c :: suf) ++ r).Nodup := hxs5.nodup_iff.mp hnd
        have hin5 : ∀ x, x ∈ (pre ++ c :: suf) ++ r → x ∈ d₅.hs := fun x hx => by rw [hhs5]; exact hsub x (hxs5.mem_iff.mpr hx)
        have hcs5 : Chain d₁.lk o' (pre ++ suf) := J5.eq ▸ hcs
        rw [hlk5] at hch5
        have hc5 : c ∈ d₅.hs := hin5 c (by simp)
        k_steps
        unfold Hold
        try k_fold
        refine' con_useS (led_st (U := U) (o := o5) ok hvC5 hvH) ?B ?F ?X ?N ?T ?hk ?hd ?hu ?pp ?_
        walk_at "use con"
        case pp => exact J5.st
        rintro r6 h6 tk6 nx6 F₆ N₆ pP0
        refine byC fun nG => ?_
        obtain ⟨rfl, H₆, A₆⟩ := pP0
        have m3 := A₆.st
        have hso := A₆.so
        have hkl := A₆.klen
        obtain ⟨vC, hvC6, hvCo⟩ := A₆.var (k := Str.ofString "C") hvC5
        obtain ⟨vT, hvT6, hvTo⟩ := A₆.var (k := Str.ofString "T") J5.ct
        obtain rfl := hvCo
        refine nG ?_
        have hdst : ∀ x y, x ∈ (pre ++ c :: suf) ++ r → y ∈ (pre ++ c :: suf) ++ r → x.a = y.a → x = y := fun x y hx hy e => by
          refine byC fun nG => ?_
          obtain ⟨H, A⟩ := J5.st
          refine nG ?_
          exact A.aa x (hin5 x hx) y (hin5 y hy) e
        have hnc : ∀ x, x ∈ pre ∨ x ∈ suf ∨ x ∈ r → x.a ≠ c.a := fun x hx e => by
          have hx' : x ∈ (pre ++ c :: suf) ++ r := by rcases hx with h | h | h <;> simp [h]
          obtain rfl := hdst x c hx' (by simp) e
          have h1 := List.nodup_append.mp hnd5
          have h2 := List.nodup_append.mp h1.1
          rcases hx with h | h | h
          · exact h2.2.2 x h x (.head _) rfl
          · exact (List.nodup_cons.mp h2.2.1).1 h
          · exact h1.2.2 x (by simp) x h rfl
        have chs : Chain (upd d₁.lk c o5) o5 suf := hch5.congr fun x hx => if_neg (hnc x (.inr (.inl hx)))
        have chr : Chain (upd d₁.lk c o5) (d₁.lk c) r := hcc.congr fun x hx => if_neg (hnc x (.inr (.inr hx)))
        have hJl := J5.ct
        have hfold : (done ++ [c]).foldl (ins vi) [] = pre ++ c :: suf := by
          rw [List.foldl_append, J5.eq]; exact ins_split J5.le hgt
        try k_fold
        refine if_join F₆ (fun nx => ∃ d₇, RMid w S d d₁ U ((done ++ [c]).foldl (ins vi) []) c r nx d₇) ?_ ?_
        rotate_left
        obtain rfl | ⟨pr, q, rfl⟩ : pre = [] ∨ ∃ p y, pre = p ++ [y] := by
          rcases pre.eq_nil_or_concat with h | ⟨p, y, h⟩
          · exact .inl h
          · exact .inr ⟨p, y, by simpa using h⟩
        focus
          refine byC fun nG => ?_
          obtain ⟨t, rfl⟩ := hvTo
          refine nG ?_
          k_steps
          rename Obj.IsDictOf _ _ (stored H₆.kvs _ _) => hz1
          have C1 := A₆.store (by decide) (o := some c) (v := .ref c.a) rfl (fun x hx => by injection hx with hx; exact hx ▸ hc5) hz1
          exact jpost_next (by k_asm) (by k_asm) ⟨_, { st := ⟨_, C1⟩, hs := hhs5, vl := J5.vl.trans evl, made := J5.made.trans emd, t := J5.t.trans et, vn := (Pl.set_ne (by decide)).trans hvN5, vs := ⟨some c, Pl.set_eq, by rw [hfold]; refine ⟨rfl, ?_⟩; show Chain (upd d₅.lk c o5) (upd d₅.lk c o5 c) suf; rw [hlk5]; rw [show upd d₁.lk c o5 c = o5 from if_pos rfl]; exact chs⟩, vd := (Pl.set_ne (by decide)).trans hvD5, cr := by show Chain (upd d₅.lk c o5) _ r; rw [hlk5]; exact chr }⟩
        focus
          rw [List.getLast?_concat] at hvTo hJl
          refine byC fun nG => ?_
          obtain rfl := hvTo
          have hq5 : q ∈ d₅.hs := hin5 q (by simp)
          obtain ⟨kk5, mtk5, ve5, u1, u2, u3⟩ := A₆.cells q hq5
          refine nG ?_
          k_steps
          unfold Hold
          try k_fold
          refine' con_useS (led_st (U := U) (d := d₅.led c o5) (c := q) (o := some c) ok (vr_led.trans hJl) (vr_led.trans hvC5)) ?B ?F ?X ?N ?T ?hk ?hd ?hu ?pp ?_
          walk_at "use con"
          case pp => exact ⟨H₆, A₆⟩
          rintro r9 h9 tk9 nx9 F₉ N₉ pP0
          refine byC fun nG => ?_
          obtain ⟨rfl, S₉⟩ := pP0
          refine nG ?_
          k_steps
          have hqc : q.a ≠ c.a := hnc q (.inl (by simp))
          have hnq : ∀ x, x ∈ pr ∨ x ∈ suf ∨ x ∈ r → x.a ≠ q.a := fun x hx e => by
            have hx' : x ∈ ((pr ++ [q]) ++ c :: suf) ++ r := by rcases hx with h | h | h <;> simp [h]
            obtain rfl := hdst x q hx' (by simp) e
            have h1 := List.nodup_append.mp hnd5
            have h2 := List.nodup_append.mp h1.1
            have h3 := List.nodup_append.mp h2.1
            rcases hx with h | h | h
            · exact h3.2.2 x h x (.head _) rfl
            · exact h2.2.2 x (by simp) x (.tail _ h) rfl
            · exact h1.2.2 x (by simp) x h rfl
          refine jpost_next (by k_asm) (by k_asm) ⟨_, { st := S₉, hs := hhs5, vl := J5.vl.trans evl, made := J5.made.trans emd, t := J5.t.trans et, vn := hvN5, vs := ⟨o', hvS5, ?_⟩, vd := hvD5, cr := ?_ }⟩
          · show Chain (upd (upd d₅.lk c o5) q (some c)) o' _
            rw [hfold, hlk5, List.append_assoc, List.singleton_append]
            rw [List.append_assoc, List.singleton_append] at hcs5
            refine Chain.relink hcs5 (fun x hx => ?_) ?_
            · show (if x.a = q.a then _ else if x.a = c.a then _ else d₁.lk x) = _
              rw [if_neg (hnq x (.inl hx)), if_neg (hnc x (.inl (by simp [hx])))]
            · rw [show upd (upd d₁.lk c o5) q (some c) q = some c from if_pos rfl]
              refine ⟨rfl, ?_⟩
              rw [show upd (upd d₁.lk c o5) q (some c) c = o5 from (if_neg fun e => hqc e.symm).trans (if_pos rfl)]
              exact chs.congr fun x hx => if_neg (hnq x (.inr (.inl hx)))
          · show Chain (upd (upd d₅.lk c o5) q (some c)) _ r
            rw [hlk5]
            exact chr.congr fun x hx => if_neg (hnq x (.inr (.inr hx)))
        focus
          rintro h7 tk7 nx7 F₇ N₇ pP0
          refine byC fun nG => ?_
          obtain ⟨d₇, S₇, h7hs, h7vl, h7md, h7t, h7N, h7S, h7D, h7r⟩ := pP0
          refine nG ?_
          have hlx : xs.length = done.length + (r.length + 1) := by rw [J.eq]; simp
          have jt1 := J.t1
          have jt2 := J.t2
          have jn := J.n
          have full : Full d₇ := fun x hx => by
            have hx1 : x ∈ done ++ c :: r := by
              have := hall x (by rw [← h7hs]; exact hx)
              rwa [J.eq] at this
            refine byC fun nG => ?_
            obtain ⟨o7, h7o, h7c⟩ := h7S
            refine nG ?_
            have hm : x ∈ (done ++ [c]) → Rch d₇ x := fun h => Chain.rch h7c (fun y hy => Rch.root (h7o.trans (congrArg some hy))) x ((fold_perm (vi := vi) (done ++ [c]) []).mem_iff.mpr (by simpa using h))
            rcases List.mem_append.mp hx1 with h | h
            · exact hm (List.mem_append_left _ h)
            · rcases List.mem_cons.mp h with rfl | h
              · exact hm (by simp)
              · exact Chain.rch h7r (fun y hy => Rch.root (h7N.trans (congrArg some hy))) x h
          k_steps
          unfold Hold
          try k_fold
          refine' con_useS (swept_st (U := U) (d := d₇) ok ?ht full) ?B ?F ?X ?N ?T ?hk ?hd ?hu ?pp ?_
          case ht => rw [h7t]; exact om53 ht hlen h7t hlx jt2
          walk_at "use con"
          case pp => exact S₇
          rintro r8 h8 tk8 nx8 F₈ N₈ pP0
          refine byC fun nG => ?_
          obtain ⟨t8, rfl, t81, t82, H₈, A₈⟩ := pP0
          have m3 := A₈.st
          have hso := A₈.so
          have hkl := A₈.klen
          obtain ⟨v8, hv8, hvo8⟩ := A₈.var (k := Str.ofString "N") h7N
          refine nG ?_
          k_steps
          rename Obj.IsDictOf _ _ (stored (stored H₈.kvs _ _) _ _) => hz2
          rename Obj.IsDictOf _ _ (stored H₈.kvs _ _) => hz1
          have C1 := A₈.store (by decide) hvo8 (fun x hx => A₈.vin _ x (h7N.trans (congrArg some hx))) hz1
          have C2 := C1.store (by decide) (o := none) ⟨_, rfl⟩ (by intro x h; cases h) hz2
          refine byC fun nG => ?_
          obtain ⟨o7, h7o, h7c⟩ := h7S
          refine nG ?_
          refine wpost_next (WEnd.intro (n' := r.length) (by k_asm) (by k_asm) (fun y hy => by simp only [if_neg hy]) (by simp at jn; exact om50 jn) ⟨rfl, done ++ [c], r, _, { eq := by rw [J.eq]; simp, n := rfl, st := St.mono ⟨_, C2⟩ (setAt_sub (setAt_sub fun p hp => .tail _ hp)), hs := h7hs, vl := h7vl, made := h7md, t1 := ?_, t2 := ?_, cc := ?_, cs := ?_, vn := ?_, vo := ?_ }⟩)
          · show d.t ≤ t8
            exact om54 h7t jt1 t81 t82
          · show t8 ≤ d.t + ((done ++ [c]).length : Nat)
            simp; exact om55 h7t jt2 t81 t82
          · exact ⟨d₁.lk c, by (repeat refine (Pl.set_ne (by decide)).trans ?_); (first | exact Pl.set_eq | rfl | skip), h7r⟩
          · exact ⟨o7, by (repeat refine (Pl.set_ne (by decide)).trans ?_); (first | exact Pl.set_eq | rfl | skip); exact h7o, h7c⟩
          · exact .inl (by (repeat refine (Pl.set_ne (by decide)).trans ?_); (first | exact Pl.set_eq | rfl | skip))
          · (repeat refine (Pl.set_ne (by decide)).trans ?_); (first | exact Pl.set_eq | rfl | skip); exact h7D
end
section
set_option maxRecDepth 100000
set_option maxHeartbeats 8000000
variable {w : World} {S : Lay} {d : Pl} {U : List (Addr × Obj)}
theorem St.own_set {news : List (Addr × Obj)} {x : Addr} {o o' : Obj} (A : St w S d ((x, o) :: U) news) (hx : ∀ p ∈ U, p.1 ≠ x) : St w S d ((x, o') :: U) (setAt x o' news) := by
  obtain ⟨H, A⟩ := A
  have hr := A.rU _ (.head _)
  have kp : ∀ {a : Addr} {ob : Obj} {n : Nat}, (a, ob) ∈ news → H.ρ a = n → n ≠ 0 → (a, ob) ∈ setAt x o' news := fun h1 h2 h3 => mem_setAt_ne h1 (ne_ρ h2 hr h3)
  exact ⟨H, { A with
      iw := kp A.iw A.raw (by decide), dw := kp A.dw A.rdw (by decide), st := kp A.st A.rst (by decide), hl := kp A.hl A.rhl (by decide), fl := kp A.fl A.rfl' (by decide), wl := kp A.wl A.rwl (by decide), ac := kp A.ac A.rac (by decide)
      own := fun p hp => by
        rcases List.mem_cons.mp hp with rfl | hp
        · exact mem_setAt_eq (A.own _ (.head _))
        · exact mem_setAt_ne (A.own p (.tail _ hp)) (hx p hp)
      rU := fun p hp => by
        rcases List.mem_cons.mp hp with rfl | hp
        · exact hr
        · exact A.rU p (.tail _ hp)
      cells := fun c' hc' => by
        obtain ⟨k', mtk', ve', u1, u2, u3⟩ := A.cells c' hc'
        exact ⟨k', mtk', ve', kp u1 (A.ra _ hc') (by decide), kp u2 (A.rd _ hc') (by decide), kp u3 (A.rv _ hc') (by decide)⟩ }⟩
end
local macro_rules | `(tactic| walk_at "call builtin:list.append") => `(tactic| (k_here; (with_reducible show wpAny _ _ (call (Value.builtin _) [Value.ref _, _]) _ _ _); k_dflt (refine' append_at' ?F ?N ?m ?z ?_; (case F | N => k_asm); (case m => k_mem); (case z => (first | omega | (simp; omega)))); intro h' e' F' N'; (try k_sweep)))
section
set_option maxRecDepth 100000
set_option maxHeartbeats 8000000
variable {w : World} {S : Lay} {d : Pl} {U : List (Addr × Obj)}
noncomputable def pairOf (d : Pl) (c : Cell) : Obj := { cls := Value.type "tuple", data := Data.seq #[Value.int c.num c.ntk, d.vl c] }
theorem nameT {h₀ h : Heap} {L t d : Addr} {a b : Addr × Obj} {o ot : Obj} {r : List (Addr × Obj)} {G : Prop} (_ : News h₀ L h (a :: b :: setAt d o ((t, ot) :: r))) (k : ∀ x, x = t → G) : G := k _ rfl
theorem nameE {h₀ h : Heap} {L d : Addr} {a b : Addr × Obj} {its : Array Value} {e : Nat} {r : List (Addr × Obj)} {G : Prop} (_ : News h₀ L h (a :: b :: setAt d (PySem.W.listOf its e) r)) (k : ∀ x, x = e → G) : G := k _ rfl
structure WIn (w : World) (S : Lay) (d : Pl) (U : List (Addr × Obj)) (rl : Addr) (xs : List Cell) (n : Nat) (u : Option Value) (nx : List (Addr × Obj)) (done todo : List Cell) (tl : List (Addr × Obj)) (e : Nat) (v : Value) (o : Option Cell) : Prop where
  eq : xs = done ++ todo
  n : n = todo.length
  u : u = some v
  v : IsL v o
  ch : Chain d.lk o todo
  htl : tl.map (·.2) = done.map (pairOf d)
  st : St w S d ((rl, PySem.W.listOf (tl.map fun p => Value.ref p.1).toArray e) :: (tl ++ U)) nx
  far : ∀ p ∈ tl ++ U, p.1 ≠ rl
theorem row_st {name : Str} {nt : Tok} {xs : List Cell} {o₀ : Option Cell} (ok : LayOk S) (hv₀ : d.vr name = some o₀) (hch : Chain d.lk o₀ xs) (hsub : ∀ c ∈ xs, c ∈ d.hs) (hlen : xs.length ≤ 10) :
    Con w 60 600 500 [.ref S.aw, .str name nt] (fun news => St w S d U news) (fun _ r news' => ∃ rl tl e, r = .ref rl ∧ tl.map (·.2) = xs.map (pairOf d) ∧ (∀ p ∈ tl ++ U, p.1 ≠ rl) ∧ St w S d ((rl, PySem.W.listOf (tl.map fun p => Value.ref p.1).toArray e) :: (tl ++ U)) news') := by
  unfold Con
  k_fill
  intro p loose mean mg mb dp un gd cn cs a ccd cl outer A₀ base h₀ L m news s Q E B F X N T hk hd hu hpre hret
  refine byC fun nG => ?_
  obtain ⟨H, A⟩ := hpre
  have m1 := A.iw
  have m2 := A.dw
  have m3 := A.st
  have hkl := A.klen
  have hso := A.so
  have gst := A.gst
  obtain ⟨v₀, hv, hvo⟩ := A.var hv₀
  refine nG ?_
  refine wpAny_call ?_
  k_dflt ktr_enter
  k_steps
  refine name2 (by with_reducible assumption) fun t1 rl e1 e2 => ?_
  subst e1 e2
  rename (∀ p ∈ news, p.1 < rl) => lr
  have A0 : St w S d ((rl, PySem.W.listOf #[] 0) :: U) ((rl, PySem.W.listOf #[] 0) :: news) := St.push ⟨H, A⟩ fun p hp => Nat.ne_of_lt (lr p hp)
  unfold Hold
  try k_fold
  refine while_ex (n₀ := xs.length) (Str.ofString "here") (fun n u nx => ∃ done todo tl e v o, WIn w S d U rl xs n u nx done todo tl e v o) (fun u nx => ∃ tl e v o, WIn w S d U rl xs 0 u nx xs [] tl e v o) (by k_asm) (by k_asm) ?_ ?_ ?_ (by passes_own)
  · exact ⟨[], xs, [], 0, v₀, o₀, { eq := rfl, n := rfl, u := rfl, v := hvo, ch := hch, htl := rfl, st := A0.mono fun p hp => .tail _ hp, far := fun p hp => Nat.ne_of_lt (lr p (A.own p hp)) }⟩
  · rintro n u nx h₁ tk₁ F₁ N₁ pP0
    refine byC fun nG => ?_
    obtain ⟨done, todo, tl, e, v, o, J⟩ := pP0
    obtain rfl := J.u
    refine nG ?_
    have hvo := J.v
    have hcc := J.ch
    have mrl := let ⟨H, A⟩ := J.st; A.own _ (.head _)
    have htz : (tl.map fun p => Value.ref p.1).toArray.size ≤ 10 := by
      have h1 : tl.length = done.length := by have := congrArg List.length J.htl; simpa using this
      have h2 : xs.length = done.length + todo.length := by rw [J.eq]; simp
      simp; exact om56 hlen h1 h2
    cases todo with
    | nil =>
      refine byC fun nG => ?_
      obtain rfl := hcc
      obtain ⟨t, rfl⟩ := hvo
      refine nG ?_
      have hdx : xs = done := by rw [J.eq]; simp
      k_steps
      exact XEnd.intro (by k_asm) (by k_asm) (fun y hy => by simp only [if_neg hy]) ⟨tl, e, _, _, by rw [hdx]; exact { J with eq := (List.append_nil _).symm, n := rfl }⟩
    | cons c r =>
      refine byC fun nG => ?_
      obtain ⟨rfl, hcc⟩ := hcc
      obtain rfl := hvo
      obtain ⟨H₁, A₁⟩ := J.st
      refine nG ?_
      have hc : c ∈ d.hs := hsub c (by rw [J.eq]; simp)
      refine byC fun nG => ?_
      obtain ⟨kk, mtk, ve, q1, q2, q3⟩ := A₁.cells c hc
      refine nG ?_
      have q2' := q2
      have q4 := A₁.fl
      have hi := ok.hstr
      have hsm : S.ys.length ≤ 1000 := by have := ok.len; exact om39 this
      have hfv := ok.val
      have hfl := ok.link
      have hj1 : (S.ys.idxOf (Str.ofString "VALUE") : Nat) < 1000 := by have := List.idxOf_lt_length_iff.mpr ok.val; exact om57 hsm this
      have hj2 : (S.ys.idxOf (Str.ofString "LINK") : Nat) < 1000 := by have := List.idxOf_lt_length_iff.mpr ok.link; exact om57 hsm this
      have hg1 := rowOf_value (vv := d.vl c) (lv := H₁.lv c) (tm := H₁.tm c) ok.val
      have hg2 := rowOf_link (vv := d.vl c) (lv := H₁.lv c) (tm := H₁.tm c) ok.link
      have g1 : rl ≠ c.a := ne_ρ (A₁.rU _ (.head _)) (A₁.ra c hc) (by decide)
      have g2 : rl ≠ c.d := ne_ρ (A₁.rU _ (.head _)) (A₁.rd c hc) (by decide)
      have g3 : rl ≠ c.v := ne_ρ (A₁.rU _ (.head _)) (A₁.rv c hc) (by decide)
      have g4 : rl ≠ S.fl := ne_ρ (A₁.rU _ (.head _)) A₁.rfl' (by decide)
      unfold cellEs at q2
      k_steps
      unfold Hold
      try k_fold
      refine' fref_use (c := c) (mark := kk) (mtk := mtk) (fl := S.fl) (fe := S.fe) hi hsm hfv ?B ?F ?X ?N ?T ?hk ?hd ?hu ?m1 ?m2 ?m3 ?_
      walk_at "use con"
      case m1 | m2 | m3 => k_mem
      intro q6 qd6 u1 u2 u3 u4 u5 h6 tk6 F6 N6 l6 ll6
      try k_sweep
      k_steps
      unfold Hold
      try k_fold
      refine' con_useV (ref_get (c := c) (mark := kk) (mtk := mtk) (fl := S.fl) (ve := ve) hj1 hg1) ?B ?F ?X ?N ?T ?hk ?hd ?hu ?pp ?_
      walk_at "use con"
      case pp => exact ⟨by k_mem, by k_mem, by k_mem, by k_mem, by k_mem⟩
      rintro h8 tk8 _ F8 N8 rfl
      k_steps
      unfold Hold
      try k_fold
      refine' fref_use (c := c) (mark := kk) (mtk := mtk) (fl := S.fl) (fe := S.fe) hi hsm hfl ?B ?F ?X ?N ?T ?hk ?hd ?hu ?m1 ?m2 ?m3 ?_
      walk_at "use con"
      case m1 | m2 | m3 => k_mem
      intro q10 qd10 u1 u2 u3 u4 u5 h10 tk10 F10 N10 l10 ll10
      try k_sweep
      k_steps
      unfold Hold
      try k_fold
      refine' con_useV (ref_get (c := c) (mark := kk) (mtk := mtk) (fl := S.fl) (ve := ve) hj2 hg2) ?B ?F ?X ?N ?T ?hk ?hd ?hu ?pp ?_
      walk_at "use con"
      case pp => exact ⟨by k_mem, by k_mem, by k_mem, by k_mem, by k_mem⟩
      rintro h9 tk9 _ F9 N9 rfl
      k_steps
      refine nameT (by with_reducible assumption) fun T1 eT => ?_
      subst eT
      refine nameE (by with_reducible assumption) fun e2 eE => ?_
      subst eE
      rename _ ∧ _ ∧ AllLt T1 nx => lT
      have lT' := allLt_mem lT.2.2
      have hT : ∀ p ∈ nx, p.1 ≠ T1 := fun p hp => Nat.ne_of_lt (lT' p hp)
      have B0 := St.push (o := pairOf d c) (J.st) hT
      have B1 : St w S d ((rl, PySem.W.listOf (tl.map fun p => Value.ref p.1).toArray e) :: ((T1, pairOf d c) :: (tl ++ U))) ((T1, pairOf d c) :: nx) := B0.sub fun p hp => by
        rcases List.mem_cons.mp hp with rfl | hp
        · exact .tail _ (.head _)
        · rcases List.mem_cons.mp hp with rfl | hp
          · exact .head _
          · exact .tail _ (.tail _ hp)
      have hTr : T1 ≠ rl := fun q => hT _ mrl q.symm
      have hfar : ∀ p ∈ (T1, pairOf d c) :: (tl ++ U), p.1 ≠ rl := fun p hp => by
        rcases List.mem_cons.mp hp with rfl | hp
        · exact hTr
        · exact J.far p hp
      refine wpost_next (WEnd.intro (n' := r.length) (by k_asm) (by k_asm) (fun y hy => by simp only [if_neg hy]) (by have := J.n; simp at this; exact om50 this) ⟨done ++ [c], r, tl ++ [(T1, pairOf d c)], e2, H₁.lv c, d.lk c, { eq := by rw [J.eq]; simp, n := rfl, u := rfl, v := A₁.lks c hc, ch := hcc, htl := by rw [List.map_append, List.map_append, J.htl]; rfl, st := ?_, far := ?_ }⟩)
      · refine ((B1.own_set (o' := PySem.W.listOf (((tl ++ [(T1, pairOf d c)]).map fun p => Value.ref p.1).toArray) e2) hfar).sub ?_).mono ?_
        · intro p hp
          rcases List.mem_cons.mp hp with rfl | hp
          · exact .head _
          · simp only [List.mem_append, List.mem_cons, List.mem_singleton, List.not_mem_nil, or_false] at hp ⊢
            rcases hp with (h | h) | h
            · exact .inr (.inr (.inl h))
            · exact .inr (.inl h)
            · exact .inr (.inr (.inr h))
        · intro p hp
          rw [show ((tl ++ [(T1, pairOf d c)]).map fun p => Value.ref p.1).toArray = (tl.map fun p => Value.ref p.1).toArray.push (.ref T1) by simp] at hp
          refine .tail _ (.tail _ (setAt_sub (fun q hq => ?_) p hp))
          rcases List.mem_cons.mp hq with rfl | hq
          · exact .head _
          · exact .tail _ (.tail _ (.tail _ hq))
      · intro p hp
        refine hfar p ?_
        simp only [List.mem_append, List.mem_cons, List.mem_singleton, List.not_mem_nil, or_false] at hp ⊢
        rcases hp with (h | h) | h
        · exact .inr (.inl h)
        · exact .inl h
        · exact .inr (.inr h)
  · rintro u nx h₁ tk₁ F₁ N₁ pP0
    refine byC fun nG => ?_
    obtain ⟨tl, e, v, o, J⟩ := pP0
    obtain rfl := J.u
    refine nG ?_
    k_steps
    exact hret _ _ _ _ (by k_asm) (by k_asm) ⟨rl, tl, e, rfl, J.htl, J.far, J.st⟩
end
section
set_option maxRecDepth 100000
set_option maxHeartbeats 8000000
variable {w : World} {S : Lay} {d : Pl} {U : List (Addr × Obj)}
theorem field_none {fl : Addr} {c : Cell} {mark : Int} {mtk ft : Tok} {fe : Nat} {field : Str} {fvs : List Value} {ys : List Str}
    (hi : StrsAre fvs ys) (hsm : ys.length ≤ 1000) (hf : field ∉ ys) :
    Con w 5 50 283 [.ref c.a, .str field ft] (fun news => (c.a, instObj 260 c.d) ∈ news ∧ (c.d, dictOf (cellEs w.params fl c mark mtk) 5) ∈ news ∧ (fl, PySem.W.listOf fvs.toArray fe) ∈ news)
      (fun news r news' => r = .none ∧ news' = news) := by
  unfold Con
  k_fill
  intro p loose mean mg mb dp un gd cn cs a ccd cl outer A₀ base h₀ L m news s Q E B F X N T hk hd hu hpre hret
  refine byC fun nG => ?_
  obtain ⟨m4, m5, m6⟩ := hpre
  refine nG ?_
  have hany : ys.any (· == field) = false := by
    rw [List.any_eq_false]; intro x hx h; exact hf (eq_of_beq h ▸ hx)
  unfold cellEs at m5
  refine wpAny_call ?_
  k_dflt ktr_enter
  k_steps
  exact hret _ _ _ _ (by k_asm) (by k_asm) ⟨rfl, rfl⟩
end
section
set_option maxRecDepth 100000
set_option maxHeartbeats 8000000
variable {w : World}
theorem field_raises (x y : Str) (t1 t2 : Tok) : ∀ (p : Program) (loose : List Str) (mean : ExcName → Option Value) (mg mb : Str → Option Value) (dp un : Nat) (gd : Option (List Code)) (cn : Str) (cs : Scope) (a : Addr) (ccd : Value) (cl : List (Str × Addr)) (outer : List Env) (A₀ : Around) (base h₀ : Heap) (L : Addr) (m : Str → Option Value) (news : List (Addr × Obj)) (s : Shared)
    (Q E : Value → Shared → Prop), Below A₀ base outer h₀ → Fr h₀ L s.heap m → (KK w.params).In h₀ → News h₀ L s.heap news → Top p loose mean mg mb h₀ → cs.kind = .function → dp + 40 < recursionLimit → un + 400 < cLine →
    (∀ G h' tk' e D od es k t news', Fr h₀ L G m → RaisedD base G (envX cn cs L a ccd cl :: outer) e D news' h' → G.UpToSlots h' → (∀ p ∈ news, p ∈ news') → (D, od) ∈ news' → od.data = .dict es k → lookIn "number" od = some (some (.int 1 t)) → E (.ref e) { s with heap := h', toks := tk' }) →
    wpAny (model PySem.Challenge.rw_sa0599_01.row.prog w) (ktrTop dp un gd cn cs L a ccd cl outer) (call (.ref 283) [.str x t1, .str y t2]) Q E s := by
  k_fill
  intro p loose mean mg mb dp un gd cn cs a ccd cl outer A₀ base h₀ L m news s Q E B F X N T hk hd hu hE
  refine byC fun nG => ?_
  obtain ⟨hp, g, dr, tk, os⟩ := s
  refine nG ?_
  refine wpAny_call ?_
  k_dflt ktr_enter
  repeat' (first | (fail_if_success (with_reducible show wpAny _ _ (exec (Stmt.Raise _ _ _) _) _ _ _)); first | (k_unfold; (try dsimp only)) | walk1 | (dsimp only; walk1))
  (try dsimp only)
  rw [arm_exec_Raise]
  show wpAny _ _ (standAt _ >>= fun _ => raiseStmt _ (some (eval _ _ >>= fun v => standAt _ >>= fun _ => pure v)) none) _ _ _
  refine wpAny_bind (wpAny_standAt (raise_D (w := w) rfl (wpAny_bind ?_)))
  k_steps
  unfold Hold
  refine' con_useS (err_made (n := 1) (x := Str.ofString "STRING")) ?B ?F ?X ?N ?T ?hk ?hd ?hu ?pp ?_
  walk_at "use con"
  case pp => trivial
  rintro r1 h1 tk1 nx1 F₁ N₁ pP0
  refine byC fun nG => ?_
  obtain ⟨e, D, t, od, es, k, rfl, me, mD, hdd, hlk, hsub⟩ := pP0
  refine nG ?_
  k_steps
  refine wpAny_bind (wpAny_standAt (wpAny_pure ⟨e, t, some D, rfl, ?X1, (N₁ _ me).1, ?_⟩))
  case X1 => exact Frag.In.keeps (by k_asm) F₁.keep
  refine' leave_D ?K F₁ N₁ me (news₁ := (D, od) :: news) ?hn ?_
  case K => k_asm
  case hn =>
    intro q hq
    rcases List.mem_cons.mp hq with rfl | hq
    · refine ⟨mD, ?_⟩
      intro z
      have := (N₁ _ mD).1
      rw [z, (N₁ _ me).1] at this
      cases this
      cases hdd
    · exact ⟨(hsub _ hq).1, (hsub _ hq).2⟩
  intro h' R u
  refine' hE _ h' _ e D od es k _ _ ?F R u (fun p hp => .tail _ hp) (.head _) hdd hlk
  k_asm
end
section
set_option maxRecDepth 100000
set_option maxHeartbeats 8000000
variable {w : World} {S : Lay} {d : Pl} {U : List (Addr × Obj)}
theorem field_raisesS {x y : Str} {t1 t2 : Tok} {p : Program} {loose : List Str} {mean : ExcName → Option Value} {mg mb : Str → Option Value} {dp un : Nat} {gd : Option (List Code)} {cn : Str} {cs : Scope} {a : Addr} {ccd : Value} {cl : List (Str × Addr)} {outer : List Env} {A₀ : Around} {base h₀ : Heap} {L : Addr} {m : Str → Option Value} {news : List (Addr × Obj)}
    {hp : Heap} {g : Array GenState} {dr : Drawn} {tk : Nat} {os : OsState} {Q E : Value → Shared → Prop} (B : Below A₀ base outer h₀) (F : Fr h₀ L hp m) (X : (KK w.params).In h₀) (N : News h₀ L hp news) (T : Top p loose mean mg mb h₀) (hk : cs.kind = .function) (hdp : dp + 40 < recursionLimit) (hun : un + 400 < cLine)
    (hE : ∀ G h' tk' e D od es k t news', Fr h₀ L G m → RaisedD base G (envX cn cs L a ccd cl :: outer) e D news' h' → G.UpToSlots h' → (∀ p ∈ news, p ∈ news') → (D, od) ∈ news' → od.data = .dict es k → lookIn "number" od = some (some (.int 1 t)) → E (.ref e) ⟨h', g, dr, tk', os⟩) :
    wpAny (model PySem.Challenge.rw_sa0599_01.row.prog w) (ktrTop dp un gd cn cs L a ccd cl outer) (call (.ref 283) [.str x t1, .str y t2]) Q E ⟨hp, g, dr, tk, os⟩ :=
  field_raises x y t1 t2 p loose mean mg mb dp un gd cn cs a ccd cl outer A₀ base h₀ L m news ⟨hp, g, dr, tk, os⟩ Q E B F X N T hk hdp hun hE
theorem lacks_top {c : Cell} (ok : LayOk S) (hC : d.vr (Str.ofString "C") = some (some c)) : ∀ (p : Program) (loose : List Str) (mean : ExcName → Option Value) (mg mb : Str → Option Value) (dp un : Nat) (gd : Option (List Code)) (cn : Str) (cs : Scope) (a : Addr) (ccd : Value) (cl : List (Str × Addr)) (A₀ : Around) (base h₀ : Heap) (L : Addr) (m : Str → Option Value) (news : List (Addr × Obj)) (s : Shared)
    (Q E : Value → Shared → Prop), Below A₀ base [] h₀ → Fr h₀ L s.heap m → (KK w.params).In h₀ → News h₀ L s.heap news → Top p loose mean mg mb h₀ → cs.kind = .function → dp + 60 < recursionLimit → un + 600 < cLine → St w S d U news →
    (∀ r h' tk' news', Fr h₀ L h' m → News h₀ L h' news' → (r = .bool true ∧ St w S d U news') → Q r { s with heap := h', toks := tk' }) →
    wpAny (model PySem.Challenge.rw_sa0599_01.row.prog w) (ktrTop dp un gd cn cs L a ccd cl []) (call (.ref 528) [.ref S.aw]) Q E s := by
  k_fill
  intro p loose mean mg mb dp un gd cn cs a ccd cl A₀ base h₀ L m news s Q E B F X N T hk hd hu hpre hret
  refine byC fun nG => ?_
  obtain ⟨hp, g, dr, tk, os⟩ := s
  obtain ⟨H, A⟩ := hpre
  have m1 := A.iw
  have m2 := A.dw
  have m3 := A.st
  have hkl := A.klen
  have hso := A.so
  have gst := A.gst
  obtain ⟨v, hv, hvo⟩ := A.var hC
  obtain rfl := hvo
  have hc := A.vin _ _ hC
  obtain ⟨kk, mtk, ve, q1, q2, q3⟩ := A.cells c hc
  refine nG ?_
  refine wpAny_call ?_
  k_dflt (refine' code_S ?k1 ?k2 ?k3 ?k4 ?k5 ?kA ?kF ?kK ?k6 ?k7 ?k8 ?k9 ?kB ?_ ?c2 ?c3 ?c4 ?c5; (case kA => exact rfl); (case kF => exact rfl); (case kK => assumption); (case k1 => k_asm); (case k2 => k_asm); (case k3 => k_asm); (case k4 => k_asm); (case k5 => k_asm); (case k6 => k_is); (case k7 => k_is); (case k8 => ktr_room); (case k9 => exact BindsTo.of_eq rfl); (case c5 => decide); (case kB => exact locs rfl); (case c2 => exact rfl); (case c3 => exact rfl); (case c4 => exact rfl); k_whole; intro g' L' h' FG' F' N' B' X' T'; (try dsimp only); (try k_fold))
  k_steps
  unfold Hold
  try k_fold
  refine' con_useS (field_none (fl := S.fl) (c := c) (mark := kk) (mtk := mtk) (fe := S.fe) ok.hstr (by have := ok.len; exact om39 this) ok.other) ?B ?F ?X ?N ?T ?hk ?hd ?hu ?pp ?_
  walk_at "use con"
  case pp => exact ⟨q1, q2, A.fl⟩
  rintro r1 h1 tk1 nx1 F₁ N₁ pP0
  refine byC fun nG => ?_
  obtain ⟨rfl, rfl⟩ := pP0
  refine nG ?_
  k_steps
  unfold Hold
  refine' field_raisesS ?B ?F ?X ?N ?T ?hk ?hd ?hu ?_
  walk_at "use con"
  intro G h2 tk2 e D od es k t nx2 FG2 R2 u2 sub2 mD hdd hlk
  refine' caught_D R2 FG2 ?K u2 ?XB ?TB ?ex ?q ?_
  case K => k_asm
  case XB => k_asm
  case TB => k_asm
  case ex => k_is
  case q => rfl
  intro h3 g3 tk3 oe T3 F3 N3 hoc hod hon K3 X3 P3
  k_steps
  refine exc_get (D := D) (od := od) (v := .int 1 t) (Frag.In.keeps X3 F3.keep) (N3 _ (.head _)).1 hoc hon hod (N3 _ (.tail _ mD)).1 ?hf rfl ?_
  case hf =>
    have e1 : findObj (KK w.params) 34 (some od) (Str.ofString "number") = (lookIn (Str.ofString "number") od).bind (fun own => match own with
      | some v => some (.value v)
      | none => some .missing) := rfl
    rw [e1, hlk]
    rfl
  k_steps
  refine hret _ _ _ _ (by k_asm) (by k_asm) ⟨rfl, H, A.mono fun p hp => .tail _ (sub2 p hp)⟩
theorem lacks_useS {c : Cell} (ok : LayOk S) (hC : d.vr (Str.ofString "C") = some (some c)) {p : Program} {loose : List Str} {mean : ExcName → Option Value} {mg mb : Str → Option Value} {dp un : Nat} {gd : Option (List Code)} {cn : Str} {cs : Scope} {a : Addr} {ccd : Value} {cl : List (Str × Addr)} {A₀ : Around} {base h₀ : Heap} {L : Addr} {m : Str → Option Value} {news : List (Addr × Obj)}
    {hp : Heap} {g : Array GenState} {dr : Drawn} {tk : Nat} {os : OsState} {Q E : Value → Shared → Prop} (B : Below A₀ base [] h₀) (F : Fr h₀ L hp m) (X : (KK w.params).In h₀) (N : News h₀ L hp news) (T : Top p loose mean mg mb h₀) (hk : cs.kind = .function) (hdp : dp + 60 < recursionLimit) (hun : un + 600 < cLine) (hpre : St w S d U news)
    (ret : ∀ r h' tk' news', Fr h₀ L h' m → News h₀ L h' news' → (r = .bool true ∧ St w S d U news') → Q r ⟨h', g, dr, tk', os⟩) :
    wpAny (model PySem.Challenge.rw_sa0599_01.row.prog w) (ktrTop dp un gd cn cs L a ccd cl []) (call (.ref 528) [.ref S.aw]) Q E ⟨hp, g, dr, tk, os⟩ :=
  lacks_top ok hC p loose mean mg mb dp un gd cn cs a ccd cl A₀ base h₀ L m news ⟨hp, g, dr, tk, os⟩ Q E B F X N T hk hdp hun hpre ret
end
section
set_option maxRecDepth 100000
set_option maxHeartbeats 8000000
variable {w : World} {S : Lay} {d : Pl} {U : List (Addr × Obj)}
noncomputable def Pl.num (d : Pl) : Pl := { d with made := d.made + 1 }
theorem StAt.numbered {news : List (Addr × Obj)} {H : Hid} (A : StAt w S d U news H) {hsh : Int} {key : Value} {mt : Tok} {n : Nat} :
    StAt w S d.num U (setAt S.dw (dictOf (putL (Str.ofString "made") hsh key (.int (d.made + 1) mt) H.wes) n) news) { H with wes := putL (Str.ofString "made") hsh key (.int (d.made + 1) mt) H.wes, wn := n, mt := mt } := by
  have kp : ∀ {a : Addr} {ob : Obj} {m : Nat}, (a, ob) ∈ news → H.ρ a = m → m ≠ 2 → (a, ob) ∈ setAt S.dw (dictOf (putL (Str.ofString "made") hsh key (.int (d.made + 1) mt) H.wes) n) news := fun h1 h2 h3 => mem_setAt_ne h1 (ne_ρ h2 A.rdw h3)
  exact { A with
      iw := kp A.iw A.raw (by decide), dw := mem_setAt_eq A.dw, st := kp A.st A.rst (by decide), hl := kp A.hl A.rhl (by decide), fl := kp A.fl A.rfl' (by decide), wl := kp A.wl A.rwl (by decide), ac := kp A.ac A.rac (by decide)
      own := fun p hp => kp (A.own p hp) (A.rU p hp) (by decide)
      gst := getL_put_ne A.gst (by decide), ghl := getL_put_ne A.ghl (by decide), gmd := getL_put_same A.gmd
      wz := by
        show (putL _ _ _ _ H.wes).length ≤ 500
        rw [putL_len A.gmd]; exact A.wz
      cells := fun c' hc' => by
        obtain ⟨k', mtk', ve', u1, u2, u3⟩ := A.cells c' hc'
        exact ⟨k', mtk', ve', kp u1 (A.ra _ hc') (by decide), kp u2 (A.rd _ hc') (by decide), kp u3 (A.rv _ hc') (by decide)⟩ }
theorem put_got {h₀ h : Heap} {L D : Addr} {k : Str} {hsh : Int} {key v u : Value} {es : List DictEntry} {n : Nat} {r : List (Addr × Obj)} (_ : News h₀ L h (setAt D (dictOf (putL k hsh key v es) n) r)) (hg : getL k es = some (some u)) : getL k (putL k hsh key v es) = some (some v) := getL_put_same hg
theorem number_st : Con w 10 100 340 [.ref S.aw] (fun news => St w S d U news) (fun _ r news' => ∃ t, r = .int (d.made + 1) t ∧ St w S d.num U news') := by
  unfold Con
  k_fill
  intro p loose mean mg mb dp un gd cn cs a ccd cl outer A₀ base h₀ L m news s Q E B F X N T hk hd hu hpre hret
  refine byC fun nG => ?_
  obtain ⟨H, A⟩ := hpre
  refine nG ?_
  have m1 := A.iw
  have m2 := A.dw
  have gmd := A.gmd
  refine wpAny_call ?_
  k_dflt ktr_enter
  k_steps
  k_here
  refine' attr_set_at ?k1 ?k2 ?k3 ?k4 ?k5 ?s1 ?s2 ?s3 ?s4 ?g ?e ?z ?_
  case k1 => k_asm
  case k2 => k_asm
  case k3 => k_asm
  case k4 => walk_at "mem tail"
  case k5 => walk_at "mem tail"
  case s1 => k_is
  case s2 => k_is
  case s3 => k_is
  case s4 => k_is
  case g => rw [gmd]; rfl
  case e => exact rfl
  case z => rw [putL_len gmd]; have := A.wz; exact om37 this
  intro h8 F8 N8
  have gg := put_got N8 gmd
  have f1 := A.far.aw_dw
  k_steps
  exact hret _ _ _ _ (by k_asm) (by k_asm) ⟨_, rfl, _, A.numbered⟩
end
local macro_rules | `(tactic| walk_at "binaryOp Mult ref int") => `(tactic| (refine hold ?_))
local macro_rules | `(tactic| walk_at "subscriptTail BinOp Slice ref ref") => `(tactic| (refine hold ?_))
section
set_option maxRecDepth 100000
set_option maxHeartbeats 8000000
variable {w : World} {S : Lay} {d : Pl} {U : List (Addr × Obj)}
structure Made (P : Params) (fl : Addr) (num : Int) (its : Array Value) (news : List (Addr × Obj)) (c : Cell) (news' : List (Addr × Obj)) : Prop where
  num : c.num = num
  ma : (c.a, instObj 260 c.d) ∈ news'
  md : ∃ mtk, (c.d, dictOf (cellEs P fl c 0 mtk) 5) ∈ news'
  mv : ∃ ve, (c.v, PySem.W.listOf its ve) ∈ news'
  sub : ∀ p ∈ news, p ∈ news'
  fr : ∀ p ∈ news, p.1 < c.v
  vd : c.v < c.d
  da : c.d < c.a
noncomputable def Pl.grow (d : Pl) (c : Cell) (v : Value) (o : Option Cell) : Pl := { d with hs := d.hs ++ [c], lk := upd d.lk c o, vl := fun x => if x.a = c.a then v else d.vl x }
theorem StAt.grow {news news1 : List (Addr × Obj)} {H : Hid} {num : Int} {its : Array Value} {c : Cell} {vv lv : Value} {tm : Tok} {o : Option Cell} {e : Nat} (A : StAt w S d U news H) (M : Made w.params S.fl num its news c news1) (hxs : its = rowOf S.ys vv lv tm) (hlv : IsL lv o) (ho : ∀ x, o = some x → x ∈ d.hs)
    (hvv : (∃ x t, vv = .int x t) ∨ ∃ x t, vv = .str x t) (hn : ∀ x ∈ d.hs, x.num ≠ num) (hlen : d.hs.length < 10) :
    St w S (d.grow c vv o) U (setAt H.hl (PySem.W.listOf ((d.hs.map fun c => Value.ref c.a).toArray.push (.ref c.a)) e) news1) := by
  have vd := M.vd
  have da := M.da
  have nv : ∀ {a : Addr} {ob : Obj}, (a, ob) ∈ news → a ≠ c.a ∧ a ≠ c.d ∧ a ≠ c.v := fun h => by
    have := M.fr _ h
    exact ⟨Nat.ne_of_lt (Nat.lt_trans this (Nat.lt_trans vd da)), Nat.ne_of_lt (Nat.lt_trans this vd), Nat.ne_of_lt this⟩
  have off : ∀ x ∈ d.hs, x.a ≠ c.a ∧ x.d ≠ c.d ∧ x.v ≠ c.v := fun x hx => by
    obtain ⟨k', mtk', ve', u1, u2, u3⟩ := A.cells x hx
    exact ⟨(nv u1).1, (nv u2).2.1, (nv u3).2.2⟩
  have kp : ∀ {a : Addr} {ob : Obj} {n : Nat}, (a, ob) ∈ news → H.ρ a = n → n ≠ 4 → (a, ob) ∈ setAt H.hl (PySem.W.listOf ((d.hs.map fun c => Value.ref c.a).toArray.push (.ref c.a)) e) news1 := fun h1 h2 h3 => mem_setAt_ne (M.sub _ h1) (ne_ρ h2 A.rhl h3)
  have old : ∀ {a : Addr} {ob : Obj} {n : Nat}, (a, ob) ∈ news → H.ρ a = n → (if a = c.a then 10 else if a = c.d then 11 else if a = c.v then 12 else H.ρ a) = n := fun h1 h2 => by
    have := nv h1
    rw [if_neg this.1, if_neg this.2.1, if_neg this.2.2]; exact h2
  have nh := nv A.hl
  refine ⟨{ H with hn := e, lv := fun x => if x.a = c.a then lv else H.lv x, tm := fun x => if x.a = c.a then tm else H.tm x, ρ := fun a => if a = c.a then 10 else if a = c.d then 11 else if a = c.v then 12 else H.ρ a }, ?_⟩
  have mem : ∀ {x : Cell}, x ∈ d.hs ++ [c] → x ∈ d.hs ∨ x = c := fun h => (List.mem_append.mp h).imp id fun h => List.mem_singleton.mp h
  exact { A with
      iw := kp A.iw A.raw (by decide), dw := kp A.dw A.rdw (by decide), st := kp A.st A.rst (by decide), fl := kp A.fl A.rfl' (by decide), wl := kp A.wl A.rwl (by decide), ac := kp A.ac A.rac (by decide)
      hl := by
        have := mem_setAt_eq (o' := PySem.W.listOf ((d.hs.map fun c => Value.ref c.a).toArray.push (.ref c.a)) e) (M.sub _ A.hl)
        have ee : ((d.grow c vv o).hs.map fun c => Value.ref c.a).toArray = (d.hs.map fun c => Value.ref c.a).toArray.push (.ref c.a) := by simp [Pl.grow]
        rw [ee]; exact this
      own := fun p hp => kp (A.own p hp) (A.rU p hp) (by decide)
      cells := fun x hx => by
        rcases mem hx with hx | rfl
        · obtain ⟨k', mtk', ve', u1, u2, u3⟩ := A.cells x hx
          have := (off x hx).1
          refine ⟨k', mtk', ve', kp u1 (A.ra _ hx) (by decide), kp u2 (A.rd _ hx) (by decide), ?_⟩
          simp only [Pl.grow, if_neg this]
          exact kp u3 (A.rv _ hx) (by decide)
        · obtain ⟨mtk, md⟩ := M.md
          obtain ⟨ve, mv⟩ := M.mv
          refine ⟨0, mtk, ve, mem_setAt_ne M.ma nh.1.symm, mem_setAt_ne md nh.2.1.symm, ?_⟩
          simp only [Pl.grow, if_true]
          rw [← hxs]
          exact mem_setAt_ne mv nh.2.2.symm
      lks := fun x hx => by
        show IsL (if x.a = c.a then lv else H.lv x) (if x.a = c.a then o else d.lk x)
        rcases mem hx with hx | rfl
        · rw [if_neg (off x hx).1, if_neg (off x hx).1]; exact A.lks x hx
        · simp only [if_true]; exact hlv
      lkin := fun x hx y h => by
        replace h : (if x.a = c.a then o else d.lk x) = some y := h
        rcases mem hx with hx | rfl
        · rw [if_neg (off x hx).1] at h; exact List.mem_append_left _ (A.lkin x hx y h)
        · rw [if_pos rfl] at h; exact List.mem_append_left _ (ho y h)
      vls := fun x hx => by
        show (∃ y t, (if x.a = c.a then vv else d.vl x) = .int y t) ∨ ∃ y t, (if x.a = c.a then vv else d.vl x) = .str y t
        rcases mem hx with hx | rfl
        · rw [if_neg (off x hx).1]; exact A.vls x hx
        · simp only [if_true]; exact hvv
      vin := fun k x h => List.mem_append_left _ (A.vin k x h)
      aa := fun x hx y hy q => by
        rcases mem hx with hx | ex <;> rcases mem hy with hy | ey
        · exact A.aa x hx y hy q
        · rw [ey] at q; exact absurd q (off x hx).1
        · rw [ex] at q; exact absurd q.symm (off y hy).1
        · exact ex.trans ey.symm
      dd := fun x hx y hy q => by
        rcases mem hx with hx | ex <;> rcases mem hy with hy | ey
        · exact A.dd x hx y hy q
        · rw [ey] at q; exact absurd q (off x hx).2.1
        · rw [ex] at q; exact absurd q.symm (off y hy).2.1
        · exact ex.trans ey.symm
      vv := fun x hx y hy q => by
        rcases mem hx with hx | ex <;> rcases mem hy with hy | ey
        · exact A.vv x hx y hy q
        · rw [ey] at q; exact absurd q (off x hx).2.2
        · rw [ex] at q; exact absurd q.symm (off y hy).2.2
        · exact ex.trans ey.symm
      nn := fun x hx y hy q => by
        rcases mem hx with hx | ex <;> rcases mem hy with hy | ey
        · exact A.nn x hx y hy q
        · rw [ey] at q; exact absurd (q.trans M.num) (hn x hx)
        · rw [ex] at q; exact absurd (q.symm.trans M.num) (hn y hy)
        · exact ex.trans ey.symm
      hcl := by
        show (d.hs ++ [c]).length ≤ 10
        rw [List.length_append, List.length_singleton]; exact om58 hlen
      raw := old A.iw A.raw, rdw := old A.dw A.rdw, rst := old A.st A.rst, rhl := old A.hl A.rhl, rfl' := old A.fl A.rfl', rwl := old A.wl A.rwl, rac := old A.ac A.rac
      ra := fun x hx => by
        rcases mem hx with hx | rfl
        · obtain ⟨k', mtk', ve', u1, u2, u3⟩ := A.cells x hx
          exact old u1 (A.ra x hx)
        · exact if_pos rfl
      rd := fun x hx => by
        rcases mem hx with hx | rfl
        · obtain ⟨k', mtk', ve', u1, u2, u3⟩ := A.cells x hx
          exact old u2 (A.rd x hx)
        · show (if x.d = x.a then 10 else if x.d = x.d then 11 else if x.d = x.v then 12 else H.ρ x.d) = 11
          rw [if_neg (Nat.ne_of_lt da), if_pos rfl]
      rv := fun x hx => by
        rcases mem hx with hx | rfl
        · obtain ⟨k', mtk', ve', u1, u2, u3⟩ := A.cells x hx
          exact old u3 (A.rv x hx)
        · show (if x.v = x.a then 10 else if x.v = x.d then 11 else if x.v = x.v then 12 else H.ρ x.v) = 12
          rw [if_neg (Nat.ne_of_lt (Nat.lt_trans vd da)), if_neg (Nat.ne_of_lt vd), if_pos rfl]
      rU := fun p hp => old (A.own p hp) (A.rU p hp) }
theorem Made.of {P : Params} {h₀ h : Heap} {L fl x d D : Addr} {its : Array Value} {ve : Nat} {num : Int} {t1 t2 t3 t4 t5 wtk ntk mtk : Tok} {rest news : List (Addr × Obj)}
    (_ : News h₀ L h ((x, instObj 260 d) :: (d, dictOf [⟨PyData.keyHash P (Str.ofString "word"), .str (Str.ofString "word") t1, .str (Str.ofString "CELL") wtk⟩,
   ⟨PyData.keyHash P (Str.ofString "number"), .str (Str.ofString "number") t2, .int num ntk⟩,
   ⟨PyData.keyHash P (Str.ofString "mark"), .str (Str.ofString "mark") t3, .int 0 mtk⟩,
   ⟨PyData.keyHash P (Str.ofString "fields"), .str (Str.ofString "fields") t4, .ref fl⟩,
   ⟨PyData.keyHash P (Str.ofString "values"), .str (Str.ofString "values") t5, .ref D⟩] 5) :: (D, PySem.W.listOf its ve) :: rest)) (sub : ∀ p ∈ news, p ∈ rest) (fr : ∀ p ∈ news, p.1 < D) (vd : D < d) (da : d < x) :
    ∃ c : Cell, c.a = x ∧ Made P fl num its news c ((x, instObj 260 d) :: (d, dictOf [⟨PyData.keyHash P (Str.ofString "word"), .str (Str.ofString "word") t1, .str (Str.ofString "CELL") wtk⟩,
   ⟨PyData.keyHash P (Str.ofString "number"), .str (Str.ofString "number") t2, .int num ntk⟩,
   ⟨PyData.keyHash P (Str.ofString "mark"), .str (Str.ofString "mark") t3, .int 0 mtk⟩,
   ⟨PyData.keyHash P (Str.ofString "fields"), .str (Str.ofString "fields") t4, .ref fl⟩,
   ⟨PyData.keyHash P (Str.ofString "values"), .str (Str.ofString "values") t5, .ref D⟩] 5) :: (D, PySem.W.listOf its ve) :: rest) :=
  ⟨⟨x, d, D, num, ntk, wtk, t1, t2, t3, t4, t5⟩, rfl, ⟨rfl, .head _, ⟨mtk, .tail _ (.head _)⟩, ⟨ve, .tail _ (.tail _ (.head _))⟩, fun p hp => .tail _ (.tail _ (.tail _ (sub p hp))), fr, vd, da⟩⟩
theorem data_made {tl fl : Addr} {te fe : Nat} {num : Int} {nt wt : Tok} {xs fvs : List Value} (hx : xs.length = fvs.length) (hf : fvs.length ≤ 3) :
    Con w 20 200 304 [.int num nt, .str (Str.ofString "CELL") wt, .ref fl, .ref tl] (fun news => (fl, PySem.W.listOf fvs.toArray fe) ∈ news ∧ (tl, PySem.W.listOf xs.toArray te) ∈ news)
      (fun news r news' => ∃ c : Cell, r = .ref c.a ∧ Made w.params fl num xs.toArray news c news') := by
  unfold Con
  k_fill
  intro p loose mean mg mb dp un gd cn cs a ccd cl outer A₀ base h₀ L m news s Q E B F X N T hk hd hu hpre hret
  refine byC fun nG => ?_
  obtain ⟨m1, m2⟩ := hpre
  refine nG ?_
  refine wpAny_call ?_
  k_dflt ktr_enter
  k_steps
  unfold Hold
  have hsz : fvs.toArray.size ≤ 3 := by simpa using hf
  refine KMa.mul (by k_asm) (by k_asm) (News.isList (by k_asm) (by k_mem)) (by omega) (by omega) (by rw [List.length_singleton]; exact om59 hsz) rfl ?_
  intro D1 h1 F1 N1 l1
  k_steps
  unfold Hold
  refine kmk_add_lit (by k_asm) (by k_asm) (News.isList (by k_asm) (by k_mem)) (News.isList (by k_asm) (by k_mem)) rfl ?_ (by rw [sizeLine_eq]; simp; exact om60 hx hf)
  intro D2 h2 F2 N2 l2
  k_steps
  refine' kms_slice_lit (zs := xs) ?F ?N ?l ?pp ?qq ?e ?_ ?ss ?tt ?zz
  case F => k_asm
  case N => k_asm
  case pp => kmk_part
  case qq => kmk_part
  case l => exact News.isList (by k_asm) (by k_mem)
  case e =>
    have e1 : ¬ ((fvs.toArray.size : Nat) : Int) < 0 := by exact om61 hsz
    simp only [kms_pick, kms_lo, kms_hi, if_neg e1]
    simp [← hx]
  case ss => with_unfolding_all rfl
  case tt => kmk_pure
  case zz => simp [sizeLine_eq]; exact om60 hx hf
  intro D3 h3 F3 N3 l3
  k_steps
  rename _ ∧ _ ∧ _ ∧ _ ∧ AllLt _ news => la
  refine byC fun nG => ?_
  obtain ⟨c, hc, M⟩ := Made.of (by with_reducible assumption) (fun p hp => .tail _ (.tail _ (.tail _ hp))) (fun p hp => l3 p (.tail _ (.tail _ (.tail _ hp)))) la.1 (by assumption)
  refine nG ?_
  exact hret _ _ _ _ (by k_asm) (by k_asm) ⟨c, by rw [hc], M⟩
end
section
set_option maxRecDepth 100000
set_option maxHeartbeats 8000000
variable {w : World} {S : Lay} {d : Pl} {U : List (Addr × Obj)}
theorem made_data_st {tl : Addr} {te : Nat} {tm wt : Tok} {vv lv : Value} {o : Option Cell} (ok : LayOk S) (htl : (tl, PySem.W.listOf (rowOf S.ys vv lv tm) te) ∈ U) (hlv : IsL lv o) (ho : ∀ c, o = some c → c ∈ d.hs) (hn : ∀ c ∈ d.hs, c.num ≤ d.made) (hvv : (∃ x t, vv = .int x t) ∨ ∃ x t, vv = .str x t) (hlen : d.hs.length < 10) :
    Con w 40 400 368 [.ref S.aw, .str (Str.ofString "CELL") wt, .ref S.fl, .ref tl] (fun news => St w S d U news) (fun _ r news' => ∃ c : Cell, r = .ref c.a ∧ c.num = d.made + 1 ∧ (∀ x ∈ d.hs, x.a ≠ c.a) ∧ St w S (d.num.grow c vv o) U news') := by
  unfold Con
  k_fill
  intro p loose mean mg mb dp un gd cn cs a ccd cl outer A₀ base h₀ L m news s Q E B F X N T hk hd hu hpre hret
  refine wpAny_call ?_
  k_dflt ktr_enter
  k_steps
  unfold Hold
  try k_fold
  refine' con_useS (number_st (d := d) (U := U)) ?B ?F ?X ?N ?T ?hk ?hd ?hu ?pp ?_
  walk_at "use con"
  case pp => exact hpre
  rintro r1 h1 tk1 nx1 F₁ N₁ pP0
  refine byC fun nG => ?_
  obtain ⟨t1, rfl, H₁, A₁⟩ := pP0
  refine nG ?_
  have m4 := A₁.fl
  have m5 := A₁.own _ htl
  have hl1 : S.fvs.length = S.ys.length := strs_length ok.hstr
  have hl2 := ok.len
  k_steps
  unfold Hold
  try k_fold
  refine' con_useS (data_made (fl := S.fl) (tl := tl) (fe := S.fe) (te := te) (xs := (rowOf S.ys vv lv tm).toList) (fvs := S.fvs) ?hx ?hf) ?B ?F ?X ?N ?T ?hk ?hd ?hu ?pp ?_
  case hx => simp [rowOf, hl1]
  case hf => exact om62 hl1 hl2
  walk_at "use con"
  case pp => exact ⟨m4, by simpa using m5⟩
  rintro r2 h2 tk2 nx2 F₂ N₂ pP0
  refine byC fun nG => ?_
  obtain ⟨c, rfl, M⟩ := pP0
  refine nG ?_
  have ghl := A₁.ghl
  have m1 := M.sub _ A₁.iw
  have m2 := M.sub _ A₁.dw
  have m3 : (H₁.hl, PySem.W.listOf (d.hs.map fun c => Value.ref c.a).toArray H₁.hn) ∈ nx2 := M.sub _ A₁.hl
  have hcl : (d.hs.map fun c => Value.ref c.a).toArray.size < 10 := by simpa using hlen
  have hG := fun e => A₁.grow (d := d.num) (vv := vv) (lv := lv) (tm := tm) (o := o) (e := e) M (by simp) hlv ho hvv (fun x hx => by have := hn x hx; exact om63 this) hlen
  have hoff : ∀ x ∈ d.hs, x.a ≠ c.a := fun x hx q => by
    refine byC fun nG => ?_
    obtain ⟨k', mtk', ve', u1, u2, u3⟩ := A₁.cells x hx
    refine nG ?_
    have := M.fr _ u1
    have h2 := M.vd
    have h3 := M.da
    have : x.a < c.v := this
    exact absurd (q ▸ Nat.lt_trans this (Nat.lt_trans h2 h3)) (Nat.lt_irrefl _)
  k_steps
  exact hret _ _ _ _ (by k_asm) (by k_asm) ⟨c, rfl, M.num, hoff, hG _⟩
end
section
set_option maxRecDepth 100000
set_option maxHeartbeats 8000000
variable {w : World} {S : Lay} {d : Pl} {U : List (Addr × Obj)}
theorem data_copy {fl : Addr} {c : Cell} {arr : Array Value} {num mk : Int} {nt mtk : Tok} {ve : Nat} (hz : arr.size ≤ 3) :
    Con w 20 200 311 [.ref c.a, .int num nt] (fun news => (c.a, instObj 260 c.d) ∈ news ∧ (c.d, dictOf (cellEs w.params fl c mk mtk) 5) ∈ news ∧ (c.v, PySem.W.listOf arr ve) ∈ news)
      (fun news r news' => ∃ c' : Cell, r = .ref c'.a ∧ Made w.params fl num arr news c' news') := by
  unfold Con
  k_fill
  intro p loose mean mg mb dp un gd cn cs a ccd cl outer A₀ base h₀ L m news s Q E B F X N T hk hd hu hpre hret
  refine byC fun nG => ?_
  obtain ⟨m1, m2, m3⟩ := hpre
  refine nG ?_
  unfold cellEs at m2
  refine wpAny_call ?_
  k_dflt ktr_enter
  k_steps
  rename News _ _ _ ((_, instObj 260 _) :: (_, dictOf [_, _, _, _, _] 5) :: _) => NN
  rename _ ∧ AllLt _ news => la
  refine byC fun nG => ?_
  obtain ⟨c', hc, M⟩ := Made.of (news := news) NN (fun p hp => hp) (by assumption) la.1 (by assumption)
  refine nG ?_
  exact hret _ _ _ _ (by k_asm) (by k_asm) ⟨c', by rw [hc], M⟩
end
section
set_option maxRecDepth 100000
set_option maxHeartbeats 8000000
variable {w : World} {S : Lay} {d : Pl} {U : List (Addr × Obj)}
theorem made_copy_st {c₀ : Cell} (ok : LayOk S) (hc₀ : c₀ ∈ d.hs) (hn : ∀ c ∈ d.hs, c.num ≤ d.made) (hlen : d.hs.length < 10) :
    Con w 40 400 375 [.ref S.aw, .ref c₀.a] (fun news => St w S d U news) (fun _ r news' => ∃ c : Cell, r = .ref c.a ∧ c.num = d.made + 1 ∧ (∀ x ∈ d.hs, x.a ≠ c.a) ∧ St w S (d.num.grow c (d.vl c₀) (d.lk c₀)) U news') := by
  unfold Con
  k_fill
  intro p loose mean mg mb dp un gd cn cs a ccd cl outer A₀ base h₀ L m news s Q E B F X N T hk hd hu hpre hret
  refine byC fun nG => ?_
  obtain ⟨H₀, A₀'⟩ := hpre
  obtain ⟨kk, mtk, ve, q1, q2, q3⟩ := A₀'.cells c₀ hc₀
  refine nG ?_
  refine wpAny_call ?_
  k_dflt ktr_enter
  k_steps
  unfold Hold
  try k_fold
  refine' con_useS (number_st (d := d) (U := U)) ?B ?F ?X ?N ?T ?hk ?hd ?hu ?pp ?_
  walk_at "use con"
  case pp => exact ⟨H₀, A₀'⟩
  rintro r1 h1 tk1 nx1 F₁ N₁ pP0
  refine byC fun nG => ?_
  obtain ⟨t1, rfl, H₁, A₁⟩ := pP0
  obtain ⟨kk, mtk, ve, q1, q2, q3⟩ := A₁.cells c₀ hc₀
  refine nG ?_
  k_steps
  unfold Hold
  try k_fold
  refine' con_useS (data_copy (fl := S.fl) (c := c₀) (mk := kk) (mtk := mtk) (ve := ve) (arr := rowOf S.ys (d.vl c₀) (H₁.lv c₀) (H₁.tm c₀)) ?hz) ?B ?F ?X ?N ?T ?hk ?hd ?hu ?pp ?_
  case hz => rw [rowOf_size]; exact ok.len
  walk_at "use con"
  case pp => exact ⟨q1, q2, q3⟩
  rintro r2 h2 tk2 nx2 F₂ N₂ pP0
  refine byC fun nG => ?_
  obtain ⟨c, rfl, M⟩ := pP0
  refine nG ?_
  have ghl := A₁.ghl
  have m1 := M.sub _ A₁.iw
  have m2 := M.sub _ A₁.dw
  have m3 : (H₁.hl, PySem.W.listOf (d.hs.map fun c => Value.ref c.a).toArray H₁.hn) ∈ nx2 := M.sub _ A₁.hl
  have hcl : (d.hs.map fun c => Value.ref c.a).toArray.size < 10 := by simpa using hlen
  have hG := fun e => A₁.grow (d := d.num) (vv := d.vl c₀) (lv := H₁.lv c₀) (tm := H₁.tm c₀) (o := d.lk c₀) (e := e) M rfl (A₁.lks c₀ hc₀) (fun x hx => A₁.lkin c₀ hc₀ x hx) (A₁.vls c₀ hc₀) (fun x hx => by have := hn x hx; exact om63 this) hlen
  have hoff : ∀ x ∈ d.hs, x.a ≠ c.a := fun x hx q => by
    refine byC fun nG => ?_
    obtain ⟨k', mtk', ve', u1, u2, u3⟩ := A₁.cells x hx
    refine nG ?_
    have := M.fr _ u1
    have h2 := M.vd
    have h3 := M.da
    have : x.a < c.v := this
    exact absurd (q ▸ Nat.lt_trans this (Nat.lt_trans h2 h3)) (Nat.lt_irrefl _)
  k_steps
  exact hret _ _ _ _ (by k_asm) (by k_asm) ⟨c, rfl, M.num, hoff, hG _⟩
end
section
set_option maxRecDepth 100000
set_option maxHeartbeats 8000000
variable {w : World} {S : Lay} {d : Pl} {U : List (Addr × Obj)}
theorem St.push2 {news : List (Addr × Obj)} (A : St w S d U news) {x y : Addr} {o o' : Obj} (hx : ∀ p ∈ news, p.1 ≠ x) (hy : ∀ p ∈ news, p.1 ≠ y) : St w S d ((x, o) :: (y, o') :: U) ((x, o) :: (y, o') :: news) := by
  obtain ⟨H, A⟩ := A
  have old : ∀ {a : Addr} {o : Obj} {n : Nat}, (a, o) ∈ news → H.ρ a = n → (if a = x then 0 else if a = y then 0 else H.ρ a) = n := fun h1 h2 => by rw [if_neg (hx _ h1), if_neg (hy _ h1)]; exact h2
  have B := A.mono (news' := (x, o) :: (y, o') :: news) fun p hp => .tail _ (.tail _ hp)
  exact ⟨{ H with ρ := fun a => if a = x then 0 else if a = y then 0 else H.ρ a }, { B with
    own := fun p hp => by
      rcases List.mem_cons.mp hp with rfl | hp
      · exact .head _
      · rcases List.mem_cons.mp hp with rfl | hp
        · exact .tail _ (.head _)
        · exact .tail _ (.tail _ (A.own p hp))
    raw := old A.iw A.raw, rdw := old A.dw A.rdw, rst := old A.st A.rst, rhl := old A.hl A.rhl, rfl' := old A.fl A.rfl', rwl := old A.wl A.rwl, rac := old A.ac A.rac
    ra := fun c hc => let ⟨_, _, _, h, _, _⟩ := A.cells c hc; old h (A.ra c hc)
    rd := fun c hc => let ⟨_, _, _, _, h, _⟩ := A.cells c hc; old h (A.rd c hc)
    rv := fun c hc => let ⟨_, _, _, _, _, h⟩ := A.cells c hc; old h (A.rv c hc)
    rU := fun p hp => by
      rcases List.mem_cons.mp hp with rfl | hp
      · exact if_pos rfl
      · rcases List.mem_cons.mp hp with rfl | hp
        · dsimp only
          split
          · rfl
          · rw [if_pos rfl]
        · exact old (A.own p hp) (A.rU p hp) }⟩
theorem fref_st {c : Cell} {ft : Tok} (ok : LayOk S) (hc : c ∈ d.hs) :
    Con w 5 50 283 [.ref c.a, .str (Str.ofString "VALUE") ft] (fun news => St w S d U news) (fun _ r news' => ∃ q qd t1 t2 t3 t4 t5, r = .ref q ∧ St w S d ((q, instObj 117 qd) :: (qd, dictOf (refEs w.params c (S.ys.idxOf (Str.ofString "VALUE")) t1 t2 t3 t4 t5) 3) :: U) news') :=
  Con.of fun news ⟨H, A⟩ => by
    obtain ⟨kk, mtk, ve, q1, q2, q3⟩ := A.cells c hc
    have hl3 := ok.len
    refine ⟨_, _, field_ref (fl := S.fl) (c := c) (mark := kk) (mtk := mtk) (fe := S.fe) ok.hstr (om39 hl3) ok.val, ⟨q1, q2, A.fl⟩, ?_⟩
    rintro r news' ⟨q, qd, t1, t2, t3, t4, t5, rfl, rfl, l1, l2⟩
    exact ⟨q, qd, t1, t2, t3, t4, t5, rfl, St.push2 ⟨H, A⟩ (fun p hp => Nat.ne_of_lt (l1 p hp)) (fun p hp => Nat.ne_of_lt (l2 p hp))⟩
theorem rowOf_setV {ys : List Str} {vv lv v : Value} {tm : Tok} (h : Str.ofString "VALUE" ∈ ys) (hn : ys.Nodup) : (rowOf ys vv lv tm).setIfInBounds (ys.idxOf (Str.ofString "VALUE")) v = rowOf ys v lv tm := by
  unfold rowOf
  apply Array.ext'
  rw [Array.toList_setIfInBounds]
  have := map_set (x := Str.ofString "VALUE") (fun f => if f = Str.ofString "VALUE" then vv else if f = Str.ofString "LINK" then lv else .str (Str.ofString "") tm) (fun f => if f = Str.ofString "VALUE" then v else if f = Str.ofString "LINK" then lv else .str (Str.ofString "") tm) v
    (fun y hy => by simp only [if_neg hy]) (by simp) hn
  rw [if_pos h] at this
  exact this
noncomputable def Pl.put (d : Pl) (c : Cell) (v : Value) : Pl := { d with vl := fun x => if x.a = c.a then v else d.vl x }
theorem ref_set_st {c : Cell} {q qd : Addr} {t1 t2 t3 t4 t5 vt : Tok} {k : Str} (ok : LayOk S) (hc : c ∈ d.hs) :
    Con w 12 80 472 [.ref S.aw, .ref q, .str k vt] (fun news => St w S d ((q, instObj 117 qd) :: (qd, dictOf (refEs w.params c (S.ys.idxOf (Str.ofString "VALUE")) t1 t2 t3 t4 t5) 3) :: U) news) (fun _ r news' => r = .none ∧ St w S (d.put c (.str k vt)) U news') :=
  Con.of fun news ⟨H, A⟩ => by
    obtain ⟨kk, mtk, ve, q1, q2, q3⟩ := A.cells c hc
    have hlen := List.idxOf_lt_length_iff.mpr ok.val
    have hl3 := ok.len
    refine ⟨_, _, ref_set (fl := S.fl) (c := c) (mark := kk) (mtk := mtk) (q := q) (qd := qd) (ve := ve) (arr := rowOf S.ys (d.vl c) (H.lv c) (H.tm c)) (j := S.ys.idxOf (Str.ofString "VALUE")) (t1 := t1) (t2 := t2) (t3 := t3) (t4 := t4) (t5 := t5) (om40 hlen hl3) (by rw [rowOf_size]; exact Int.ofNat_lt.mpr hlen), ⟨A.own _ (.head _), A.own _ (.tail _ (.head _)), q1, q2, q3⟩, ?_⟩
    rintro r news' ⟨rfl, rfl⟩
    rw [rowOf_setV ok.val ok.nd]
    refine ⟨rfl, H, ?_⟩
    have hrv := A.rv c hc
    have ap := A.apart
    have kp : ∀ {a : Addr} {ob : Obj} {n : Nat}, (a, ob) ∈ news → H.ρ a = n → n ≠ 12 → (a, ob) ∈ setAt c.v (PySem.W.listOf (rowOf S.ys (.str k vt) (H.lv c) (H.tm c)) ve) news := fun h1 h2 h3 => mem_setAt_ne h1 (ne_ρ h2 hrv h3)
    exact { A with
      iw := kp A.iw A.raw (by decide), dw := kp A.dw A.rdw (by decide), st := kp A.st A.rst (by decide), hl := kp A.hl A.rhl (by decide), fl := kp A.fl A.rfl' (by decide), wl := kp A.wl A.rwl (by decide), ac := kp A.ac A.rac (by decide)
      own := fun p hp => kp (A.own p (.tail _ (.tail _ hp))) (A.rU p (.tail _ (.tail _ hp))) (by decide)
      rU := fun p hp => A.rU p (.tail _ (.tail _ hp))
      cells := fun c' hc' => by
        obtain ⟨k', mtk', ve', u1, u2, u3⟩ := A.cells c' hc'
        by_cases e : c' = c
        · subst e
          refine ⟨k', mtk', ve, kp u1 (A.ra _ hc') (by decide), kp u2 (A.rd _ hc') (by decide), ?_⟩
          simp only [Pl.put, if_true]
          exact mem_setAt_eq u3
        · have hne : c'.a ≠ c.a := fun q => e (ap.aa c' hc' c hc q)
          refine ⟨k', mtk', ve', kp u1 (A.ra _ hc') (by decide), kp u2 (A.rd _ hc') (by decide), ?_⟩
          simp only [Pl.put, if_neg hne]
          exact mem_setAt_ne u3 fun q => e (ap.vv c' hc' c hc q)
      vls := fun c' hc' => by
        show (∃ y t, (if c'.a = c.a then Value.str k vt else d.vl c') = .int y t) ∨ ∃ y t, (if c'.a = c.a then Value.str k vt else d.vl c') = .str y t
        by_cases e : c'.a = c.a
        · simp only [if_pos e]; exact .inr ⟨k, vt, rfl⟩
        · simp only [if_neg e]; exact A.vls c' hc' }
end
section
set_option maxRecDepth 100000
set_option maxHeartbeats 8000000
variable {w : World} {S : Lay} {d : Pl} {U : List (Addr × Obj)}
structure WorldNew (w : World) (aw dw st hl : Addr) (wes : List DictEntry) (wn : Nat) (so : Obj) (mt : Tok) (news news' : List (Addr × Obj)) : Prop where
  mw : (aw, instObj 329 dw) ∈ news'
  md : (dw, dictOf wes wn) ∈ news'
  gst : getL (Str.ofString "store") wes = some (some (.ref st))
  ghl : getL (Str.ofString "holders") wes = some (some (.ref hl))
  gmd : getL (Str.ofString "made") wes = some (some (.int 0 mt))
  ms : (st, so) ∈ news'
  mh : (hl, PySem.W.listOf #[] 0) ∈ news'
  wz : wes.length ≤ 500
  iso : so.IsDictOf (PySem.strKind PySem.Challenge.rw_sa0599_01.row.prog w) []
  sub : ∀ p ∈ news, p ∈ news'
  fr : ∀ p ∈ news, p.1 < dw
  o1 : dw < aw
  o2 : aw < st
  o3 : st < hl
theorem find_dict {h₀ h : Heap} {L d : Addr} {l : List (Addr × Obj)} {es : List DictEntry} {n : Nat} (_ : News h₀ L h l) (hm : (d, dictOf es n) ∈ l) : (d, dictOf es n) ∈ l := hm
theorem find_at {h₀ h : Heap} {L d : Addr} {l : List (Addr × Obj)} {o : Obj} (_ : News h₀ L h l) (hm : (d, o) ∈ l) : (d, o) ∈ l := hm
theorem get_of {d : Addr} {l : List (Addr × Obj)} {es : List DictEntry} {n : Nat} {k : Str} {v : Value} (_ : (d, dictOf es n) ∈ l) (h : getL k es = some (some v)) : getL k es = some (some v) := h
theorem get_name {d a : Addr} {l : List (Addr × Obj)} {es : List DictEntry} {n : Nat} {k : Str} {G : Prop} (_ : (d, dictOf es n) ∈ l) (_ : getL k es = some (some (.ref a))) (g : ∀ x, x = a → G) : G := g _ rfl
structure AttrD (es : List DictEntry) (l : List (Str × Value)) (k : Nat) : Prop where
  ref : es.any (·.refKey) = false
  len : es.length ≤ k
  get : ∀ x v, l.lookup x = some v → getL x es = some (some v)
theorem AttrD.nil : AttrD [] [] 0 := ⟨rfl, Nat.le_refl _, fun _ _ h => by cases h⟩
theorem AttrD.some_ {es : List DictEntry} {l : List (Str × Value)} {k : Nat} (D : AttrD es l k) (x : Str) : (getL x es).isSome = true := by
  unfold getL
  split
  · rfl
  · rw [D.ref]; rfl
theorem putL_ref {name : Str} {hsh : Int} {t : Tok} {v : Value} : ∀ {es : List DictEntry}, es.any (·.refKey) = false → (putL name hsh (.str name t) v es).any (·.refKey) = false
  | [], _ => rfl
  | e :: r, h => by
    rw [List.any_cons, Bool.or_eq_false_iff] at h
    unfold putL
    split
    · rw [List.any_cons, Bool.or_eq_false_iff]
      exact ⟨h.1, h.2⟩
    · rw [List.any_cons, Bool.or_eq_false_iff]
      exact ⟨h.1, putL_ref h.2⟩
theorem find_put {name : Str} {hsh : Int} {t : Tok} {v : Value} : ∀ (es : List DictEntry), ∃ e, (putL name hsh (.str name t) v es).find? (·.key.isStr name) = some e ∧ e.val = v
  | [] => ⟨⟨hsh, .str name t, v⟩, by simp [putL, Value.isStr], rfl⟩
  | e :: r => by
    unfold putL
    split
    · rename_i h
      exact ⟨⟨e.hash, e.key, v⟩, by simp [h], rfl⟩
    · rename_i h
      obtain ⟨e', h1, h2⟩ := find_put (name := name) (hsh := hsh) (t := t) (v := v) r
      exact ⟨e', by rw [List.find?_cons_of_neg (by simpa using h)]; exact h1, h2⟩
theorem getL_put_any {name : Str} {hsh : Int} {t : Tok} {v : Value} (es : List DictEntry) : getL name (putL name hsh (.str name t) v es) = some (some v) := by
  obtain ⟨e, h1, h2⟩ := find_put (name := name) (hsh := hsh) (t := t) (v := v) es
  unfold getL
  rw [h1, ← h2]
theorem AttrD.put {es es' : List DictEntry} {l l' : List (Str × Value)} {k : Nat} {name : Str} {hsh : Int} {t : Tok} {v : Value} (D : AttrD es l k) (e : putL name hsh (.str name t) v es = es') (hl : ∀ x u, l'.lookup x = some u → ((name, v) :: l).lookup x = some u) : AttrD es' l' (k + 1) := by
  subst e
  refine ⟨putL_ref D.ref, Nat.le_trans putL_le (Nat.succ_le_succ D.len), fun x u h => ?_⟩
  have h := hl x u h
  rw [List.lookup_cons] at h
  by_cases q : x = name
  · subst q
    rw [beq_self_eq_true] at h
    cases h
    exact getL_put_any es
  · rw [beq_eq_false_iff_ne.mpr q] at h
    exact getL_put_ne (D.get x u h) q
theorem look_drop {l : List (Str × Value)} {name : Str} {v : Value} (h : l.lookup name = none) (x : Str) (u : Value) (hx : l.lookup x = some u) : ((name, v) :: l).lookup x = some u := by
  rw [List.lookup_cons]
  by_cases q : x = name
  · subst q; rw [h] at hx; cases hx
  · rw [beq_eq_false_iff_ne.mpr q]; exact hx
section
variable {prog : Program} {A : Around} {E : Value → Shared → Prop} {hp : Heap} {g : Array GenState} {dr : Drawn} {tk : Nat} {os : OsState} {h₀ : Heap} {L : Addr} {m : Str → Option Value}
theorem store_any {K : Frag} {x C dx : Addr} {es : List DictEntry} {n k : Nat} {l l' : List (Str × Value)} {name : Str} {v : Value} {news rest : List (Addr × Obj)} {Q : Unit → Shared → Prop} (F : Fr h₀ L hp m) (X₀ : K.In h₀) (N : News h₀ L hp news) (hi : (x, instObj C dx) ∈ news) (hm : (dx, dictOf es n) ∈ news) (D : AttrD es l k)
    (hs : findIn K (.ref C) "__setattr__" = some (some (.builtin "object.__setattr__"))) (hpl : plainOver K C = true) (ht : takerIn K C name = some none) (hh : hasDictIn K C = true) (hk : k + 1 ≤ 1000) (hr : ∀ p ∈ rest, p ∈ news ∧ p.1 ≠ dx) (hl : ∀ x u, l'.lookup x = some u → ((name, v) :: l).lookup x = some u)
    (h : ∀ h' es' n' tk', Fr h₀ L h' m → News h₀ L h' ((dx, dictOf es' n') :: rest) → AttrD es' l' (k + 1) → Q () ⟨h', g, dr, tk', os⟩) :
    wpAny (model prog w) A (setAttr (.ref x) name v) Q E ⟨hp, g, dr, tk, os⟩ := by
  have D' := D.put (name := name) (hsh := PyData.keyHash w.params name) (t := tk + 1) (v := v) rfl hl
  refine attr_set_at (s := ⟨hp, g, dr, tk, os⟩) F X₀ N hi hm hs hpl ht hh (D.some_ name) rfl (Nat.le_trans D'.len hk) fun h' F' N' => h h' _ (putN name es n) (tk + 2) F' (News.sub N' fun p hp => ?_) D'
  rcases List.mem_cons.mp hp with rfl | hp
  · exact mem_setAt_eq hm
  · exact mem_setAt_ne (hr p hp).1 (hr p hp).2
theorem name_o {a : Addr} {o : Obj} {r : List (Addr × Obj)} {G : Prop} (_ : News h₀ L hp ((a, o) :: r)) (k : ∀ x, x = o → G) : G := k _ rfl
end
local macro_rules | `(tactic| walk_at "setAttr ref") => `(tactic| ((with_reducible show wpAny _ _ (setAttr (Value.ref _) _ _) _ _ _); refine hold ?_))
local macro_rules | `(tactic| walk_at "store sides") => `(tactic| ((case F => k_asm); (case X => k_asm); (case N => k_asm); (case hi => k_mem); (case hm => k_mem); (case hs => k_is); (case hp => k_is); (case ht => k_is); (case hh => k_is); (case hk => exact Nat.le_of_ble_eq_true rfl)))
theorem world_made : Con w 20 200 329 [] (fun _ => True) (fun news r news' => ∃ aw dw st hl wes wn so mt, r = .ref aw ∧ WorldNew w aw dw st hl wes wn so mt news news') := by
  unfold Con
  k_fill
  intro p loose mean mg mb dp un gd cn cs a ccd cl outer A₀ base h₀ L m news s Q E B F X N T hk hd hu hpre hret
  k_here
  refine' call_cls ?k1 ?k2 ?k3 ?k4 ?k5 ?k6 ?_
  case k1 => k_asm
  case k2 => k_asm
  case k3 => k_asm
  case k4 => k_is
  case k5 => k_is
  case k6 => k_is
  k_whole
  intro x' d' h' F' N' l1 l2
  (try k_lt l1)
  (try k_lt2 l2)
  (try k_sweep)
  refine' code_def ?k1 ?k2 ?k3 ?k4 ?k5 ?kA ?kF ?kK ?k6 ?k7 ?k8 ?k9 ?kB ?_ ?c2 ?c3 ?c4 ?c5
  case kA => exact rfl
  case kF => exact rfl
  case kK => assumption
  case k1 => k_asm
  case k2 => k_asm
  case k3 => k_asm
  case k4 => k_asm
  case k5 => k_asm
  case k6 => k_is
  case k7 => k_is
  case k8 => k_room
  case k9 => exact binds_K (by k_in) rfl (by k_is) rfl rfl rfl
  case c5 => decide
  case kB => exact locs rfl
  case c2 => exact rfl
  case c3 => exact rfl
  case c4 => exact rfl
  k_whole
  intro g' L' h' FG' F' N' B' X' T'
  (try dsimp only)
  k_lift B'
  k_fold
  k_steps
  have HR0 : ∀ p ∈ (x', instObj 329 d') :: news, p.1 ≠ d' := fun p hp => by
    rcases List.mem_cons.mp hp with rfl | hp
    · exact Nat.ne_of_gt l2
    · exact Nat.ne_of_lt (l1 p hp)
  unfold Hold
  refine' store_any (rest := (x', instObj 329 d') :: news) ?F ?X ?N ?hi ?hm AttrD.nil ?hs ?hp ?ht ?hh ?hk ?hr (look_drop rfl) ?_
  walk_at "store sides"
  case hr => exact fun p hp => ⟨by rcases List.mem_cons.mp hp with rfl | hp; exact .head _; exact .tail _ (.tail _ hp), HR0 p hp⟩
  intro h1 es1 n1 tk1 F1 N1 D1
  k_steps
  unfold Hold
  refine' store_any (rest := (x', instObj 329 d') :: news) ?F ?X ?N ?hi ?hm D1 ?hs ?hp ?ht ?hh ?hk ?hr (look_drop rfl) ?_
  walk_at "store sides"
  case hr => exact fun p hp => ⟨.tail _ hp, HR0 p hp⟩
  intro h2 es2 n2 tk2 F2 N2 D2
  (try clear N1); (try clear F1)
  k_steps
  unfold Hold
  refine' store_any (rest := (x', instObj 329 d') :: news) ?F ?X ?N ?hi ?hm D2 ?hs ?hp ?ht ?hh ?hk ?hr (look_drop rfl) ?_
  walk_at "store sides"
  case hr => exact fun p hp => ⟨.tail _ hp, HR0 p hp⟩
  intro h3 es3 n3 tk3 F3 N3 D3
  (try clear N2); (try clear F2)
  k_steps
  unfold Hold
  refine' store_any (rest := (x', instObj 329 d') :: news) ?F ?X ?N ?hi ?hm D3 ?hs ?hp ?ht ?hh ?hk ?hr (look_drop rfl) ?_
  walk_at "store sides"
  case hr => exact fun p hp => ⟨.tail _ hp, HR0 p hp⟩
  intro h4 es4 n4 tk4 F4 N4 D4
  (try clear N3); (try clear F3)
  k_steps
  unfold Hold
  refine' store_any (rest := (x', instObj 329 d') :: news) ?F ?X ?N ?hi ?hm D4 ?hs ?hp ?ht ?hh ?hk ?hr (look_drop rfl) ?_
  walk_at "store sides"
  case hr => exact fun p hp => ⟨.tail _ hp, HR0 p hp⟩
  intro h5 es5 n5 tk5 F5 N5 D5
  (try clear N4); (try clear F4)
  k_steps
  rename News _ _ _ ((_, _) :: (_, dictOf es5 _) :: _) => NS
  rename Obj.IsDictOf (PySem.strKind _ _) _ _ => iso
  rename _ ∧ _ ∧ AllLt _ _ => q5
  refine name1 NS fun st e => ?_
  subst e
  refine name_o NS fun so e => ?_
  subst e
  have o2 : x' < st := by first | exact q5.2.1 | exact q5.1
  have o0 : d' < st := by first | exact q5.1 | exact q5.2.1
  have HR1 : ∀ p ∈ (st, so) :: (x', instObj 329 d') :: news, p.1 ≠ d' := fun p hp => by
    rcases List.mem_cons.mp hp with rfl | hp
    · exact Nat.ne_of_gt o0
    · exact HR0 p hp
  unfold Hold
  refine' store_any (rest := (st, so) :: (x', instObj 329 d') :: news) ?F ?X ?N ?hi ?hm D5 ?hs ?hp ?ht ?hh ?hk ?hr (fun _ _ h => h) ?_
  walk_at "store sides"
  case hr => exact fun p hp => ⟨by rcases List.mem_cons.mp hp with rfl | hp; exact .head _; exact .tail _ (.tail _ hp), HR1 p hp⟩
  intro h6 es6 n6 tk6 F6 N6 D6
  (try clear N5); (try clear F5)
  k_steps
  unfold Hold
  refine' store_any (rest := (st, so) :: (x', instObj 329 d') :: news) ?F ?X ?N ?hi ?hm D6 ?hs ?hp ?ht ?hh ?hk ?hr (look_drop rfl) ?_
  walk_at "store sides"
  case hr => exact fun p hp => ⟨.tail _ (.tail _ hp), HR1 p hp⟩
  intro h7 es7 n7 tk7 F7 N7 D7
  (try clear N6); (try clear F6)
  k_steps
  unfold Hold
  refine' store_any (rest := (st, so) :: (x', instObj 329 d') :: news) ?F ?X ?N ?hi ?hm D7 ?hs ?hp ?ht ?hh ?hk ?hr (look_drop rfl) ?_
  walk_at "store sides"
  case hr => exact fun p hp => ⟨.tail _ (.tail _ hp), HR1 p hp⟩
  intro h8 es8 n8 tk8 F8 N8 D8
  (try clear N7); (try clear F7)
  k_steps
  unfold Hold
  refine' store_any (rest := (st, so) :: (x', instObj 329 d') :: news) ?F ?X ?N ?hi ?hm D8 ?hs ?hp ?ht ?hh ?hk ?hr (look_drop rfl) ?_
  walk_at "store sides"
  case hr => exact fun p hp => ⟨.tail _ (.tail _ hp), HR1 p hp⟩
  intro h9 es9 n9 tk9 F9 N9 D9
  (try clear N8); (try clear F8)
  k_steps
  unfold Hold
  refine' store_any (rest := (st, so) :: (x', instObj 329 d') :: news) ?F ?X ?N ?hi ?hm D9 ?hs ?hp ?ht ?hh ?hk ?hr (look_drop rfl) ?_
  walk_at "store sides"
  case hr => exact fun p hp => ⟨.tail _ (.tail _ hp), HR1 p hp⟩
  intro h10 es10 n10 tk10 F10 N10 D10
  (try clear N9); (try clear F9)
  k_steps
  unfold Hold
  refine' store_any (rest := (st, so) :: (x', instObj 329 d') :: news) ?F ?X ?N ?hi ?hm D10 ?hs ?hp ?ht ?hh ?hk ?hr (look_drop rfl) ?_
  walk_at "store sides"
  case hr => exact fun p hp => ⟨.tail _ (.tail _ hp), HR1 p hp⟩
  intro h11 es11 n11 tk11 F11 N11 D11
  (try clear N10); (try clear F10)
  k_steps
  unfold Hold
  refine' store_any (rest := (st, so) :: (x', instObj 329 d') :: news) ?F ?X ?N ?hi ?hm D11 ?hs ?hp ?ht ?hh ?hk ?hr (look_drop rfl) ?_
  walk_at "store sides"
  case hr => exact fun p hp => ⟨.tail _ (.tail _ hp), HR1 p hp⟩
  intro h12 es12 n12 tk12 F12 N12 D12
  (try clear N11); (try clear F11)
  k_steps
  unfold Hold
  refine' store_any (rest := (st, so) :: (x', instObj 329 d') :: news) ?F ?X ?N ?hi ?hm D12 ?hs ?hp ?ht ?hh ?hk ?hr (look_drop rfl) ?_
  walk_at "store sides"
  case hr => exact fun p hp => ⟨.tail _ (.tail _ hp), HR1 p hp⟩
  intro h13 es13 n13 tk13 F13 N13 D13
  (try clear N12); (try clear F12)
  k_steps
  unfold Hold
  refine' store_any (rest := (st, so) :: (x', instObj 329 d') :: news) ?F ?X ?N ?hi ?hm D13 ?hs ?hp ?ht ?hh ?hk ?hr (look_drop rfl) ?_
  walk_at "store sides"
  case hr => exact fun p hp => ⟨.tail _ (.tail _ hp), HR1 p hp⟩
  intro h14 es14 n14 tk14 F14 N14 D14
  (try clear N13); (try clear F13)
  k_steps
  unfold Hold
  refine' store_any (rest := (st, so) :: (x', instObj 329 d') :: news) ?F ?X ?N ?hi ?hm D14 ?hs ?hp ?ht ?hh ?hk ?hr (look_drop rfl) ?_
  walk_at "store sides"
  case hr => exact fun p hp => ⟨.tail _ (.tail _ hp), HR1 p hp⟩
  intro h15 es15 n15 tk15 F15 N15 D15
  (try clear N14); (try clear F14)
  k_steps
  unfold Hold
  refine' store_any (rest := (st, so) :: (x', instObj 329 d') :: news) ?F ?X ?N ?hi ?hm D15 ?hs ?hp ?ht ?hh ?hk ?hr (look_drop rfl) ?_
  walk_at "store sides"
  case hr => exact fun p hp => ⟨.tail _ (.tail _ hp), HR1 p hp⟩
  intro h16 es16 n16 tk16 F16 N16 D16
  (try clear N15); (try clear F15)
  k_steps
  unfold Hold
  refine' store_any (rest := (st, so) :: (x', instObj 329 d') :: news) ?F ?X ?N ?hi ?hm D16 ?hs ?hp ?ht ?hh ?hk ?hr (look_drop rfl) ?_
  walk_at "store sides"
  case hr => exact fun p hp => ⟨.tail _ hp, HR1 p hp⟩
  intro h17 es17 n17 tk17 F17 N17 D17
  (try clear N16); (try clear F16)
  k_steps
  unfold Hold
  refine' store_any (rest := (st, so) :: (x', instObj 329 d') :: news) ?F ?X ?N ?hi ?hm D17 ?hs ?hp ?ht ?hh ?hk ?hr (look_drop rfl) ?_
  walk_at "store sides"
  case hr => exact fun p hp => ⟨.tail _ hp, HR1 p hp⟩
  intro h18 es18 n18 tk18 F18 N18 D18
  (try clear N17); (try clear F17)
  k_steps
  unfold Hold
  refine' store_any (rest := (st, so) :: (x', instObj 329 d') :: news) ?F ?X ?N ?hi ?hm D18 ?hs ?hp ?ht ?hh ?hk ?hr (look_drop rfl) ?_
  walk_at "store sides"
  case hr => exact fun p hp => ⟨.tail _ hp, HR1 p hp⟩
  intro h19 es19 n19 tk19 F19 N19 D19
  (try clear N18); (try clear F18)
  k_steps
  unfold Hold
  refine' store_any (rest := (st, so) :: (x', instObj 329 d') :: news) ?F ?X ?N ?hi ?hm D19 ?hs ?hp ?ht ?hh ?hk ?hr (look_drop rfl) ?_
  walk_at "store sides"
  case hr => exact fun p hp => ⟨.tail _ (.tail _ hp), HR1 p hp⟩
  intro h20 es20 n20 tk20 F20 N20 D20
  (try clear N19); (try clear F19)
  k_steps
  unfold Hold
  refine' store_any (rest := (st, so) :: (x', instObj 329 d') :: news) ?F ?X ?N ?hi ?hm D20 ?hs ?hp ?ht ?hh ?hk ?hr (fun _ _ h => h) ?_
  walk_at "store sides"
  case hr => exact fun p hp => ⟨.tail _ hp, HR1 p hp⟩
  intro h21 es21 n21 tk21 F21 N21 D21
  (try clear N20); (try clear F20)
  k_steps
  rename News _ _ _ ((_, _) :: (_, dictOf es21 _) :: _) => NS
  rename _ ∧ _ ∧ _ ∧ AllLt _ _ => q6
  refine name1 NS fun hl e => ?_
  subst e
  have o3 : st < hl := by first | exact q6.2.1 | exact q6.1
  have HR2 : ∀ p ∈ (hl, PySem.W.listOf #[] 0) :: (st, so) :: (x', instObj 329 d') :: news, p.1 ≠ d' := fun p hp => by
    rcases List.mem_cons.mp hp with rfl | hp
    · exact Nat.ne_of_gt (Nat.lt_trans o0 o3)
    · exact HR1 p hp
  unfold Hold
  refine' store_any (rest := (hl, PySem.W.listOf #[] 0) :: (st, so) :: (x', instObj 329 d') :: news) ?F ?X ?N ?hi ?hm D21 ?hs ?hp ?ht ?hh ?hk ?hr (fun _ _ h => h) ?_
  walk_at "store sides"
  case hr => exact fun p hp => ⟨by rcases List.mem_cons.mp hp with rfl | hp; exact .head _; exact .tail _ (.tail _ hp), HR2 p hp⟩
  intro h22 es22 n22 tk22 F22 N22 D22
  (try clear N21); (try clear F21)
  k_steps
  unfold Hold
  refine' store_any (rest := (hl, PySem.W.listOf #[] 0) :: (st, so) :: (x', instObj 329 d') :: news) ?F ?X ?N ?hi ?hm D22 ?hs ?hp ?ht ?hh ?hk ?hr (look_drop rfl) ?_
  walk_at "store sides"
  case hr => exact fun p hp => ⟨.tail _ hp, HR2 p hp⟩
  intro h23 es23 n23 tk23 F23 N23 D23
  (try clear N22); (try clear F22)
  k_steps
  unfold Hold
  refine' store_any (rest := (hl, PySem.W.listOf #[] 0) :: (st, so) :: (x', instObj 329 d') :: news) ?F ?X ?N ?hi ?hm D23 ?hs ?hp ?ht ?hh ?hk ?hr (look_drop rfl) ?_
  walk_at "store sides"
  case hr => exact fun p hp => ⟨.tail _ hp, HR2 p hp⟩
  intro h24 es24 n24 tk24 F24 N24 D24
  (try clear N23); (try clear F23)
  k_steps
  unfold Hold
  refine' store_any (rest := (hl, PySem.W.listOf #[] 0) :: (st, so) :: (x', instObj 329 d') :: news) ?F ?X ?N ?hi ?hm D24 ?hs ?hp ?ht ?hh ?hk ?hr (look_drop rfl) ?_
  walk_at "store sides"
  case hr => exact fun p hp => ⟨.tail _ hp, HR2 p hp⟩
  intro h25 es25 n25 tk25 F25 N25 D25
  (try clear N24); (try clear F24)
  k_steps
  unfold Hold
  refine' store_any (rest := (hl, PySem.W.listOf #[] 0) :: (st, so) :: (x', instObj 329 d') :: news) ?F ?X ?N ?hi ?hm D25 ?hs ?hp ?ht ?hh ?hk ?hr (look_drop rfl) ?_
  walk_at "store sides"
  case hr => exact fun p hp => ⟨.tail _ (.tail _ hp), HR2 p hp⟩
  intro h26 es26 n26 tk26 F26 N26 D26
  (try clear N25); (try clear F25)
  k_steps
  exact hret _ _ _ _ (by k_asm) (by k_asm) ⟨x', d', st, hl, _, _, _, _, rfl, { mw := .tail _ (.tail _ (.tail _ (.head _))), md := .head _, gst := D26.get _ _ rfl, ghl := D26.get _ _ rfl, gmd := D26.get _ _ rfl, ms := .tail _ (.tail _ (.head _)), mh := .tail _ (.head _), wz := Nat.le_trans D26.len (Nat.le_of_ble_eq_true rfl), iso := iso, sub := fun p hp => .tail _ (.tail _ (.tail _ (.tail _ hp))), fr := l1, o1 := l2, o2 := o2, o3 := o3 }⟩
end
section
set_option maxRecDepth 100000
set_option maxHeartbeats 8000000
section
variable {prog : Program} {w : World} {A : Around} {E : Value → Shared → Prop} {Q : Flow → Shared → Prop} {s : Shared} {env : Env} {h₀ : Heap}
noncomputable def CEnd (h₀ : Heap) (L : Addr) (wr : List Addr) (own : List (Addr × Obj)) (Jn : (Str → Option Value) → List (Addr × Obj) → Prop) (s₁ s₂ : Shared) : Prop :=
  ∃ h' tk m' nx, s₂ = { s₁ with heap := h', toks := tk } ∧ Fr h₀ L h' m' ∧ News h₀ L h' (own ++ nx) ∧ (∀ p ∈ nx, p.1 ∉ wr) ∧ Jn m' nx
noncomputable def CPostF (h₀ : Heap) (L : Addr) (wr : List Addr) (own : List (Addr × Obj)) (Jn : (Str → Option Value) → List (Addr × Obj) → Prop) (s₁ : Shared) (Q : Flow → Shared → Prop) (f : Flow) (s₂ : Shared) : Prop :=
  match f with
  | .ret v => Q (.ret v) s₂
  | .brk => Q .next s₂
  | _ => CEnd h₀ L wr own Jn s₁ s₂
noncomputable def LoopAtC (prog : Program) (w : World) (A : Around) (h₀ : Heap) (env : Env) (x : Str) (px : Pos) (body : List Stmt) (Q : Flow → Shared → Prop) (E : Value → Shared → Prop) (it : Value) (s₂ : Shared) : Prop :=
  ∃ (I : Addr) (fp wr : List Addr) (n : Nat) (P : Nat → Value → Prop) (St : Nat → Heap → Prop) (m : Str → Option Value) (news : List (Addr × Obj)) (J : Nat → (Str → Option Value) → List (Addr × Obj) → Prop),
    it = .ref I ∧ Walks prog w A I fp wr n P St ∧ env.locals ∉ fp ∧ (∀ b ∈ wr, h₀.get? b = none) ∧ (∀ p ∈ news, p.1 ∉ wr) ∧ St 0 s₂.heap ∧ Fr h₀ env.locals s₂.heap m ∧ News h₀ env.locals s₂.heap news ∧ J 0 m news ∧
    (∀ i v m₁ nx h tk own, i < n → P i v → J i m₁ nx → (∀ p ∈ nx, p.1 ∉ wr) → (∀ p ∈ own, p.1 ∈ fp) → (∀ b ∈ fp, h₀.get? b = none → ∀ o, h.get? b = some o → (b, o) ∈ own) → St (i + 1) h → Fr h₀ env.locals h m₁ → News h₀ env.locals h (own ++ nx) →
      wpAny (model prog w) A (assign (.Name x px) env v) (fun _ s₃ => wpAny (model prog w) A (execs body env) (CPostF h₀ env.locals wr own (J (i + 1)) { s₂ with heap := h, toks := tk } Q) E s₃) E { s₂ with heap := h, toks := tk }) ∧
    ∀ h' tk m' nx, Fr h₀ env.locals h' m' → News h₀ env.locals h' nx → (∀ p ∈ nx, p.1 ∉ wr) → J n m' nx → Q .next { s₂ with heap := h', toks := tk }
theorem For_cell {x : Str} {px pos : Pos} {iter : PySem.Expr} {body : List Stmt} (h₀ : Heap)
    (h : wpAny (model prog w) A (eval iter env) (fun xv s₁ => wpAny (model prog w) A (pyIter xv) (fun it s₂ => LoopAtC prog w A h₀ env x px body Q E it s₂) E s₁) E s)
    (hs : ∀ x, foldedSetIterable iter env x = pure x := by intro _; rfl)
    (hE : PassesOwn (model prog w) A env E := by passes_own) :
    wpAny (model prog w) A (exec (.For (.Name x px) iter body [] pos) env) Q E s := by
  refine wpAny_For (wpAny_mono h (fun xv s₁ h₁ => wpAny_mono h₁ (fun it s₂ h₂ => ?_) fun _ _ e => e) fun _ _ e => e) hs
  refine byC fun nG => ?_
  obtain ⟨I, fp, wr, n, P, St, m, news, J, rfl, W, hLf, hwr, hnw, hst, F, N, h0, step, hQ⟩ := h₂
  refine nG ?_
  have hLw : env.locals ∉ wr := fun h => hLf (W.sub _ h)
  have old : ∀ b o, h₀.get? b = some o → b ∉ wr := fun b o e hb => by rw [hwr b hb] at e; cases e
  refine codeAny_forLoop
    (fun k s' => ∃ h' tk m' nx i, s' = { s₂ with heap := h', toks := tk } ∧ St i h' ∧ Fr h₀ env.locals h' m' ∧ News h₀ env.locals h' nx ∧ (∀ p ∈ nx, p.1 ∉ wr) ∧ J i m' nx ∧ i ≤ n ∧ k = n + 1 - i) ?_ (n + 1)
    ⟨s₂.heap, s₂.toks, m, news, 0, rfl, hst, F, N, hnw, h0, Nat.zero_le _, rfl⟩
  rintro k s' pP0
  refine byC fun nG => ?_
  obtain ⟨h', tk, m', nx, i, rfl, hst', F', N', hnw', hJ, hi, rfl⟩ := pP0
  refine nG ?_
  have next : ∀ h₁ : Heap, (∀ b o, b ∉ wr → h'.get? b = some o → h₁.get? b = some o) → Fr h₀ env.locals h₁ m' ∧ News h₀ env.locals h₁ nx := fun h₁ hk₁ =>
    ⟨⟨F'.ns.at' fun o e => hk₁ _ o hLw e, fun b o e => hk₁ b o (old b o e) (F'.keep b o e), F'.above⟩, fun p hp => ⟨hk₁ _ _ (hnw' p hp) (N' p hp).1, (N' p hp).2⟩⟩
  by_cases hlt : i < n
  · refine W.item i _ _ _ hlt hst' fun v h₁ tk₁ hP hst₁ hk₁ => ?_
    refine byC fun nG => ?_
    obtain ⟨F₁, N₁⟩ := next h₁ hk₁
    refine nG ?_
    have Nown : News h₀ env.locals h₁ (ownOf h₀ fp h₁) := news_ownOf hLf
    have z := step i v m' nx h₁ tk₁ (ownOf h₀ fp h₁) hlt hP hJ hnw' ownOf_sub (fun b hb hn o e => mem_ownOf hb hn e) hst₁ F₁ (Nown.append N₁)
    refine wpAny_mono (wpAny_passesOwn hE z) (fun _ s₃ h₃ => wpAny_mono (wpAny_passesOwn hE h₃) (fun f s₄ h₄ => ?_) fun _ _ e => e) fun _ _ e => e
    have fin : CEnd h₀ env.locals wr (ownOf h₀ fp h₁) (J (i + 1)) { s₂ with heap := h₁, toks := tk₁ } s₄ →
        ∃ k', k' < n + 1 - i ∧ ∃ h' tk m' nx i, s₄ = { s₂ with heap := h', toks := tk } ∧ St i h' ∧ Fr h₀ env.locals h' m' ∧ News h₀ env.locals h' nx ∧ (∀ p ∈ nx, p.1 ∉ wr) ∧ J i m' nx ∧ i ≤ n ∧ k' = n + 1 - i := by
      rintro pP0
      refine byC fun nG => ?_
      obtain ⟨h₃', tk₃, m₂, nx₂, rfl, F₃, N₃, ha₃, hJ₃⟩ := pP0
      refine nG ?_
      refine ⟨n + 1 - (i + 1), by exact om65 hlt, h₃', tk₃, m₂, nx₂, i + 1, rfl, ?_, F₃, N₃.right, ha₃, hJ₃, hlt, rfl⟩
      refine W.frame _ _ _ hst₁ fun b hb o e => ?_
      cases hn : h₀.get? b with
      | some o₀ =>
        have : o₀ = o := by have := F₁.keep b o₀ hn; rw [e] at this; exact (Option.some.inj this).symm
        exact this ▸ F₃.keep b o₀ hn
      | none => exact (N₃ _ (List.mem_append_left _ (mem_ownOf hb hn e))).1
    cases f with
    | ret v => exact h₄
    | brk => exact h₄
    | cont => exact fin h₄
    | next => exact fin h₄
  · have hin : i = n := by exact om66 hi hlt
    subst hin
    refine W.done _ _ _ hst' fun h₁ tk₁ hk₁ => wpAny_execs_nil ?_
    refine byC fun nG => ?_
    obtain ⟨F₁, N₁⟩ := next h₁ hk₁
    refine nG ?_
    exact hQ h₁ tk₁ m' nx F₁ N₁ hnw' hJ
end
end
section
set_option maxRecDepth 100000
set_option maxHeartbeats 8000000
section
variable {prog : Program} {w : World} {A : Around} {E : Value → Shared → Prop} {Q : Flow → Shared → Prop} {s : Shared} {env : Env} {h₀ : Heap}
theorem own_apart {I : Addr} {oI : Obj} {own nx : List (Addr × Obj)} (hI : (I, oI) ∈ own) (h : OwnOff own (nx.map (·.1))) : ∀ p ∈ nx, p.1 ∉ [I] := fun p hp hq => h _ hI p.1 (List.mem_map.mpr ⟨p, hp, rfl⟩) (List.mem_singleton.mp hq).symm
theorem iter_list_cell {x : Str} {px : Pos} {body : List Stmt} {l : Addr} {vs : List Value} {nn : Nat} {m₀ : Str → Option Value} {news : List (Addr × Obj)} (J : Nat → (Str → Option Value) → List (Addr × Obj) → Prop)
    (hh : A.handled = none) (hl : (l, PySem.W.listOf vs.toArray nn) ∈ news) (F : Fr h₀ env.locals s.heap m₀) (N : News h₀ env.locals s.heap news) (hj : J 0 m₀ news)
    (turn : ∀ i v m₁ nx h tk own, vs[i]? = some v → OwnOff own (nx.map (·.1)) → (l, PySem.W.listOf vs.toArray nn) ∈ nx → J i m₁ nx → Fr h₀ env.locals h m₁ → News h₀ env.locals h (nx ++ own) →
      wpAny (model prog w) A (assign (.Name x px) env v) (fun _ s₃ => wpAny (model prog w) A (execs body env) (InvPostG h₀ env.locals (fun m' nx => (l, PySem.W.listOf vs.toArray nn) ∈ nx ∧ J (i + 1) m' nx) own { s with heap := h, toks := tk } Q) E s₃) E { s with heap := h, toks := tk })
    (done : ∀ m₁ nx h tk, J vs.length m₁ nx → Fr h₀ env.locals h m₁ → News h₀ env.locals h nx → Q .next { s with heap := h, toks := tk }) :
    wpAny (model prog w) A (pyIter (.ref l)) (fun it s₂ => LoopAtC prog w A h₀ env x px body Q E it s₂) E s := by
  have hol : s.heap.get? l = some (PySem.W.listOf vs.toArray nn) := (N _ hl).1
  have hls : s.heap.IsList l vs.toArray := ⟨_, hol, rfl, nn, rfl⟩
  have hne : l ≠ s.heap.objs.size := Nat.ne_of_lt (Heap.lt_size hol)
  refine wpAny_pyIter_list hls ?_
  have W := Walks.list (prog := prog) (w := w) hh s.heap.objs.size l hne vs.toArray
  have hlen : vs.toArray.size = vs.length := by simp
  rw [hlen] at W
  have hI0 : h₀.get? s.heap.objs.size = none := next_is_new F
  refine ⟨_, _, _, vs.length, _, _, m₀, news, (fun i m nx => (l, PySem.W.listOf vs.toArray nn) ∈ nx ∧ J i m nx), rfl, W, ?_, ?_, ?_, ⟨⟨_, Heap.get?_push_size _ rfl, rfl, rfl⟩, hls.at fun o e => Heap.get?_push_of_some _ e⟩, F.push _, (fun p hp => ⟨Heap.get?_push_of_some _ (N p hp).1, (N p hp).2⟩), ⟨hl, hj⟩, ?_, ?_⟩
  · intro hm
    rcases List.mem_cons.mp hm with e | hm
    · exact absurd F.ns.lt (e ▸ Nat.lt_irrefl _)
    · exact (N _ hl).2.1 ((List.mem_singleton.mp hm).symm)
  · intro b hb
    rw [List.mem_singleton.mp hb]
    exact hI0
  · intro p hp hI
    exact absurd (Heap.lt_size (N p hp).1) ((List.mem_singleton.mp hI) ▸ Nat.lt_irrefl _)
  · rintro i v m₁ nx h tk own hin hP pP0 hoff hown hfp hst F₁ N₁
    refine byC fun nG => ?_
    obtain ⟨hl₁, hJ⟩ := pP0
    have hP' : vs[i]? = some v := by simpa using hP
    obtain ⟨⟨oI, hoI, _⟩, _⟩ := id hst
    refine nG ?_
    have hIn : (s.heap.objs.size, oI) ∈ own := hfp _ (List.mem_cons.mpr (.inl rfl)) hI0 _ hoI
    have hsep : OwnOff [(s.heap.objs.size, oI)] (nx.map (·.1)) := by
      intro p hp b hb e
      refine byC fun nG => ?_
      obtain ⟨q, hq, rfl⟩ := List.mem_map.mp hb
      refine nG ?_
      rw [List.mem_singleton.mp hp] at e
      exact hoff q hq (List.mem_singleton.mpr e.symm)
    have N₂ : News h₀ env.locals h (nx ++ [(s.heap.objs.size, oI)]) := fun p hp => (List.mem_append.mp hp).elim (fun h => N₁ p (List.mem_append_right _ h)) fun h => N₁ p (List.mem_append_left _ (List.mem_singleton.mp h ▸ hIn))
    have hlo : h.get? l = some (PySem.W.listOf vs.toArray nn) := (N₁ _ (List.mem_append_right _ hl₁)).1
    refine wpAny_mono (turn i v m₁ nx h tk _ hP' hsep hl₁ hJ F₁ N₂) (fun _ s₃ h₃ => wpAny_mono h₃ (fun f s₄ h₄ => ?_) fun _ _ e => e) fun _ _ e => e
    have fin : InvEndG h₀ env.locals (fun m' nx => (l, PySem.W.listOf vs.toArray nn) ∈ nx ∧ J (i + 1) m' nx) [(s.heap.objs.size, oI)] { s with heap := h, toks := tk } s₄ →
        CEnd h₀ env.locals [s.heap.objs.size] own (fun m nx => (l, PySem.W.listOf vs.toArray nn) ∈ nx ∧ J (i + 1) m nx) { s with heap := h, toks := tk } s₄ := by
      rintro pP0
      refine byC fun nG => ?_
      obtain ⟨h', tk, m', news', nx, e, F', N', hn, ho, ha, hm⟩ := pP0
      refine nG ?_
      refine ⟨h', tk, m', nx, e, F', fun p hp => ?_, own_apart (List.mem_singleton.mpr rfl) ha, hm⟩
      rcases List.mem_append.mp hp with hpo | hpn
      · by_cases hI : p.1 = s.heap.objs.size
        · have h2 : h.get? p.1 = some p.2 := (N₁ p (List.mem_append_left _ hpo)).1
          rw [hI, hoI] at h2
          have h3 : p = (s.heap.objs.size, oI) := Prod.ext hI (Option.some.inj h2).symm
          exact N' p (ho p (List.mem_singleton.mpr h3))
        · have h1 : p.1 = l := by
            rcases List.mem_cons.mp (hown p hpo) with h2 | h2
            · exact absurd h2 hI
            · exact List.mem_singleton.mp h2
          have h2 : h.get? p.1 = some p.2 := (N₁ p (List.mem_append_left _ hpo)).1
          rw [h1, hlo] at h2
          have h3 : p = (l, PySem.W.listOf vs.toArray nn) := Prod.ext h1 (Option.some.inj h2).symm
          rw [h3]
          exact N' _ (hn _ hm.1)
      · exact N' p (hn p hpn)
    cases f with
    | ret v => exact h₄
    | brk => exact h₄
    | next => exact fin h₄
    | cont => exact fin h₄
  · rintro h' tk m' nx F' N' _ pP0
    refine byC fun nG => ?_
    obtain ⟨_, hJ⟩ := pP0
    refine nG ?_
    exact done m' nx h' tk hJ F' N'
theorem iter_str_cell {x : Str} {px : Pos} {body : List Stmt} {tx : Str} {t : Tok} {m₀ : Str → Option Value} {news : List (Addr × Obj)} (J : Nat → (Str → Option Value) → List (Addr × Obj) → Prop)
    (hh : A.handled = none) (ha : tx.cps.all (· < 128) = true) (F : Fr h₀ env.locals s.heap m₀) (N : News h₀ env.locals s.heap news) (hj : J 0 m₀ news)
    (turn : ∀ i c u m₁ nx h tk own, tx.cps[i]? = some c → OwnOff own (nx.map (·.1)) → J i m₁ nx → Fr h₀ env.locals h m₁ → News h₀ env.locals h (nx ++ own) →
      wpAny (model prog w) A (assign (.Name x px) env (.str ⟨#[c]⟩ u)) (fun _ s₃ => wpAny (model prog w) A (execs body env) (InvPostG h₀ env.locals (J (i + 1)) own { s with heap := h, toks := tk } Q) E s₃) E { s with heap := h, toks := tk })
    (done : ∀ m₁ nx h tk, J tx.cps.size m₁ nx → Fr h₀ env.locals h m₁ → News h₀ env.locals h nx → Q .next { s with heap := h, toks := tk }) :
    wpAny (model prog w) A (pyIter (.str tx t)) (fun it s₂ => LoopAtC prog w A h₀ env x px body Q E it s₂) E s := by
  refine wpAny_pyIter_ascii ha ?_
  have W := Walks.strAscii (prog := prog) (w := w) hh s.heap.objs.size tx t
  have hI0 : h₀.get? s.heap.objs.size = none := next_is_new F
  refine ⟨_, _, _, tx.cps.size, _, _, m₀, news, J, rfl, W, ?_, ?_, ?_, ⟨_, Heap.get?_push_size _ rfl, rfl, rfl⟩, F.push _, (fun p hp => ⟨Heap.get?_push_of_some _ (N p hp).1, (N p hp).2⟩), hj, ?_, ?_⟩
  · intro hm
    exact absurd F.ns.lt ((List.mem_singleton.mp hm) ▸ Nat.lt_irrefl _)
  · intro b hb
    rw [List.mem_singleton.mp hb]
    exact hI0
  · intro p hp hI
    exact absurd (Heap.lt_size (N p hp).1) ((List.mem_singleton.mp hI) ▸ Nat.lt_irrefl _)
  · rintro i v m₁ nx h tk own hin pP0 hJ hoff hown hfp hst F₁ N₁
    refine byC fun nG => ?_
    obtain ⟨c, u, hc, rfl⟩ := pP0
    obtain ⟨oI, hoI, _⟩ := id hst
    refine nG ?_
    have hIn : (s.heap.objs.size, oI) ∈ own := hfp _ (List.mem_cons.mpr (.inl rfl)) hI0 _ hoI
    have hsep : OwnOff own (nx.map (·.1)) := by
      intro p hp b hb e
      refine byC fun nG => ?_
      obtain ⟨q, hq, rfl⟩ := List.mem_map.mp hb
      refine nG ?_
      exact hoff q hq (e ▸ hown p hp)
    have N₂ : News h₀ env.locals h (nx ++ own) := fun p hp => (List.mem_append.mp hp).elim (fun h => N₁ p (List.mem_append_right _ h)) fun h => N₁ p (List.mem_append_left _ h)
    refine wpAny_mono (turn i c u m₁ nx h tk _ hc hsep hJ F₁ N₂) (fun _ s₃ h₃ => wpAny_mono h₃ (fun f s₄ h₄ => ?_) fun _ _ e => e) fun _ _ e => e
    have fin : InvEndG h₀ env.locals (J (i + 1)) own { s with heap := h, toks := tk } s₄ → CEnd h₀ env.locals [s.heap.objs.size] own (J (i + 1)) { s with heap := h, toks := tk } s₄ := by
      rintro pP0
      refine byC fun nG => ?_
      obtain ⟨h', tk, m', news', nx, e, F', N', hn, ho, ha, hm⟩ := pP0
      refine nG ?_
      exact ⟨h', tk, m', nx, e, F', fun p hp => (List.mem_append.mp hp).elim (fun h => N' p (ho p h)) fun h => N' p (hn p h), own_apart hIn ha, hm⟩
    cases f with
    | ret v => exact h₄
    | brk => exact h₄
    | next => exact fin h₄
    | cont => exact fin h₄
  · rintro h' tk m' nx F' N' _ hJ
    exact done m' nx h' tk hJ F' N'
theorem iter_range_cell {x : Str} {px : Pos} {body : List Stmt} {r : Addr} {n : Nat} {a₀ b₀ c₀ : Int} {t₀ u₀ v₀ : Tok} {m₀ : Str → Option Value} {news : List (Addr × Obj)} (J : Nat → (Str → Option Value) → List (Addr × Obj) → Prop)
    (hh : A.handled = none) (hr : IsRange s.heap r a₀ b₀ c₀ t₀ u₀ v₀) (hsmall : Builtin.Range.small a₀ b₀ c₀ = true) (hn : Builtin.Range.rangeSize a₀ b₀ c₀ = (n : Int)) (F : Fr h₀ env.locals s.heap m₀) (N : News h₀ env.locals s.heap news) (hj : J 0 m₀ news)
    (turn : ∀ i u m₁ nx h tk own, i < n → OwnOff own (nx.map (·.1)) → J i m₁ nx → Fr h₀ env.locals h m₁ → News h₀ env.locals h (nx ++ own) →
      wpAny (model prog w) A (assign (.Name x px) env (.int (a₀ + i * c₀) u)) (fun _ s₃ => wpAny (model prog w) A (execs body env) (InvPostG h₀ env.locals (J (i + 1)) own { s with heap := h, toks := tk } Q) E s₃) E { s with heap := h, toks := tk })
    (done : ∀ m₁ nx h tk, J n m₁ nx → Fr h₀ env.locals h m₁ → News h₀ env.locals h nx → Q .next { s with heap := h, toks := tk }) :
    wpAny (model prog w) A (pyIter (.ref r)) (fun it s₂ => LoopAtC prog w A h₀ env x px body Q E it s₂) E s := by
  refine wpAny_pyIter_range hr hsmall ?_
  have W := Walks.range (prog := prog) (w := w) hh s.heap.objs.size a₀ c₀ n
  have hI0 : h₀.get? s.heap.objs.size = none := next_is_new F
  refine ⟨_, _, _, n, _, _, m₀, news, J, rfl, W, ?_, ?_, ?_, (by show IsRangeIter _ _ _ _ _; rw [hn]; simpa using Heap.get?_push_size _ rfl), F.push _, (fun p hp => ⟨Heap.get?_push_of_some _ (N p hp).1, (N p hp).2⟩), hj, ?_, ?_⟩
  · intro hm
    exact absurd F.ns.lt ((List.mem_singleton.mp hm) ▸ Nat.lt_irrefl _)
  · intro b hb
    rw [List.mem_singleton.mp hb]
    exact hI0
  · intro p hp hI
    exact absurd (Heap.lt_size (N p hp).1) ((List.mem_singleton.mp hI) ▸ Nat.lt_irrefl _)
  · rintro i v m₁ nx h tk own hin pP0 hJ hoff hown hfp hst F₁ N₁
    refine byC fun nG => ?_
    obtain ⟨u, rfl⟩ := pP0
    refine nG ?_
    have hIn := hfp _ (List.mem_cons.mpr (.inl rfl)) hI0 _ hst
    have hsep : OwnOff own (nx.map (·.1)) := by
      intro p hp b hb e
      refine byC fun nG => ?_
      obtain ⟨q, hq, rfl⟩ := List.mem_map.mp hb
      refine nG ?_
      exact hoff q hq (e ▸ hown p hp)
    have N₂ : News h₀ env.locals h (nx ++ own) := fun p hp => (List.mem_append.mp hp).elim (fun h => N₁ p (List.mem_append_right _ h)) fun h => N₁ p (List.mem_append_left _ h)
    refine wpAny_mono (turn i u m₁ nx h tk _ hin hsep hJ F₁ N₂) (fun _ s₃ h₃ => wpAny_mono h₃ (fun f s₄ h₄ => ?_) fun _ _ e => e) fun _ _ e => e
    have fin : InvEndG h₀ env.locals (J (i + 1)) own { s with heap := h, toks := tk } s₄ → CEnd h₀ env.locals [s.heap.objs.size] own (J (i + 1)) { s with heap := h, toks := tk } s₄ := by
      rintro pP0
      refine byC fun nG => ?_
      obtain ⟨h', tk, m', news', nx, e, F', N', hn, ho, ha, hm⟩ := pP0
      refine nG ?_
      exact ⟨h', tk, m', nx, e, F', fun p hp => (List.mem_append.mp hp).elim (fun h => N' p (ho p h)) fun h => N' p (hn p h), own_apart hIn ha, hm⟩
    cases f with
    | ret v => exact h₄
    | brk => exact h₄
    | next => exact fin h₄
    | cont => exact fin h₄
  · rintro h' tk m' nx F' N' _ hJ
    exact done m' nx h' tk hJ F' N'
end
end
section
set_option maxRecDepth 100000
set_option maxHeartbeats 8000000
section
variable {M : Model} {A : Around} {E : Value → Shared → Prop} {s : Shared} {h₀ : Heap} {L a : Addr} {m : Str → Option Value} {cn : Str} {cs : Scope} {ccd : Value} {cl : List (Str × Addr)}
  {x : Str} {v : Value} {Q : Unit → Shared → Prop} {news : List (Addr × Obj)} {c : Addr} {o : Obj} {v₀ : Option Value}
theorem cell_set_at (F : Fr h₀ L s.heap m) (N : News h₀ L s.heap news) (hc : cl.lookup x = some c) (hm : (c, o) ∈ news) (hd : o.data = .cell v₀)
    (h : ∀ h' o', Fr h₀ L h' m → News h₀ L h' (setAt c o' news) → o'.data = .cell (some v) → Q () { s with heap := h' })
    (hk : cs.kind = .function := by rfl) (hx : (envX cn cs L a ccd cl).kindOf x = some .cell := by rfl) : wpAny M A (storeName (envX cn cs L a ccd cl) x v) Q E s :=
  storeX_C F (news_off N hm) hc (UpdF.head offAt_ne) hd (fun h' o' F' N' hd' => h h' o' F' (news_setAt N') hd') hk hx
end
section
variable {prog : Program} {w : World} {A : Around} {E : Value → Shared → Prop} {s : Shared} {h₀ : Heap} {L : Addr} {m : Str → Option Value} {news : List (Addr × Obj)}
theorem insert_at {D : Addr} {n : Nat} {vs : List Value} {y : Value} {u : Tok} {Q : Value → Shared → Prop} (F : Fr h₀ L s.heap m) (N : News h₀ L s.heap news) (hm : (D, PySem.W.listOf vs.toArray n) ∈ news) (hz : vs.length < 1000)
    (h : ∀ h', Fr h₀ L h' m → News h₀ L h' (setAt D (PySem.W.listOf (y :: vs).toArray (n + 1)) news) → Q .none { s with heap := h' }) : wpAny (model prog w) A (call (.builtin "list.insert") [.ref D, .int 0 u, y]) Q E s :=
  kl_insert F (news_off N hm) (by decide) (by simp [kl_ins]) (Upd.head offAt_ne) (by rw [sizeLine_eq]; simp; exact om67 hz) fun h' F' N' => h h' F' (news_setAt N')
end
section
variable {prog : Program} {w : World} {A : Around} {E : Value → Shared → Prop} {Q : Flow → Shared → Prop} {env : Env} {h₀ hp : Heap} {g : Array GenState} {dr : Drawn} {tk : Nat} {os : OsState}
theorem iter_list_S {x : Str} {px : Pos} {body : List Stmt} {l : Addr} {vs : List Value} {nn : Nat} {m₀ : Str → Option Value} {news : List (Addr × Obj)} (J : Nat → (Str → Option Value) → List (Addr × Obj) → Prop)
    (hh : A.handled = none) (hl : (l, PySem.W.listOf vs.toArray nn) ∈ news) (F : Fr h₀ env.locals hp m₀) (N : News h₀ env.locals hp news) (hj : J 0 m₀ news)
    (turn : ∀ i v m₁ nx h tk own, vs[i]? = some v → OwnOff own (nx.map (·.1)) → (l, PySem.W.listOf vs.toArray nn) ∈ nx → J i m₁ nx → Fr h₀ env.locals h m₁ → News h₀ env.locals h (nx ++ own) →
      wpAny (model prog w) A (assign (.Name x px) env v) (fun _ s₃ => wpAny (model prog w) A (execs body env) (InvPostG h₀ env.locals (fun m' nx => (l, PySem.W.listOf vs.toArray nn) ∈ nx ∧ J (i + 1) m' nx) own ⟨h, g, dr, tk, os⟩ Q) E s₃) E ⟨h, g, dr, tk, os⟩)
    (done : ∀ m₁ nx h tk, J vs.length m₁ nx → Fr h₀ env.locals h m₁ → News h₀ env.locals h nx → Q .next ⟨h, g, dr, tk, os⟩) :
    wpAny (model prog w) A (pyIter (.ref l)) (fun it s₂ => LoopAtC prog w A h₀ env x px body Q E it s₂) E ⟨hp, g, dr, tk, os⟩ :=
  iter_list_cell (s := ⟨hp, g, dr, tk, os⟩) J hh hl F N hj turn done
theorem iter_str_S {x : Str} {px : Pos} {body : List Stmt} {tx : Str} {t : Tok} {m₀ : Str → Option Value} {news : List (Addr × Obj)} (J : Nat → (Str → Option Value) → List (Addr × Obj) → Prop)
    (hh : A.handled = none) (ha : tx.cps.all (· < 128) = true) (F : Fr h₀ env.locals hp m₀) (N : News h₀ env.locals hp news) (hj : J 0 m₀ news)
    (turn : ∀ i c u m₁ nx h tk own, tx.cps[i]? = some c → OwnOff own (nx.map (·.1)) → J i m₁ nx → Fr h₀ env.locals h m₁ → News h₀ env.locals h (nx ++ own) →
      wpAny (model prog w) A (assign (.Name x px) env (.str ⟨#[c]⟩ u)) (fun _ s₃ => wpAny (model prog w) A (execs body env) (InvPostG h₀ env.locals (J (i + 1)) own ⟨h, g, dr, tk, os⟩ Q) E s₃) E ⟨h, g, dr, tk, os⟩)
    (done : ∀ m₁ nx h tk, J tx.cps.size m₁ nx → Fr h₀ env.locals h m₁ → News h₀ env.locals h nx → Q .next ⟨h, g, dr, tk, os⟩) :
    wpAny (model prog w) A (pyIter (.str tx t)) (fun it s₂ => LoopAtC prog w A h₀ env x px body Q E it s₂) E ⟨hp, g, dr, tk, os⟩ :=
  iter_str_cell (s := ⟨hp, g, dr, tk, os⟩) J hh ha F N hj turn done
theorem iter_range_S {x : Str} {px : Pos} {body : List Stmt} {r : Addr} {n : Nat} {a₀ b₀ c₀ : Int} {t₀ u₀ v₀ : Tok} {m₀ : Str → Option Value} {news : List (Addr × Obj)} (J : Nat → (Str → Option Value) → List (Addr × Obj) → Prop)
    (hh : A.handled = none) (hr : IsRange hp r a₀ b₀ c₀ t₀ u₀ v₀) (hsmall : Builtin.Range.small a₀ b₀ c₀ = true) (hn : Builtin.Range.rangeSize a₀ b₀ c₀ = (n : Int)) (F : Fr h₀ env.locals hp m₀) (N : News h₀ env.locals hp news) (hj : J 0 m₀ news)
    (turn : ∀ i u m₁ nx h tk own, i < n → OwnOff own (nx.map (·.1)) → J i m₁ nx → Fr h₀ env.locals h m₁ → News h₀ env.locals h (nx ++ own) →
      wpAny (model prog w) A (assign (.Name x px) env (.int (a₀ + i * c₀) u)) (fun _ s₃ => wpAny (model prog w) A (execs body env) (InvPostG h₀ env.locals (J (i + 1)) own ⟨h, g, dr, tk, os⟩ Q) E s₃) E ⟨h, g, dr, tk, os⟩)
    (done : ∀ m₁ nx h tk, J n m₁ nx → Fr h₀ env.locals h m₁ → News h₀ env.locals h nx → Q .next ⟨h, g, dr, tk, os⟩) :
    wpAny (model prog w) A (pyIter (.ref r)) (fun it s₂ => LoopAtC prog w A h₀ env x px body Q E it s₂) E ⟨hp, g, dr, tk, os⟩ :=
  iter_range_cell (s := ⟨hp, g, dr, tk, os⟩) J hh hr hsmall hn F N hj turn done
end
theorem na13 (L : Nat) : L + 1 ≠ L + 1 + 1 + 1 := by exact om68
theorem na23 (L : Nat) : L + 1 + 1 ≠ L + 1 + 1 + 1 := by exact om69
theorem na43 (L : Nat) : L + 1 + 1 + 1 + 1 ≠ L + 1 + 1 + 1 := by exact om70
theorem na14 (L : Nat) : L + 1 ≠ L + 1 + 1 + 1 + 1 := by exact om71
theorem na24 (L : Nat) : L + 1 + 1 ≠ L + 1 + 1 + 1 + 1 := by exact om72
/-- the value of a thing as plain data -/
noncomputable def datV : Value → Dat
  | .int x _ => .int x
  | .str x _ => .str x
  | _ => .none
noncomputable def datOf (d : Pl) (c : Cell) : Dat := .tuple [.int c.num, datV (d.vl c)]
theorem datV_in {news : List (Addr × Obj)} {v : Value} (h : (∃ x t, v = .int x t) ∨ ∃ x t, v = .str x t) : DatIn news v (datV v) := by
  rcases h with ⟨x, t, rfl⟩ | ⟨x, t, rfl⟩
  · exact .int x t
  · exact .str x t
theorem dat_pair {d : Pl} {c : Cell} {a : Addr} {news : List (Addr × Obj)} (hm : (a, pairOf d c) ∈ news) (hv : (∃ x t, d.vl c = .int x t) ∨ ∃ x t, d.vl c = .str x t) : DatIn news (.ref a) (datOf d c) :=
  DatIn.tuple (vs := [.int c.num c.ntk, d.vl c]) (n := 0) hm (DatAll.cons (DatIn.int _ _) (DatAll.cons (datV_in hv) DatAll.nil))
theorem dat_row {d : Pl} {news : List (Addr × Obj)} (xs : List Cell) (tl : List (Addr × Obj)) (h : tl.map (·.2) = xs.map (pairOf d)) (hv : ∀ c ∈ xs, (∃ x t, d.vl c = .int x t) ∨ ∃ x t, d.vl c = .str x t) (hs : ∀ p ∈ tl, p ∈ news) : DatAll news (tl.map fun p => Value.ref p.1) (xs.map (datOf d)) := by
  induction xs generalizing tl with
  | nil =>
    cases tl with
    | nil => exact DatAll.nil
    | cons p r => simp at h
  | cons c xs ih =>
    cases tl with
    | nil => simp at h
    | cons p tl =>
      rw [List.map_cons, List.map_cons] at h
      have h1 : p.2 = pairOf d c := (List.cons.inj h).1
      have h2 := (List.cons.inj h).2
      have h3 : (p.1, pairOf d c) ∈ news := by rw [← h1]; exact hs p (.head _)
      rw [List.map_cons, List.map_cons]
      exact DatAll.cons (dat_pair h3 (hv c (.head _))) (ih tl h2 (fun c hc => hv c (.tail _ hc)) fun p hp => hs p (.tail _ hp))
theorem own_ok : PyData.strOk (Str.ofString "own") = true := by decide +kernel
theorem datOf_ok {d : Pl} {c : Cell} (h : (∃ x t, d.vl c = .int x t) ∨ ∃ t, d.vl c = .str (Str.ofString "own") t) : kqdOk 8 (datOf d c) = true := by
  unfold datOf
  rcases h with ⟨x, t, e⟩ | ⟨t, e⟩
  · rw [e]; simp only [datV, kqdOk, List.all_cons, List.all_nil, Bool.and_true]
  · rw [e]; simp only [datV, kqdOk, List.all_cons, List.all_nil, Bool.and_true, own_ok]
end
section
set_option maxRecDepth 100000
set_option maxHeartbeats 8000000
noncomputable def scOf (K : Frag) (a : Addr) : Scope := match K.lookup a with | some ⟨_, _, .func fd, _⟩ => fd.scope | _ => { kind := .function, names := [], isGenerator := false, isCoroutine := false }
noncomputable def bodyOf (K : Frag) (a : Addr) : List Stmt := match K.lookup a with | some ⟨_, _, .func ⟨_, _, _, .stmts b, _, _, _, _, _, _, _, _, _, _, _⟩, _⟩ => b | _ => []
noncomputable abbrev lawEnv (sc : Scope) (L fa : Addr) : Env := envOfC (Str.ofString "law") sc L fa (.ref 532)
end
local macro_rules | `(tactic| walk_at "storeName") => `(tactic| (k_here; k_dflt (refine' cell_set_at ?F ?N ?c ?m ?d ?_ ?a ?b; (case a | b => rfl); (case F | N => k_asm); (case c => rfl); (case m => k_mem); (case d => k_asm); k_whole); intro h' o' F' N' d'; (try k_sweep)))
local macro_rules | `(tactic| walk_at "call builtin:list.insert") => `(tactic| (k_here; (with_reducible show wpAny _ _ (call (Value.builtin _) [Value.ref _, Value.int 0 _, _]) _ _ _); k_dflt (refine' insert_at ?F ?N ?m ?z ?_; (case F | N => k_asm); (case m => k_mem); (case z => omega)); intro h' F' N'; (try k_sweep)))
local macro_rules | `(tactic| walk_at "eval ListComp") => `(tactic| (k_here; (with_reducible show wpAny _ _ (eval (PySem.Expr.ListComp _ [⟨_, _, [], _⟩] _ _) _) _ _ _); k_dflt (refine' LCg.ListComp_U (F₀ := ?F) ?a ?b ?c ?d ?e ?_; (case F => k_asm); (case a => with_unfolding_all rfl); (case b => decide); (case c => rfl); (case d => decide); (case e => rfl))))
section
set_option maxRecDepth 100000
set_option maxHeartbeats 8000000
variable {w : World} {S : Lay} {U : List (Addr × Obj)}
theorem St.own_at {d : Pl} {news : List (Addr × Obj)} {x : Addr} {o o' : Obj} (A : St w S d U news) (hm : (x, o) ∈ U) : St w S d (setAt x o' U) (setAt x o' news) := by
  obtain ⟨H, A⟩ := A
  have hr := A.rU _ hm
  have kp : ∀ {a : Addr} {ob : Obj} {n : Nat}, (a, ob) ∈ news → H.ρ a = n → n ≠ 0 → (a, ob) ∈ setAt x o' news := fun h1 h2 h3 => mem_setAt_ne h1 (ne_ρ h2 hr h3)
  exact ⟨H, { A with
      iw := kp A.iw A.raw (by decide), dw := kp A.dw A.rdw (by decide), st := kp A.st A.rst (by decide), hl := kp A.hl A.rhl (by decide), fl := kp A.fl A.rfl' (by decide), wl := kp A.wl A.rwl (by decide), ac := kp A.ac A.rac (by decide)
      own := setAt_sub A.own
      rU := fun p hp => by
        rcases mem_setAt_inv hp with ⟨o, h1, rfl⟩ | ⟨h1, h2⟩
        · exact hr
        · exact A.rU p h1
      cells := fun c' hc' => by
        obtain ⟨k', mtk', ve', u1, u2, u3⟩ := A.cells c' hc'
        exact ⟨k', mtk', ve', kp u1 (A.ra _ hc') (by decide), kp u2 (A.rd _ hc') (by decide), kp u3 (A.rv _ hc') (by decide)⟩ }⟩
theorem St.append {d : Pl} {news own : List (Addr × Obj)} (A : St w S d U news) (h : OwnOff own (news.map (·.1))) : St w S d (U ++ own) (news ++ own) := by
  classical
  obtain ⟨H, A⟩ := A
  have off : ∀ {a : Addr} {o : Obj}, (a, o) ∈ news → a ∉ own.map (·.1) := fun h1 h2 => by
    obtain ⟨q, hq, e⟩ := List.mem_map.mp h2
    exact h q hq _ (List.mem_map.mpr ⟨_, h1, rfl⟩) e
  have old : ∀ {a : Addr} {o : Obj} {n : Nat}, (a, o) ∈ news → H.ρ a = n → (if a ∈ own.map (·.1) then 0 else H.ρ a) = n := fun h1 h2 => by rw [if_neg (off h1)]; exact h2
  have B := A.mono (news' := news ++ own) fun p hp => List.mem_append_left _ hp
  exact ⟨{ H with ρ := fun a => if a ∈ own.map (·.1) then 0 else H.ρ a }, { B with
    own := fun p hp => by
      rcases List.mem_append.mp hp with hp | hp
      · exact List.mem_append_left _ (A.own p hp)
      · exact List.mem_append_right _ hp
    raw := old A.iw A.raw, rdw := old A.dw A.rdw, rst := old A.st A.rst, rhl := old A.hl A.rhl, rfl' := old A.fl A.rfl', rwl := old A.wl A.rwl, rac := old A.ac A.rac
    ra := fun c hc => let ⟨_, _, _, h, _, _⟩ := A.cells c hc; old h (A.ra c hc)
    rd := fun c hc => let ⟨_, _, _, _, h, _⟩ := A.cells c hc; old h (A.rd c hc)
    rv := fun c hc => let ⟨_, _, _, _, _, h⟩ := A.cells c hc; old h (A.rv c hc)
    rU := fun p hp => by
      rcases List.mem_append.mp hp with hp | hp
      · exact old (A.own p hp) (A.rU p hp)
      · exact if_pos (List.mem_map.mpr ⟨p, hp, rfl⟩) }⟩
theorem St.off {d : Pl} {news own : List (Addr × Obj)} (A : St w S d (U ++ own) news) (h : ∀ q ∈ own, ∀ p ∈ U, q.1 ≠ p.1) :
    ∃ nx, St w S d U nx ∧ OwnOff own (nx.map (·.1)) ∧ (∀ p ∈ nx, p ∈ news) ∧ ∀ p ∈ own, p ∈ news := by
  classical
  obtain ⟨H, A⟩ := A
  have keep : ∀ {a : Addr} {o : Obj} {n : Nat}, (a, o) ∈ news → H.ρ a = n → n ≠ 0 → (a, o) ∈ news.filter fun p => decide (p.1 ∉ own.map (·.1)) := fun h1 h2 h3 => List.mem_filter.mpr ⟨h1, decide_eq_true fun h4 => by
    obtain ⟨q, hq, e⟩ := List.mem_map.mp h4
    have := A.rU q (List.mem_append_right _ hq)
    rw [e] at this
    exact h3 (h2.symm.trans this)⟩
  refine ⟨news.filter fun p => decide (p.1 ∉ own.map (·.1)), ⟨H, { A with
      iw := keep A.iw A.raw (by decide), dw := keep A.dw A.rdw (by decide), st := keep A.st A.rst (by decide), hl := keep A.hl A.rhl (by decide), fl := keep A.fl A.rfl' (by decide), wl := keep A.wl A.rwl (by decide), ac := keep A.ac A.rac (by decide)
      own := fun p hp => List.mem_filter.mpr ⟨A.own p (List.mem_append_left _ hp), decide_eq_true fun h4 => by
        obtain ⟨q, hq, e⟩ := List.mem_map.mp h4
        exact h q hq p hp e⟩
      rU := fun p hp => A.rU p (List.mem_append_left _ hp)
      cells := fun c' hc' => by
        obtain ⟨k', mtk', ve', u1, u2, u3⟩ := A.cells c' hc'
        exact ⟨k', mtk', ve', keep u1 (A.ra _ hc') (by decide), keep u2 (A.rd _ hc') (by decide), keep u3 (A.rv _ hc') (by decide)⟩ }⟩, ?_, fun p hp => (List.mem_filter.mp hp).1, fun p hp => A.own p (List.mem_append_right _ hp)⟩
  intro q hq b hb e
  obtain ⟨p, hp, rfl⟩ := List.mem_map.mp hb
  have := of_decide_eq_true (List.mem_filter.mp hp).2
  exact this (List.mem_map.mpr ⟨q, hq, e⟩)
structure Build (d : Pl) (n : Nat) (xs : List Cell) : Prop where
  sub : ∀ c ∈ xs, c ∈ d.hs
  all : ∀ c ∈ d.hs, c ∈ xs
  nd : xs.Nodup
  made : d.made = d.hs.length
  asc : d.hs.map (·.num) = (List.range d.hs.length).map fun k => ((k + 1 : Nat) : Int)
  vi : ∀ c ∈ d.hs, ∃ x t, d.vl c = .int x t
  len : xs.length ≤ n
  hlen : d.hs.length ≤ n
/-- the caller's own things while the cells are made -/
structure Own (S : Lay) (L : Addr) (d : Pl) (xs : List Cell) (U : List (Addr × Obj)) (rl : Addr) (vs : List Value) (re : Nat) (tl : List (Addr × Obj)) : Prop where
  cw : ∃ o, (L + 1, o) ∈ U ∧ o.data = .cell (some (.ref S.wl))
  ca : ∃ o, (L + 1 + 1, o) ∈ U ∧ o.data = .cell (some (.ref S.aw))
  cn : ∃ o v, (L + 1 + 1 + 1, o) ∈ U ∧ o.data = .cell v
  cv : ∃ o v, (L + 1 + 1 + 1 + 1, o) ∈ U ∧ o.data = .cell v
  tab : (530, tabObj #[]) ∈ U
  hL : 530 < L
  mr : (rl, PySem.W.listOf vs.toArray re) ∈ U
  rL : L + 1 + 1 + 1 + 1 < rl
  mt : ∀ p ∈ tl, p ∈ U
  tL : ∀ p ∈ tl, L + 1 + 1 + 1 + 1 < p.1
  dat : DatAll tl vs (xs.map (datOf d))
noncomputable def lawM (S : Lay) (rl : Addr) (u : Str → Option Value) (y : Str) : Option Value := if y = Str.ofString "fields" then some (.ref S.fl) else if y = Str.ofString "rows" then some (.ref rl) else u y
structure VarsAt (d : Pl) (i : Nat) (xs : List Cell) : Prop where
  v0 : i = 0 → xs = [] ∧ ∀ k, d.vr k = none
  v1 : i = 1 → (∃ o, d.vr (Str.ofString "D") = some o ∧ Chain d.lk o xs) ∧ ∀ k, k ≠ Str.ofString "D" → d.vr k = none
  v2 : i = 2 → (∃ o, d.vr (Str.ofString "C") = some o ∧ Chain d.lk o xs) ∧ (∃ o, d.vr (Str.ofString "D") = some o) ∧ ∀ k, k ≠ Str.ofString "D" → k ≠ Str.ofString "C" → d.vr k = none
structure LoopJ (w : World) (S : Lay) (L : Addr) (i : Nat) (m : Str → Option Value) (nx : List (Addr × Obj)) (d : Pl) (xs : List Cell) (U : List (Addr × Obj)) (rl : Addr) (vs : List Value) (re : Nat) (tl : List (Addr × Obj)) (u : Str → Option Value) : Prop where
  m : m = lawM S rl u
  st : St w S d U nx
  own : Own S L d xs U rl vs re tl
  b : Build d (3 * i) xs
  t : d.t ≤ 1 + 4 * i
  vars : VarsAt d i xs
end
section
set_option maxRecDepth 100000
set_option maxHeartbeats 8000000
variable {w : World} {S : Lay} {U : List (Addr × Obj)}
theorem na34 (L : Nat) : L + 1 + 1 + 1 ≠ L + 1 + 1 + 1 + 1 := by exact om73
theorem n530 {L : Nat} (h : 530 < L) : 530 ≠ L + 1 + 1 + 1 + 1 ∧ 530 ≠ L + 1 + 1 + 1 := by exact om74 h
theorem above {L x : Nat} (h : L + 1 + 1 + 1 + 1 < x) : L + 1 ≠ x ∧ L + 1 + 1 ≠ x ∧ L + 1 + 1 + 1 ≠ x ∧ L + 1 + 1 + 1 + 1 ≠ x := by exact om75 h
theorem above530 {L x : Nat} (h : 530 < L) (h' : L + 1 + 1 + 1 + 1 < x) : 530 ≠ x := by exact om76 h h'
structure Own2 (S : Lay) (L : Addr) (d : Pl) (xs : List Cell) (U : List (Addr × Obj)) (rl : Addr) (vs : List Value) (re : Nat) (tl : List (Addr × Obj)) (k : Str) (al : Addr) (as : List Value) (ae : Nat) (kl : Addr) (ws : List Value) (ke : Nat) (tl2 : List (Addr × Obj)) (ys : List Cell) : Prop where
  o : Own S L d xs U rl vs re tl
  cn : ∃ o ku, (L + 1 + 1 + 1, o) ∈ U ∧ o.data = .cell (some (.str k ku))
  ma : (al, PySem.W.listOf as.toArray ae) ∈ U
  aL : al ≠ L + 1 + 1 + 1 + 1
  mkl : (kl, PySem.W.listOf ws.toArray ke) ∈ U
  kL : L + 1 + 1 + 1 + 1 < kl
  kr : kl ≠ rl
  ka : kl ≠ al
  mt2 : ∀ p ∈ tl2, p ∈ U
  tL2 : ∀ p ∈ tl2, L + 1 + 1 + 1 + 1 < p.1
  tk : ∀ p ∈ tl2 ++ tl, p.1 ≠ kl
  dat2 : DatAll tl2 ws (ys.map (datOf d))
variable {L rl al kl : Addr} {d d' : Pl} {xs ys : List Cell} {vs as ws : List Value} {re ae ke : Nat} {tl tl2 : List (Addr × Obj)} {k : Str}
theorem Own.value (O : Own S L d xs U rl vs re tl) {o' : Obj} {v : Value} (hd : o'.data = .cell (some v)) : Own S L d xs (setAt (L + 1 + 1 + 1 + 1) o' U) rl vs re tl := by
  obtain ⟨o1, h1, h1'⟩ := O.cw
  obtain ⟨o2, h2, h2'⟩ := O.ca
  obtain ⟨o3, v3, h3, h3'⟩ := O.cn
  obtain ⟨o4, v4, h4, h4'⟩ := O.cv
  exact { O with
    cw := ⟨o1, mem_setAt_ne h1 (na14 L), h1'⟩
    ca := ⟨o2, mem_setAt_ne h2 (na24 L), h2'⟩
    cn := ⟨o3, v3, mem_setAt_ne h3 (na34 L), h3'⟩
    cv := ⟨o', _, mem_setAt_eq h4, hd⟩
    tab := mem_setAt_ne O.tab (n530 O.hL).1
    mr := mem_setAt_ne O.mr (above O.rL).2.2.2.symm
    mt := fun p hp => mem_setAt_ne (O.mt p hp) (above (O.tL p hp)).2.2.2.symm }
theorem Own.name (O : Own S L d xs U rl vs re tl) {o' : Obj} {v : Value} (hd : o'.data = .cell (some v)) : Own S L d xs (setAt (L + 1 + 1 + 1) o' U) rl vs re tl := by
  obtain ⟨o1, h1, h1'⟩ := O.cw
  obtain ⟨o2, h2, h2'⟩ := O.ca
  obtain ⟨o3, v3, h3, h3'⟩ := O.cn
  obtain ⟨o4, v4, h4, h4'⟩ := O.cv
  exact { O with
    cw := ⟨o1, mem_setAt_ne h1 (na13 L), h1'⟩
    ca := ⟨o2, mem_setAt_ne h2 (na23 L), h2'⟩
    cn := ⟨o', _, mem_setAt_eq h3, hd⟩
    cv := ⟨o4, v4, mem_setAt_ne h4 (na43 L), h4'⟩
    tab := mem_setAt_ne O.tab (n530 O.hL).2
    mr := mem_setAt_ne O.mr (above O.rL).2.2.1.symm
    mt := fun p hp => mem_setAt_ne (O.mt p hp) (above (O.tL p hp)).2.2.1.symm }
theorem Own.mono {U' : List (Addr × Obj)} (O : Own S L d xs U rl vs re tl) (h : ∀ p ∈ U, p ∈ U') : Own S L d xs U' rl vs re tl :=
  { O with
    cw := let ⟨o, h1, h2⟩ := O.cw; ⟨o, h _ h1, h2⟩
    ca := let ⟨o, h1, h2⟩ := O.ca; ⟨o, h _ h1, h2⟩
    cn := let ⟨o, v, h1, h2⟩ := O.cn; ⟨o, v, h _ h1, h2⟩
    cv := let ⟨o, v, h1, h2⟩ := O.cv; ⟨o, v, h _ h1, h2⟩
    tab := h _ O.tab, mr := h _ O.mr, mt := fun p hp => h _ (O.mt p hp) }
theorem Own.off {x : Addr} {o' : Obj} (O : Own S L d xs U rl vs re tl) (hx : L + 1 + 1 + 1 + 1 < x) (hr : rl ≠ x) (ht : ∀ p ∈ tl, p.1 ≠ x) : Own S L d xs (setAt x o' U) rl vs re tl :=
  { O with
    cw := let ⟨o, h1, h2⟩ := O.cw; ⟨o, mem_setAt_ne h1 (above hx).1, h2⟩
    ca := let ⟨o, h1, h2⟩ := O.ca; ⟨o, mem_setAt_ne h1 (above hx).2.1, h2⟩
    cn := let ⟨o, v, h1, h2⟩ := O.cn; ⟨o, v, mem_setAt_ne h1 (above hx).2.2.1, h2⟩
    cv := let ⟨o, v, h1, h2⟩ := O.cv; ⟨o, v, mem_setAt_ne h1 (above hx).2.2.2, h2⟩
    tab := mem_setAt_ne O.tab (above530 O.hL hx), mr := mem_setAt_ne O.mr hr, mt := fun p hp => mem_setAt_ne (O.mt p hp) (ht p hp) }
theorem Own.vals (O : Own S L d xs U rl vs re tl) (h : ∀ c ∈ xs, d'.vl c = d.vl c) : Own S L d' xs U rl vs re tl :=
  { O with
    dat := by
      have : xs.map (datOf d') = xs.map (datOf d) := List.map_congr_left fun c hc => by unfold datOf; rw [h c hc]
      rw [this]; exact O.dat }
theorem Own2.value (O : Own2 S L d xs U rl vs re tl k al as ae kl ws ke tl2 ys) {o' : Obj} {v : Value} (hd : o'.data = .cell (some v)) : Own2 S L d xs (setAt (L + 1 + 1 + 1 + 1) o' U) rl vs re tl k al as ae kl ws ke tl2 ys :=
  { O with
    o := O.o.value hd
    cn := let ⟨o, v, h1, h2⟩ := O.cn; ⟨o, v, mem_setAt_ne h1 (na34 L), h2⟩
    ma := mem_setAt_ne O.ma O.aL
    mkl := mem_setAt_ne O.mkl (above O.kL).2.2.2.symm
    mt2 := fun p hp => mem_setAt_ne (O.mt2 p hp) (above (O.tL2 p hp)).2.2.2.symm }
theorem Own2.add {T : Addr} {o : Obj} {c : Cell} (O : Own2 S L d xs U rl vs re tl k al as ae kl ws ke tl2 ys) (hT : L + 1 + 1 + 1 + 1 < T) (hTk : T ≠ kl) (ho : ∀ news, (T, o) ∈ news → DatIn news (.ref T) (datOf d' c)) (hx : ∀ c ∈ xs, d'.vl c = d.vl c) (hy : ∀ c ∈ ys, d'.vl c = d.vl c) :
    Own2 S L d' xs (setAt kl (PySem.W.listOf ((.ref T :: ws).toArray) (ke + 1)) ((T, o) :: U)) rl vs re tl k al as ae kl (.ref T :: ws) (ke + 1) ((T, o) :: tl2) (c :: ys) :=
  { O with
    o := ((O.o.mono (U' := (T, o) :: U) fun p hp => .tail _ hp).off O.kL O.kr.symm fun p hp => O.tk p (List.mem_append_right _ hp)).vals hx
    cn := let ⟨o, v, h1, h2⟩ := O.cn; ⟨o, v, mem_setAt_ne (.tail _ h1) (above O.kL).2.2.1, h2⟩
    ma := mem_setAt_ne (.tail _ O.ma) O.ka.symm
    mkl := mem_setAt_eq (.tail _ O.mkl)
    mt2 := fun p hp => by
      rcases List.mem_cons.mp hp with rfl | hp
      · exact mem_setAt_ne (.head _) hTk
      · exact mem_setAt_ne (.tail _ (O.mt2 p hp)) (O.tk p (List.mem_append_left _ hp))
    tL2 := fun p hp => by
      rcases List.mem_cons.mp hp with rfl | hp
      · exact hT
      · exact O.tL2 p hp
    tk := fun p hp => by
      rcases List.mem_cons.mp hp with rfl | hp
      · exact hTk
      · exact O.tk p hp
    dat2 := by
      have : ys.map (datOf d') = ys.map (datOf d) := List.map_congr_left fun c hc => by unfold datOf; rw [hy c hc]
      rw [List.map_cons, this]
      exact DatAll.cons (ho _ (.head _)) (O.dat2.mono fun p hp => .tail _ hp) }
theorem datAll_len {news : List (Addr × Obj)} : ∀ {vs : List Value} {ds : List Dat}, DatAll news vs ds → vs.length = ds.length
  | _, _, .nil => rfl
  | _, _, .cons _ r => by rw [List.length_cons, List.length_cons, datAll_len r]
theorem datAll_append {news : List (Addr × Obj)} : ∀ {vs vs' : List Value} {ds ds' : List Dat}, DatAll news vs ds → DatAll news vs' ds' → DatAll news (vs ++ vs') (ds ++ ds')
  | _, _, _, _, .nil, h => h
  | _, _, _, _, .cons a r, h => .cons a (datAll_append r h)
theorem Own2.done (O : Own2 S L d xs U rl vs re tl k al as ae kl ws ke tl2 ys) {D : Addr} {n : Nat} (hD : L + 1 + 1 + 1 + 1 < D) : Own S L d (ys ++ xs) ((D, PySem.W.listOf (ws ++ vs).toArray n) :: U) D (ws ++ vs) n (tl2 ++ tl) :=
  { O.o.mono (U' := (D, PySem.W.listOf (ws ++ vs).toArray n) :: U) fun p hp => .tail _ hp with
    mr := .head _
    rL := hD
    mt := fun p hp => (List.mem_append.mp hp).elim (fun h => .tail _ (O.mt2 p h)) fun h => .tail _ (O.o.mt p h)
    tL := fun p hp => (List.mem_append.mp hp).elim (fun h => O.tL2 p h) fun h => O.o.tL p h
    dat := by
      rw [List.map_append]
      exact datAll_append (O.dat2.mono fun p hp => List.mem_append_left _ hp) (O.o.dat.mono fun p hp => List.mem_append_right _ hp) }
theorem Own2.lenw (O : Own2 S L d xs U rl vs re tl k al as ae kl ws ke tl2 ys) : ws.length = ys.length := by
  have := datAll_len O.dat2
  simpa using this
theorem Own.lenv (O : Own S L d xs U rl vs re tl) : vs.length = xs.length := by
  have := datAll_len O.dat
  simpa using this
end
section
set_option maxRecDepth 100000
set_option maxHeartbeats 8000000
variable {fa : Addr}
variable {w : World} {S : Lay} {U W : List (Addr × Obj)}
noncomputable def innerOf (l : List Stmt) : List Stmt := match l with | .For _ _ b _ _ :: _ => b.drop 2 | _ => []
noncomputable def inM (S : Lay) (rl al kl : Addr) (u : Str → Option Value) (y : Str) : Option Value := if y = Str.ofString "row" then some (.ref kl) else if y = Str.ofString "values" then some (.ref al) else lawM S rl u y
theorem setAt_append {x : Addr} {o : Obj} {a b : List (Addr × Obj)} : setAt x o (a ++ b) = setAt x o a ++ setAt x o b := by unfold setAt; exact List.map_append
theorem setAt_none {x : Addr} {o : Obj} {b : List (Addr × Obj)} (h : ∀ p ∈ b, p.1 ≠ x) : setAt x o b = b := by
  unfold setAt
  conv => rhs; rw [← List.map_id b]
  exact List.map_congr_left fun p hp => by rw [if_neg (h p hp)]; rfl
theorem ints_at : ∀ {vs : List Value} {ns : List Int}, IntsAre vs ns → ∀ (i : Nat) (v : Value), vs[i]? = some v → ∃ x t, v = .int x t
  | _, _, .nil, i, v, h => by simp at h
  | _, _, .cons n t r, 0, v, h => ⟨n, t, by simpa using h.symm⟩
  | _, _, .cons n t r, i + 1, v, h => ints_at r i v (by simpa using h)
theorem name_set {h₀ h : Heap} {L d : Addr} {o : Obj} {r : List (Addr × Obj)} {G : Prop} (_ : News h₀ L h (setAt d o r)) (k : ∀ x, x = o → G) : G := k _ rfl
theorem nodup4 {α : Type} [DecidableEq α] {ys : List α} {a b x y : α} (h : ys.length ≤ 3) (nd : ys.Nodup) (ha : a ∈ ys) (hb : b ∈ ys) (hx : x ∈ ys) (hy : y ∈ ys) (hab : a ≠ b) (hxa : x ≠ a) (hxb : x ≠ b) (hya : y ≠ a) (hyb : y ≠ b) : x = y := by
  apply Classical.byContradiction
  intro hxy
  have : [a, b, x, y].Nodup := by simp [hab, hxa.symm, hxb.symm, hya.symm, hyb.symm, hxy]
  have := nodup_len [a, b, x, y] ys this (by intro z hz; simp at hz; rcases hz with rfl | rfl | rfl | rfl <;> assumption)
  simp at this
  exact (om77 h this).elim
noncomputable def toldOf (vv lv : Value) (tm : Tok) (f : Str) : Value := if f = Str.ofString "VALUE" then vv else if f = Str.ofString "LINK" then lv else .str (Str.ofString "") tm
theorem take_not {α : Type} {x : α} : ∀ {l : List α} {i : Nat}, l.Nodup → l[i]? = some x → x ∉ l.take i
  | [], i, _, h => by simp at h
  | y :: r, 0, _, _ => by simp
  | y :: r, i + 1, nd, h => by
    have h1 := List.nodup_cons.mp nd
    have h2 : r[i]? = some x := by simpa using h
    rw [List.take_succ_cons, List.mem_cons, not_or]
    exact ⟨fun q => h1.1 (q ▸ List.mem_of_getElem? h2), take_not h1.2 h2⟩
theorem told_snoc {ys : List Str} {i : Nat} {f : Str} {vv lv : Value} {tm : Tok} (h : ys[i]? = some f) : (ys.take i).map (toldOf vv lv tm) ++ [toldOf vv lv tm f] = (ys.take (i + 1)).map (toldOf vv lv tm) := by
  rw [List.take_add_one, h]; simp
theorem told_other {ys : List Str} {i : Nat} {f : Str} {vv lv : Value} {tm tm' : Tok} (hl : ys.length ≤ 3) (nd : ys.Nodup) (hv : Str.ofString "VALUE" ∈ ys) (hk : Str.ofString "LINK" ∈ ys) (h : ys[i]? = some f) (h1 : f ≠ Str.ofString "VALUE") (h2 : f ≠ Str.ofString "LINK") :
    (ys.take i).map (toldOf vv lv tm) = (ys.take i).map (toldOf vv lv tm') := List.map_congr_left fun x hx => by
  have hxy : x ∈ ys := List.mem_of_mem_take hx
  unfold toldOf
  by_cases a1 : x = Str.ofString "VALUE"
  · rw [if_pos a1, if_pos a1]
  · by_cases a2 : x = Str.ofString "LINK"
    · rw [if_neg a1, if_neg a1, if_pos a2, if_pos a2]
    · have := nodup4 hl nd hv hk hxy (List.mem_of_getElem? h) (fun q => sVL q.symm) a1 a2 h1 h2
      exact absurd hx (this ▸ take_not nd h)
theorem told_last {ys : List Str} {i : Nat} {f : Str} {vv lv : Value} {tm t : Tok} (hl : ys.length ≤ 3) (nd : ys.Nodup) (hv : Str.ofString "VALUE" ∈ ys) (hk : Str.ofString "LINK" ∈ ys) (h : ys[i]? = some f) (h1 : f ≠ Str.ofString "VALUE") (h2 : f ≠ Str.ofString "LINK") :
    (ys.take i).map (toldOf vv lv tm) ++ [.str (Str.ofString "") t] = (ys.take (i + 1)).map (toldOf vv lv t) := by
  rw [← told_snoc h, told_other hl nd hv hk h h1 h2 (tm' := t)]
  congr 1
  unfold toldOf
  rw [if_neg h1, if_neg h2]
theorem num_le {d : Pl} {n : Nat} {xs : List Cell} (b : Build d n xs) (c : Cell) (hc : c ∈ d.hs) : c.num ≤ d.made := by
  have : c.num ∈ d.hs.map (·.num) := List.mem_map.mpr ⟨c, hc, rfl⟩
  rw [b.asc] at this
  obtain ⟨k, hk, e⟩ := List.mem_map.mp this
  have := List.mem_range.mp hk
  rw [b.made, ← e]
  exact om78 e this
end
local macro_rules | `(tactic| walk_at "use con top") => `(tactic| ((case B | F | X | N | T => k_asm); (case hk => first | exact rfl | assumption); (case hd | hu => exact Nat.le_of_ble_eq_true rfl)))
section
set_option maxRecDepth 100000
set_option maxHeartbeats 8000000
variable {fa : Addr}
variable {w : World} {S : Lay} {U W : List (Addr × Obj)}
theorem Build.grow {d : Pl} {n : Nat} {xs : List Cell} {c : Cell} {x : Int} {tv : Tok} {o o' : Option Cell} {k : Str} (b : Build d n xs) (hnum : c.num = d.made + 1) (hoff : ∀ y ∈ d.hs, y.a ≠ c.a) : Build ((d.num.grow c (.int x tv) o).set k o') (n + 1) (c :: xs) where
  sub := fun y hy => by
    show y ∈ d.hs ++ [c]
    rcases List.mem_cons.mp hy with rfl | hy
    · exact List.mem_append_right _ (List.mem_singleton.mpr rfl)
    · exact List.mem_append_left _ (b.sub y hy)
  all := fun y hy => by
    have hy : y ∈ d.hs ++ [c] := hy
    rcases List.mem_append.mp hy with hy | hy
    · exact .tail _ (b.all y hy)
    · rw [List.mem_singleton.mp hy]; exact .head _
  nd := List.nodup_cons.mpr ⟨fun h => hoff c (b.sub c h) rfl, b.nd⟩
  made := by
    show d.made + 1 = ((d.hs ++ [c]).length : Nat)
    rw [b.made]; simp
  asc := by
    show (d.hs ++ [c]).map (·.num) = (List.range (d.hs ++ [c]).length).map fun k => ((k + 1 : Nat) : Int)
    rw [List.map_append, b.asc, List.length_append, List.length_singleton, List.range_succ, List.map_append]
    simp [hnum, b.made]
  vi := fun y hy => by
    have hy : y ∈ d.hs ++ [c] := hy
    show ∃ z t, (if y.a = c.a then Value.int x tv else d.vl y) = .int z t
    rcases List.mem_append.mp hy with hy | hy
    · rw [if_neg (hoff y hy)]; exact b.vi y hy
    · rw [List.mem_singleton.mp hy, if_pos rfl]; exact ⟨x, tv, rfl⟩
  len := by have := b.len; simp; exact om79 this
  hlen := by
    show (d.hs ++ [c]).length ≤ n + 1
    have := b.hlen; simp; exact om79 this
structure InJ (w : World) (S : Lay) (L : Addr) (i : Nat) (d₀ : Pl) (xs : List Cell) (W : List (Addr × Obj)) (rl : Addr) (vs : List Value) (re : Nat) (tl : List (Addr × Obj)) (k : Str) (al : Addr) (as : List Value) (ae : Nat) (kl : Addr) (u₀ : Str → Option Value) (j : Nat) (m : Str → Option Value) (nx : List (Addr × Obj))
    (d : Pl) (U : List (Addr × Obj)) (ws : List Value) (ke : Nat) (tl2 : List (Addr × Obj)) (ys : List Cell) (o : Option Cell) (u : Option Value) : Prop where
  m : m = fun y => if y = Str.ofString "told" then u else inM S rl al kl u₀ y
  st : St w S d (U ++ W) nx
  off : ∀ q ∈ W, ∀ p ∈ U, q.1 ≠ p.1
  own : Own2 S L d xs U rl vs re tl k al as ae kl ws ke tl2 ys
  b : Build d (3 * i + j) (ys ++ xs)
  t : d.t = d₀.t
  vk : d.vr k = some o
  ch : Chain d.lk o (ys ++ xs)
  vo : ∀ k', k' ≠ k → d.vr k' = d₀.vr k'
  hy : ys.length = j
theorem law_self {S : Lay} {D : Addr} {m : Str → Option Value} (h1 : m (Str.ofString "fields") = some (.ref S.fl)) (h2 : m (Str.ofString "rows") = some (.ref D)) : m = lawM S D m := by
  funext y
  unfold lawM
  by_cases e1 : y = Str.ofString "fields"
  · subst e1; rw [if_pos rfl]; exact h1
  · rw [if_neg e1]
    by_cases e2 : y = Str.ofString "rows"
    · subst e2; rw [if_pos rfl]; exact h2
    · rw [if_neg e2]
theorem name_fr {h₀ h : Heap} {L : Addr} {m : Str → Option Value} {G : Prop} (_ : Fr h₀ L h m) (k : ∀ m', m' = m → G) : G := k _ rfl
theorem upd_told {x : Str} {a b : Option Value} {m : Str → Option Value} : (fun z => if z = x then a else (fun y => if y = x then b else m y) z) = fun y => if y = x then a else m y := by
  funext z
  by_cases h : z = x
  · simp [h]
  · simp [h]
theorem name_push {h₀ h : Heap} {L d x : Addr} {o ox : Obj} {r : List (Addr × Obj)} {G : Prop} (_ : News h₀ L h (setAt d o ((x, ox) :: r))) (k : ∀ y, y = x → G) : G := k _ rfl
theorem law_inner {p : Program} {loose : List Str} {mean : ExcName → Option Value} {mg mb : Str → Option Value} {base h₀ hp : Heap} {L : Addr} {news : List (Addr × Obj)} {g : Array GenState} {dr : Drawn} {tk : Nat} {os : OsState} {Q : Flow → Shared → Prop} {E : Value → Shared → Prop} {sc : Scope} (hsc : sc = scOf (KK w.params) 533)
    {d : Pl} {rl al kl : Addr} {vs as : List Value} {re ae ke i : Nat} {u : Str → Option Value} {xs : List Cell} {tl : List (Addr × Obj)} {k : Str} {ns : List Int} {o : Option Cell}
    (ok : LayOk S) (B : Below callerA base [] h₀) (F : Fr h₀ L hp (inM S rl al kl u)) (X : (KK w.params).In h₀) (N : News h₀ L hp news) (T : Top p loose mean mg mb h₀) (hE : PassesOwn (model PySem.Challenge.rw_sa0599_01.row.prog w) (callerA.deeper (lawEnv sc L fa)) (lawEnv sc L fa) E)
    (hSt : St w S d (U ++ W) news) (hW : ∀ q ∈ W, ∀ p ∈ U, q.1 ≠ p.1) (O : Own2 S L d xs U rl vs re tl k al as ae kl [] ke [] []) (b : Build d (3 * i) xs) (hi : i < 2) (hk : k ∈ names6) (hv : d.vr k = some o) (hch : Chain d.lk o xs) (hint : IntsAre as ns) (hlen : as.length ≤ 3)
    (fin : ∀ h' tk' nx m' d' xs' U' rl' vs' re' tl' u' o', m' = lawM S rl' u' → Fr h₀ L h' m' → News h₀ L h' nx → St w S d' (U' ++ W) nx → (∀ q ∈ W, ∀ p ∈ U', q.1 ≠ p.1) → Own S L d' xs' U' rl' vs' re' tl' → Build d' (3 * (i + 1)) xs' → d'.t = d.t → d'.vr k = some o' → Chain d'.lk o' xs' → (∀ k', k' ≠ k → d'.vr k' = d.vr k') → Q .next ⟨h', g, dr, tk', os⟩) :
    wpAny (model PySem.Challenge.rw_sa0599_01.row.prog w) (callerA.deeper (lawEnv sc L fa)) (execs (innerOf ((bodyOf (KK w.params) 533).drop 2)) (lawEnv sc L fa)) Q E ⟨hp, g, dr, tk, os⟩ := by
  k_fill
  have esc : scOf (KK w.params) 533 = ⟨.function, _, _, _, _⟩ := rfl
  rw [esc] at hsc
  subst hsc
  show wpAny _ _ (execs (_ :: _) _) _ _ _
  k_steps
  refine For_cell h₀ ?_ (hE := hE)
  k_steps
  unfold Hold
  refine iter_list_S (fun j m nx => ∃ d' U' ws ke tl2 ys o' u', InJ w S L i d xs W rl vs re tl k al as ae kl u j m nx d' U' ws ke tl2 ys o' u') rfl (hSt.elim fun H A => A.own _ (List.mem_append_left _ O.ma)) F N ?_ ?_ ?_
  · refine ⟨d, U, [], ke, [], [], o, inM S rl al kl u (Str.ofString "told"), { m := ?_, st := hSt, off := hW, own := O, b := b, t := rfl, vk := hv, ch := hch, vo := fun _ _ => rfl, hy := rfl }⟩
    funext y
    by_cases h : y = Str.ofString "told"
    · subst h; rfl
    · simp only [if_neg h]
  · rintro j v m₁ nx h1 tk1 own hvj hoff hal pP0 F₁ N₁
    refine byC fun nG => ?_
    obtain ⟨d₁, U₁, ws, ke₁, tl2, ys, o₁, u₁, J⟩ := pP0
    obtain rfl := J.m
    obtain ⟨x, tv, rfl⟩ := ints_at hint _ _ hvj
    have O₁ := J.own
    obtain ⟨o1, hcw, hcw'⟩ := O₁.o.cw
    obtain ⟨o2, hca, hca'⟩ := O₁.o.ca
    obtain ⟨o3, ku, hcn, hcn'⟩ := O₁.cn
    obtain ⟨o4, v4, hcv, hcv'⟩ := O₁.o.cv
    refine nG ?_
    have A0 := J.st.append hoff
    have AU : ∀ p ∈ U₁, p ∈ nx ++ own := fun p hp => A0.elim fun H A => A.own _ (List.mem_append_left _ (List.mem_append_left _ hp))
    have r1 := AU _ hcw
    have r2 := AU _ hca
    have r3 := AU _ hcn
    have r4 := AU _ hcv
    have n1 := na14 L
    have n2 := na24 L
    have n3 := na34 L
    k_steps
    refine name_set (by with_reducible assumption) fun oV eV => ?_
    subst eV
    rename _ = Data.cell (some (Value.int x tv)) => hoV
    have A1 := A0.own_at (o' := oV) (List.mem_append_left _ (List.mem_append_left _ hcv))
    have hWv : ∀ q ∈ W, q.1 ≠ L + 1 + 1 + 1 + 1 := fun q hq => J.off q hq _ hcv
    have hOv : ∀ q ∈ own, q.1 ≠ L + 1 + 1 + 1 + 1 := fun q hq => hoff q hq _ (List.mem_map.mpr ⟨_, J.st.elim fun H A => A.own _ (List.mem_append_left _ hcv), rfl⟩)
    rw [setAt_append, setAt_append, setAt_none hWv, setAt_none hOv] at A1
    have O₂ := O₁.value hoV
    refine byC fun nG => ?_
    obtain ⟨H₁, B₁⟩ := A1
    obtain ⟨lv, hlv, hlo⟩ := B₁.var J.vk
    have e1 := B₁.own _ (List.mem_append_left _ (List.mem_append_left _ (O₂.o.mr)))
    have e2 := B₁.fl
    have r5 := mem_setAt_eq (o' := oV) r4
    obtain ⟨o5, hcw2, hcw2'⟩ := O₂.o.cw
    obtain ⟨o6, hca2, hca2'⟩ := O₂.o.ca
    obtain ⟨o7, ku2, hcn2, hcn2'⟩ := O₂.cn
    refine nG ?_
    have s1 := B₁.own _ (List.mem_append_left _ (List.mem_append_left _ hcw2))
    have s2 := B₁.own _ (List.mem_append_left _ (List.mem_append_left _ hca2))
    have s3 := B₁.own _ (List.mem_append_left _ (List.mem_append_left _ hcn2))
    have m1 := B₁.iw
    have m2 := B₁.dw
    have m3 := B₁.st
    have gst := B₁.gst
    have gmd := B₁.gmd
    have hso := B₁.so
    have hkl := B₁.klen
    have hl1 : S.fvs.length = S.ys.length := strs_length ok.hstr
    have hl2 := ok.len
    k_dflt (refine LCg.CompSrc.ledger (by rfl) (by k_asm) (by k_asm) (by exact e2) ?hsz ?_)
    case hsz => rw [sizeLine_eq]; simp; exact om80 hl1 hl2
    intro g1
    refine comp_loop (fun i ys n1 => n1 = setAt (L + 1 + 1 + 1 + 1) oV (nx ++ own) ∧ ∃ tm, ys = (S.ys.take i).map (toldOf (.int x tv) lv tm)) ⟨rfl, 0, rfl⟩ ?_ ?_
    · rintro i ys n1 v I oI C oC D m₂ h tk E' hi pP0 hP' hC hx F5 N5 off ne
      refine byC fun nG => ?_
      obtain ⟨rfl, tm, rfl⟩ := pP0
      obtain ⟨f, ft, rfl, hf⟩ := strs_at ok.hstr i v (by simpa using hP')
      refine nG ?_
      by_cases hf1 : f = Str.ofString "VALUE"
      · subst hf1
        k_steps
        exact CPost.intro (by k_asm) (by k_asm) (by assumption) (.inr ⟨_, e2, rfl, _, rfl⟩) ⟨rfl, tm, by rw [← told_snoc hf]; rfl⟩
      · by_cases hf2 : f = Str.ofString "LINK"
        · subst hf2
          k_steps
          exact CPost.intro (by k_asm) (by k_asm) (by assumption) (.inr ⟨_, e2, rfl, _, rfl⟩) ⟨rfl, tm, by rw [← told_snoc hf]; rfl⟩
        · k_steps
          all_goals (try (exact CPost.intro (by k_asm) (by k_asm) (by assumption) (.inr ⟨_, e2, rfl, _, rfl⟩) ⟨rfl, _, told_last hl2 ok.nd ok.val ok.link hf hf1 hf2⟩))
          all_goals (exfalso; first | exact hf1 (eq_of_beq (by assumption)) | exact hf2 (eq_of_beq (by assumption)))
    · rintro ys n1 pP0
      refine byC fun nG => ?_
      obtain ⟨rfl, tm, hy⟩ := pP0
      refine nG ?_
      rw [show S.ys.take S.fvs.toArray.size = S.ys by simp [hl1]] at hy
      subst hy
      k_steps
      refine name1 (by with_reducible assumption) fun D1 e1 => ?_
      subst e1
      rename LCg.Off1 D1 _ => hD1
      have B₂ := St.push ⟨H₁, B₁⟩ (x := D1) (o := PySem.W.listOf (rowOf S.ys (.int x tv) lv tm) (S.ys.map (toldOf (.int x tv) lv tm)).length) (off1_mem hD1)
      unfold Hold
      try k_fold
      refine' con_useS (made_data_st (d := d₁) (U := (D1, PySem.W.listOf (rowOf S.ys (.int x tv) lv tm) (S.ys.map (toldOf (.int x tv) lv tm)).length) :: (setAt (L + 1 + 1 + 1 + 1) oV U₁ ++ W ++ own)) (o := o₁) (tl := D1) (te := (S.ys.map (toldOf (.int x tv) lv tm)).length) (tm := tm) (vv := .int x tv) (lv := lv) ok (List.mem_cons_self ..) hlo (fun c hc => B₁.vin k c (by rw [J.vk, hc])) (fun c hc => num_le J.b c hc) (.inl ⟨x, tv, rfl⟩) ?hlen) ?B ?F ?X ?N ?T ?hk ?hd ?hu ?pp ?_
      case hlen => have := J.b.hlen; have := (List.getElem?_eq_some_iff.mp hvj).1; exact om81 hi hlen (by assumption) this
      walk_at "use con top"
      case pp => exact B₂
      rintro r6 h6 tk6 nx6 F₆ N₆ pP0
      refine byC fun nG => ?_
      obtain ⟨c, rfl, hnum, hoffc, H₆, B₆⟩ := pP0
      refine nG ?_
      have s1 := B₆.own _ (.tail _ (List.mem_append_left _ (List.mem_append_left _ hcw2)))
      have s2 := B₆.own _ (.tail _ (List.mem_append_left _ (List.mem_append_left _ hca2)))
      have s3 := B₆.own _ (.tail _ (List.mem_append_left _ (List.mem_append_left _ hcn2)))
      have m1 := B₆.iw
      have m2 := B₆.dw
      have m3 := B₆.st
      have gst := B₆.gst
      have gmd := B₆.gmd
      have hso := B₆.so
      have hkl := B₆.klen
      k_steps
      rename Obj.IsDictOf _ _ (stored H₆.kvs k _) => hz
      have B₇ := B₆.store hk (v := .ref c.a) (o := some c) rfl (fun y hy => by injection hy with hy; subst hy; exact List.mem_append_right _ (List.mem_singleton.mpr rfl)) hz
      have s1 := B₇.own _ (.tail _ (List.mem_append_left _ (List.mem_append_left _ hcw2)))
      have s2 := B₇.own _ (.tail _ (List.mem_append_left _ (List.mem_append_left _ hca2)))
      have s3 := B₇.own _ (.tail _ (List.mem_append_left _ (List.mem_append_left _ hcn2)))
      have s4 := B₇.own _ (.tail _ (List.mem_append_left _ (List.mem_append_left _ O₂.mkl)))
      refine byC fun nG => ?_
      obtain ⟨o8, v8, hcv2, hcv2'⟩ := O₂.o.cv
      refine nG ?_
      have s5 := B₇.own _ (.tail _ (List.mem_append_left _ (List.mem_append_left _ (mem_setAt_eq (o' := oV) hcv))))
      have m1 := B₇.iw
      have m2 := B₇.dw
      have gmd := B₇.gmd
      have hwl := J.own.lenw
      have hjl := (List.getElem?_eq_some_iff.mp hvj).1
      have hyl := J.hy
      have hwz : ws.length < 900 := by exact om82 hlen hwl hjl hyl
      k_steps
      rename News _ _ _ (setAt kl _ ((_, _) :: _)) => NF
      refine name_push NF fun T eT => ?_
      subst eT
      rename (∀ p ∈ setAt S.st _ nx6, p.1 < T) => hT
      obtain ⟨tup, etup⟩ : ∃ t, t = ({ cls := Value.type "tuple", data := Data.seq #[Value.int ((d₁.num.grow c (Value.int x tv) o₁).set k (some c)).made H₆.mt, Value.int x tv] } : Obj) := ⟨_, rfl⟩
      rw [← etup] at NF
      have S8 := St.push ⟨_, B₇⟩ (x := T) (o := tup) fun p hp => Nat.ne_of_lt (hT p hp)
      have hTk : T ≠ kl := fun q => absurd (hT _ s4) (by rw [← q]; exact Nat.lt_irrefl _)
      have hTL : L + 1 + 1 + 1 + 1 < T := hT _ s5
      have hWk : ∀ q ∈ W, q.1 ≠ kl := fun q hq => J.off q hq _ O₁.mkl
      have hOk : ∀ q ∈ own, q.1 ≠ kl := fun q hq => hoff q hq _ (List.mem_map.mpr ⟨_, J.st.elim fun H A => A.own _ (List.mem_append_left _ O₁.mkl), rfl⟩)
      have S9 := S8.own_at (o' := PySem.W.listOf (Value.ref T :: ws).toArray (ke₁ + 1)) (.tail _ (.tail _ (List.mem_append_left _ (List.mem_append_left _ O₂.mkl))))
      have S10 : St w S ((d₁.num.grow c (Value.int x tv) o₁).set k (some c)) ((setAt kl (PySem.W.listOf (Value.ref T :: ws).toArray (ke₁ + 1)) ((T, tup) :: setAt (L + 1 + 1 + 1 + 1) oV U₁) ++ W) ++ own) _ := S9.sub fun p hp => by
        rcases List.mem_append.mp hp with hp | hp
        · rcases List.mem_append.mp hp with hp | hp
          · refine setAt_sub (fun q hq => ?_) p hp
            rcases List.mem_cons.mp hq with rfl | hq
            · exact .head _
            · exact .tail _ (.tail _ (List.mem_append_left _ (List.mem_append_left _ hq)))
          · exact mem_setAt_ne (.tail _ (.tail _ (List.mem_append_left _ (List.mem_append_right _ hp)))) (hWk p hp)
        · exact mem_setAt_ne (.tail _ (.tail _ (List.mem_append_right _ hp))) (hOk p hp)
      have adr : ∀ p ∈ setAt kl (PySem.W.listOf (Value.ref T :: ws).toArray (ke₁ + 1)) ((T, tup) :: setAt (L + 1 + 1 + 1 + 1) oV U₁), p.1 = T ∨ ∃ q ∈ U₁, q.1 = p.1 := fun p hp => by
        have : p.1 ∈ (setAt kl (PySem.W.listOf (Value.ref T :: ws).toArray (ke₁ + 1)) ((T, tup) :: setAt (L + 1 + 1 + 1 + 1) oV U₁)).map (·.1) := List.mem_map.mpr ⟨p, hp, rfl⟩
        rw [setAt_addrs, List.map_cons, setAt_addrs] at this
        rcases List.mem_cons.mp this with h | h
        · exact .inl h
        · refine byC fun nG => ?_
          obtain ⟨q, hq, e⟩ := List.mem_map.mp h
          refine nG ?_
          exact .inr ⟨q, hq, e⟩
      have offW : ∀ q ∈ W, ∀ p ∈ setAt kl (PySem.W.listOf (Value.ref T :: ws).toArray (ke₁ + 1)) ((T, tup) :: setAt (L + 1 + 1 + 1 + 1) oV U₁), q.1 ≠ p.1 := fun q hq p hp e => by
        rcases adr p hp with h | ⟨r, hr, h⟩
        · have := hT _ (B₇.own _ (.tail _ (List.mem_append_left _ (List.mem_append_right _ hq))))
          exact absurd this (by rw [e, h]; exact Nat.lt_irrefl _)
        · exact J.off q hq r hr (e.trans h.symm)
      have offO : ∀ q ∈ own, ∀ p ∈ setAt kl (PySem.W.listOf (Value.ref T :: ws).toArray (ke₁ + 1)) ((T, tup) :: setAt (L + 1 + 1 + 1 + 1) oV U₁) ++ W, q.1 ≠ p.1 := fun q hq p hp e => by
        rcases List.mem_append.mp hp with hp | hp
        · rcases adr p hp with h | ⟨r, hr, h⟩
          · have := hT _ (B₇.own _ (.tail _ (List.mem_append_right _ hq)))
            exact absurd this (by rw [e, h]; exact Nat.lt_irrefl _)
          · exact hoff q hq r.1 (List.mem_map.mpr ⟨r, J.st.elim fun H A => A.own _ (List.mem_append_left _ hr), rfl⟩) (e.trans h.symm)
        · exact hoff q hq p.1 (List.mem_map.mpr ⟨p, J.st.elim fun H A => A.own _ (List.mem_append_right _ hp), rfl⟩) e
      have offc : ∀ y ∈ ys ++ xs, y.a ≠ c.a := fun y hy => hoffc y (J.b.sub y hy)
      have vlc : ∀ y ∈ ys ++ xs, ((d₁.num.grow c (Value.int x tv) o₁).set k (some c)).vl y = d₁.vl y := fun y hy => if_neg (offc y hy)
      have O₃ := O₂.add (T := T) (o := tup) (c := c) (d' := (d₁.num.grow c (Value.int x tv) o₁).set k (some c)) hTL hTk (fun news hm => by
        rw [etup] at hm
        have e1 : datOf ((d₁.num.grow c (Value.int x tv) o₁).set k (some c)) c = .tuple [.int (d₁.made + 1), .int x] := by
          unfold datOf
          have : ((d₁.num.grow c (Value.int x tv) o₁).set k (some c)).vl c = .int x tv := if_pos rfl
          rw [this, hnum]; rfl
        rw [e1]
        exact DatIn.tuple (vs := [.int (d₁.made + 1) H₆.mt, .int x tv]) (n := 0) hm (DatAll.cons (DatIn.int _ _) (DatAll.cons (DatIn.int _ _) DatAll.nil))) (fun y hy => vlc y (List.mem_append_right _ hy)) (fun y hy => vlc y (List.mem_append_left _ hy))
      refine byC fun nG => ?_
      obtain ⟨nf, S11, off11, sub11, own11⟩ := S10.off offO
      refine nG ?_
      rename Fr _ _ _ _ => FF
      refine InvEndG.intro (nx := nf) FF NF ⟨?_, _, _, _, _, _, _, some c, some (.ref D1), { m := upd_told, st := S11, off := offW, own := O₃, b := (J.b.grow hnum hoffc), t := J.t, vk := Pl.set_eq, ch := ⟨rfl, ?_⟩, vo := fun k' hk' => (Pl.set_ne hk').trans (J.vo k' hk'), hy := by rw [List.length_cons, J.hy] }⟩ off11 sub11 own11
      · exact S11.elim fun H A => A.own _ (List.mem_append_left _ O₃.ma)
      · show Chain (upd d₁.lk c o₁) (if c.a = c.a then o₁ else d₁.lk c) (ys ++ xs)
        rw [if_pos rfl]
        exact J.ch.congr fun y hy => if_neg (offc y hy)
  · rintro m₁ nx h1 tk1 pP0 F₁ N₁
    refine byC fun nG => ?_
    obtain ⟨d₁, U₁, ws, ke₁, tl2, ys, o₁, u₁, J⟩ := pP0
    obtain rfl := J.m
    have O₁ := J.own
    obtain ⟨H₁, A₁⟩ := J.st
    have s1 := A₁.own _ (List.mem_append_left _ O₁.o.mr)
    have s2 := A₁.own _ (List.mem_append_left _ O₁.mkl)
    obtain ⟨o4, v4, hcv, hcv'⟩ := O₁.o.cv
    refine nG ?_
    have s3 := A₁.own _ (List.mem_append_left _ hcv)
    have hwl := O₁.lenw
    have hvl := O₁.o.lenv
    have hyl := J.hy
    have hxl := b.len
    k_steps
    unfold Hold
    refine kmk_add_lit (by k_asm) (by k_asm) (News.isList (by k_asm) (by k_mem)) (News.isList (by k_asm) (by k_mem)) (zs := ws ++ vs) (by simp) ?_ (by rw [sizeLine_eq]; simp; exact om83 hi hlen hwl hvl hyl hxl)
    intro D2 h2 F2 N2 l2
    k_steps
    rename Fr _ _ _ _ => FF
    rename News _ _ _ _ => NN
    have hD : L + 1 + 1 + 1 + 1 < D2 := l2 _ s3
    have SD := St.push ⟨_, A₁⟩ (x := D2) (o := PySem.W.listOf (ws ++ vs).toArray 0) fun p hp => Nat.ne_of_lt (l2 p hp)
    refine name_fr FF fun m' em => ?_
    rw [← em] at FF
    refine fin _ _ _ m' d₁ (ys ++ xs) ((D2, PySem.W.listOf (ws ++ vs).toArray 0) :: U₁) D2 (ws ++ vs) 0 (tl2 ++ tl) m' o₁ ?mm FF NN SD ?ww (O₁.done hD) ?bb J.t J.vk J.ch J.vo
    case mm => exact law_self (by rw [em]; rfl) (by rw [em]; rfl)
    case ww =>
      intro q hq p hp
      rcases List.mem_cons.mp hp with rfl | hp
      · exact Nat.ne_of_lt (l2 q (A₁.own q (List.mem_append_right _ hq)))
      · exact J.off q hq p hp
    case bb => exact { J.b with len := by have := J.b.len; exact om84 hlen hyl this, hlen := by have := J.b.hlen; exact om84 hlen hyl this }
end
section
set_option maxRecDepth 100000
set_option maxHeartbeats 8000000
variable {fa : Addr}
variable {w : World} {S : Lay} {U : List (Addr × Obj)}
theorem off3_own {I C D : Addr} {oI oC oD : Obj} {l : List (Addr × Obj)} (h : LCg.Off3 I C D l) : OwnOff [(I, oI), (C, oC), (D, oD)] (l.map (·.1)) := by
  intro q hq b hb e
  obtain ⟨p, hp, rfl⟩ := List.mem_map.mp hb
  have := h.mem p hp
  simp only [List.mem_cons, List.not_mem_nil, or_false] at hq
  rcases hq with rfl | rfl | rfl
  · exact this.1 e.symm
  · exact this.2.1 e.symm
  · exact this.2.2 e.symm
theorem own_off3 {I C D : Addr} {oI oC oD : Obj} : ∀ {l : List (Addr × Obj)}, OwnOff [(I, oI), (C, oC), (D, oD)] (l.map (·.1)) → LCg.Off3 I C D l
  | [], _ => trivial
  | p :: r, h => ⟨⟨fun e => h _ (.head _) p.1 (.head _) e.symm, fun e => h _ (.tail _ (.head _)) p.1 (.head _) e.symm, fun e => h _ (.tail _ (.tail _ (.head _))) p.1 (.head _) e.symm⟩, own_off3 fun q hq b hb => h q hq b (.tail _ hb)⟩
theorem ints_snoc {x : Int} {t : Tok} : ∀ {vs : List Value} {ns : List Int}, IntsAre vs ns → IntsAre (vs ++ [.int x t]) (ns ++ [x])
  | _, _, .nil => .cons x t .nil
  | _, _, .cons n' t' h => .cons n' t' (ints_snoc h)
theorem inM_swap {S : Lay} {rl al kl : Addr} {u : Str → Option Value} : (fun y => if y = Str.ofString "values" then some (Value.ref al) else if y = Str.ofString "row" then some (Value.ref kl) else lawM S rl u y) = inM S rl al kl u := by
  funext y
  unfold inM
  by_cases h1 : y = Str.ofString "row"
  · subst h1
    rw [if_neg (by decide +kernel), if_pos rfl, if_pos rfl]
  · rw [if_neg h1, if_neg h1]
theorem name_tup {h₀ h : Heap} {L d t l : Addr} {o ot ol : Obj} {r : List (Addr × Obj)} {G : Prop} (_ : News h₀ L h (setAt d o ((t, ot) :: (l, ol) :: r))) (k : ∀ x y z, x = o → y = t → z = l → G) : G := k _ _ _ rfl rfl rfl
theorem own2_init {S : Lay} {L rl al kl : Addr} {d d' : Pl} {xs : List Cell} {U : List (Addr × Obj)} {vs as : List Value} {re ae ke : Nat} {tl : List (Addr × Obj)} {k : Str} (O : Own S L d xs U rl vs re tl) (hv : d'.vl = d.vl) (hk : ∃ o ku, (L + 1 + 1 + 1, o) ∈ U ∧ o.data = .cell (some (.str k ku))) (ha : al ≠ L + 1 + 1 + 1 + 1) (hkl : ∀ p ∈ U, p.1 < kl) (hka : al < kl) :
    Own2 S L d' xs ((kl, PySem.W.listOf #[] ke) :: (al, PySem.W.listOf as.toArray ae) :: U) rl vs re tl k al as ae kl [] ke [] [] where
  o := (O.mono fun p hp => .tail _ (.tail _ hp)).vals fun c _ => by rw [hv]
  cn := let ⟨o, ku, h1, h2⟩ := hk; ⟨o, ku, .tail _ (.tail _ h1), h2⟩
  ma := .tail _ (.head _)
  aL := ha
  mkl := .head _
  kL := let ⟨_, _, h, _⟩ := O.cv; hkl _ h
  kr := fun q => absurd (hkl _ O.mr) (by rw [q]; exact Nat.lt_irrefl _)
  ka := fun q => absurd hka (by rw [q]; exact Nat.lt_irrefl _)
  mt2 := fun _ h => nomatch h
  tL2 := fun _ h => nomatch h
  tk := fun p hp q => absurd (hkl _ (O.mt p hp)) (by rw [q]; exact Nat.lt_irrefl _)
  dat2 := DatAll.nil
theorem vars_1 {d d' : Pl} {xs : List Cell} {o : Option Cell} (h : ∀ k, d.vr k = none) (hv : d'.vr (Str.ofString "D") = some o) (hc : Chain d'.lk o xs) (hk : ∀ k, k ≠ Str.ofString "D" → d'.vr k = d.vr k) : VarsAt d' 1 xs where
  v0 := by omega
  v1 := fun _ => ⟨⟨o, hv, hc⟩, fun k hk' => (hk k hk').trans (h k)⟩
  v2 := by omega
theorem vars_2 {d d' : Pl} {xs : List Cell} {o o' : Option Cell} (hD : d.vr (Str.ofString "D") = some o') (h : ∀ k, k ≠ Str.ofString "D" → d.vr k = none) (hv : d'.vr (Str.ofString "C") = some o) (hc : Chain d'.lk o xs) (hk : ∀ k, k ≠ Str.ofString "C" → d'.vr k = d.vr k) : VarsAt d' 2 xs where
  v0 := by omega
  v1 := by omega
  v2 := fun _ => ⟨⟨o, hv, hc⟩, ⟨o', (hk _ (by decide +kernel)).trans hD⟩, fun k h1 h2 => (hk k h2).trans (h k h1)⟩
theorem dc_cps : (Str.ofString "DC").cps = #[68, 67] := by decide +kernel
theorem dc_D : (⟨#[68]⟩ : Str) = Str.ofString "D" := by decide +kernel
theorem dc_C : (⟨#[67]⟩ : Str) = Str.ofString "C" := by decide +kernel
theorem dc_at {i : Nat} {c : Nat} (h : (Str.ofString "DC").cps[i]? = some c) : ∃ k, (k = Str.ofString "D" ∧ i = 0 ∨ k = Str.ofString "C" ∧ i = 1) ∧ (⟨#[c]⟩ : Str) = k := by
  rw [dc_cps] at h
  match i, h with
  | 0, h => obtain rfl : c = 68 := by simpa using h.symm
            exact ⟨_, .inl ⟨rfl, rfl⟩, dc_D⟩
  | 1, h => obtain rfl : c = 67 := by simpa using h.symm
            exact ⟨_, .inr ⟨rfl, rfl⟩, dc_C⟩
  | i + 2, h => simp at h
theorem law_loop {p : Program} {loose : List Str} {mean : ExcName → Option Value} {mg mb : Str → Option Value} {base h₀ hp : Heap} {L : Addr} {m : Str → Option Value} {news : List (Addr × Obj)} {g : Array GenState} {dr : Drawn} {tk : Nat} {os : OsState} {Q : Flow → Shared → Prop} {E : Value → Shared → Prop} {d : Pl} {rl : Addr} {re : Nat} {u : Str → Option Value} {sc : Scope} (hsc : sc = scOf (KK w.params) 533)
    (ok : LayOk S) (B : Below callerA base [] h₀) (F : Fr h₀ L hp m) (X : (KK w.params).In h₀) (N : News h₀ L hp news) (T : Top p loose mean mg mb h₀) (hE : PassesOwn (model PySem.Challenge.rw_sa0599_01.row.prog w) (callerA.deeper (lawEnv sc L fa)) (lawEnv sc L fa) E)
    (hJ : LoopJ w S L 0 m news d [] U rl [] re [] u)
    (rest : ∀ m' nx h' tk' d' xs U' rl' vs' re' tl' u', LoopJ w S L 2 m' nx d' xs U' rl' vs' re' tl' u' → Fr h₀ L h' m' → News h₀ L h' nx → wpAny (model PySem.Challenge.rw_sa0599_01.row.prog w) (callerA.deeper (lawEnv sc L fa)) (execs ((bodyOf (KK w.params) 533).drop 3) (lawEnv sc L fa)) Q E ⟨h', g, dr, tk', os⟩) :
    wpAny (model PySem.Challenge.rw_sa0599_01.row.prog w) (callerA.deeper (lawEnv sc L fa)) (execs ((bodyOf (KK w.params) 533).drop 2) (lawEnv sc L fa)) Q E ⟨hp, g, dr, tk, os⟩ := by
  have rest' := rest
  have hsc' := hsc
  k_fill
  have esc : scOf (KK w.params) 533 = ⟨.function, _, _, _, _⟩ := rfl
  rw [esc] at hsc
  subst hsc
  show wpAny _ _ (execs (_ :: _) _) _ _ _
  k_steps
  refine For_cell h₀ ?_ (hE := hE)
  k_steps
  dsimp only
  refine iter_str_S (fun i m nx => ∃ d xs U rl vs re tl u, LoopJ w S L i m nx d xs U rl vs re tl u) rfl (by decide +kernel) F N ⟨d, [], U, rl, [], re, [], u, hJ⟩ ?_ ?_
  · rintro i c uc m₁ nx h1 tk1 own hc hoff pP0 F₁ N₁
    refine byC fun nG => ?_
    obtain ⟨d₁, xs, U₁, rl₁, vs, re₁, tl, u₁, J⟩ := pP0
    obtain rfl := J.m
    refine nG ?_
    obtain ⟨k, hk, ek⟩ : ∃ k, (k = Str.ofString "D" ∧ i = 0 ∨ k = Str.ofString "C" ∧ i = 1) ∧ (⟨#[c]⟩ : Str) = k := by
      exact dc_at hc
    have hkn : k ∈ names6 := by rcases hk with ⟨h, -⟩ | ⟨h, -⟩ <;> (rw [h]; decide +kernel)
    have hi2 : i < 2 := by rcases hk with ⟨-, h⟩ | ⟨-, h⟩ <;> omega
    rw [ek]
    have O₁ := J.own
    refine byC fun nG => ?_
    obtain ⟨o1, hcw, hcw'⟩ := O₁.cw
    obtain ⟨o2, hca, hca'⟩ := O₁.ca
    obtain ⟨o3, v3, hcn, hcn'⟩ := O₁.cn
    obtain ⟨o4, v4, hcv, hcv'⟩ := O₁.cv
    refine nG ?_
    have A0 := J.st.append hoff
    have AU : ∀ p ∈ U₁, p ∈ nx ++ own := fun p hp => A0.elim fun H A => A.own _ (List.mem_append_left _ hp)
    have r1 := AU _ hcw
    have r2 := AU _ hca
    have r3 := AU _ hcn
    have n1 := na13 L
    have n2 := na23 L
    k_steps
    refine name_set (by with_reducible assumption) fun oV eV => ?_
    subst eV
    rename _ = Data.cell (some (Value.str k uc)) => hoV
    have hOv : ∀ q ∈ own, q.1 ≠ L + 1 + 1 + 1 := fun q hq => hoff q hq _ (List.mem_map.mpr ⟨_, J.st.elim fun H A => A.own _ hcn, rfl⟩)
    have A1 := A0.own_at (o' := oV) (List.mem_append_left _ hcn)
    rw [setAt_append, setAt_none hOv] at A1
    have O₂ := O₁.name hoV
    unfold Hold
    try k_fold
    refine' con_useS (dipped_st (d := d₁) (U := setAt (L + 1 + 1 + 1) oV U₁ ++ own) ok ?ht (by decide) (by decide)) ?B ?F ?X ?N ?T ?hk ?hd ?hu ?pp ?_
    case ht => have := J.t; exact om85 hi2 this
    walk_at "use con top"
    case pp => exact A1
    rintro r2 h2 tk2 nx2 F₂ N₂ pP0
    refine byC fun nG => ?_
    obtain ⟨v4, tv4, rfl, v40, v41, A2⟩ := pP0
    refine nG ?_
    iterate 2 (first | (k_unfold; (try dsimp only)) | walk1 | (dsimp only; walk1))
    rename IsRange _ _ _ _ _ _ _ _ => hR
    dsimp only
    k_dflt (refine LCg.CompSrc.range (n := v4.toNat) (by rfl) (by k_asm) (by k_asm) hR (small_one (by omega) (by omega) (by omega) (by omega)) ?hn (by rw [sizeLine_eq]; exact om86 v40 v41) ?_)
    case hn => rw [← Int.toNat_of_nonneg v40]; exact rangeSize_nat _ _
    intro g1
    dsimp only
    refine comp_loop (fun i ys n1 => ∃ ns t', IntsAre ys ns ∧ ys.length = i ∧ t' = d₁.t + 1 + i ∧ St w S (d₁.atT t') (setAt (L + 1 + 1 + 1) oV U₁ ++ own) n1) ⟨[], _, .nil, rfl, by simp, A2⟩ ?_ ?_
    · rintro i5 ys5 n5 v5 I oI C oC D m₂ h5 tk5 E' hi5 pP0 hP5 hC hx F5 N5 off ne
      refine byC fun nG => ?_
      obtain ⟨ns5, t5, hi5', hl5, ht5, A5⟩ := pP0
      obtain ⟨o5, hcw5, hcw5'⟩ := O₂.cw
      refine nG ?_
      have q1 := A5.elim fun H A => A.own _ (List.mem_append_left _ hcw5)
      have A6 := A5.append (off3_own (oI := oI) (oC := oC) (oD := LCg.lst ys5) off)
      k_steps
      unfold Hold
      try k_fold
      refine' con_useS (dipped_st (d := d₁.atT t5) (U := (setAt (L + 1 + 1 + 1) oV U₁ ++ own) ++ [(I, oI), (C, oC), (D, LCg.lst ys5)]) ok ?ht (by decide) (by decide)) ?B ?F ?X ?N ?T ?hk ?hd ?hu ?pp ?_
      case ht => have := J.t; show t5 < 1000; exact om87 hi2 v40 v41 hi5 hl5 ht5 ne this
      walk_at "use con top"
      case pp =>
        refine A6.mono fun p hp => ?_
        rcases List.mem_append.mp hp with hp | hp
        · exact .tail _ (.tail _ (.tail _ hp))
        · simp only [List.mem_cons, List.not_mem_nil, or_false] at hp
          rcases hp with rfl | rfl | rfl
          · exact .head _
          · exact .tail _ (.head _)
          · exact .tail _ (.tail _ (.head _))
      rintro r7 h7 tk7 nx7 F₇ N₇ pP0
      refine byC fun nG => ?_
      obtain ⟨v7, tv7, rfl, v70, v71, A7⟩ := pP0
      refine nG ?_
      obtain ⟨nf, A8, off8, sub8, own8⟩ := A7.off (fun q hq p hp => by
        have hp' : p ∈ n5 := A5.elim fun H A => A.own _ hp
        exact off3_own (oI := oI) (oC := oC) (oD := LCg.lst ys5) off q hq p.1 (List.mem_map.mpr ⟨p, hp', rfl⟩))
      have N8 : News h₀ L h7 ((I, oI) :: (C, oC) :: (D, LCg.lst ys5) :: nf) := fun p hp => by
        rcases List.mem_cons.mp hp with rfl | hp
        · exact N₇ _ (own8 _ (.head _))
        · rcases List.mem_cons.mp hp with rfl | hp
          · exact N₇ _ (own8 _ (.tail _ (.head _)))
          · rcases List.mem_cons.mp hp with rfl | hp
            · exact N₇ _ (own8 _ (.tail _ (.tail _ (.head _))))
            · exact N₇ _ (sub8 _ hp)
      k_steps
      exact CPost.intro (by k_asm) N8 (own_off3 off8) trivial ⟨ns5 ++ [v7], t5 + 1, ints_snoc hi5', by rw [List.length_append, hl5]; rfl, by exact om88 hl5 ht5, A8⟩
    · rintro ys5 n5 pP0
      refine byC fun nG => ?_
      obtain ⟨ns5, t5, hi5', hl5, ht5, A5⟩ := pP0
      refine nG ?_
      iterate 1 (first | (k_unfold; (try dsimp only)) | walk1 | (dsimp only; walk1))
      refine name1 (by with_reducible assumption) fun D1 e1 => ?_
      subst e1
      rename LCg.Off1 D1 _ => hD1
      have B₂ := St.push A5 (x := D1) (o := LCg.lst ys5) (off1_mem hD1)
      refine byC fun nG => ?_
      obtain ⟨H₅, C₅⟩ := A5
      obtain ⟨o5, hcw5, hcw5'⟩ := O₂.cw
      obtain ⟨o6, hca5, hca5'⟩ := O₂.ca
      refine nG ?_
      have hcn5 := mem_setAt_eq (o' := oV) hcn
      have q1 := C₅.own _ (List.mem_append_left _ hcw5)
      have q2 := C₅.own _ (List.mem_append_left _ hca5)
      have q3 := C₅.own _ (List.mem_append_left _ hcn5)
      have m1 := C₅.iw
      have m2 := C₅.dw
      have m3 := C₅.st
      have gst := C₅.gst
      have hso := C₅.so
      have hkl := C₅.klen
      rcases hk with ⟨rfl, rfl⟩ | ⟨rfl, rfl⟩
      · repeat (first | (fail_if_success (with_reducible show wpAny _ _ (execs (Stmt.For (PySem.Expr.Name _ _) (PySem.Expr.Name _ _) _ _ _ :: _) _) _ _ _)); first | (k_unfold; (try dsimp only)) | walk1 | (dsimp only; walk1))
        dsimp only
        rename News _ _ _ (setAt S.st _ _) => NF
        rename Fr _ _ _ _ => FF
        refine name_tup NF fun o9 tT l9 e1 e2 e3 => ?_
        subst e1 e2 e3
        rename Obj.IsDictOf _ o9 _ => hz
        rw [inM_swap] at FF
        have B₃ := C₅.store hkn (o := none) ⟨_, rfl⟩ (by intro y h; cases h) hz
        rename D1 < l9 ∧ _ => lA
        have hfr : ∀ p ∈ (D1, LCg.lst ys5) :: n5, p.1 < l9 := fun p hp => by
          rcases List.mem_cons.mp hp with rfl | hp
          · exact lA.1
          · exact allLt_mem lA.2 p hp
        have S4 := St.push (St.push ⟨_, B₃⟩ (x := D1) (o := LCg.lst ys5) (fun p hp => by
          have : p.1 ∈ (setAt S.st o9 n5).map (·.1) := List.mem_map.mpr ⟨p, hp, rfl⟩
          rw [setAt_addrs] at this
          refine byC fun nG => ?_
          obtain ⟨q, hq, e⟩ := List.mem_map.mp this
          refine nG ?_
          exact e ▸ off1_mem hD1 q hq)) (x := l9) (o := PySem.W.listOf #[] 0) (fun p hp => by
          rcases List.mem_cons.mp hp with rfl | hp
          · exact Nat.ne_of_lt (hfr _ (.head _))
          · have : p.1 ∈ (setAt S.st o9 n5).map (·.1) := List.mem_map.mpr ⟨p, hp, rfl⟩
            rw [setAt_addrs] at this
            refine byC fun nG => ?_
            obtain ⟨q, hq, e⟩ := List.mem_map.mp this
            refine nG ?_
            exact e ▸ Nat.ne_of_lt (hfr _ (.tail _ hq)))
        have hn5 : ∀ p ∈ setAt (L + 1 + 1 + 1) oV U₁ ++ own, p ∈ n5 := fun p hp => C₅.own p hp
        have S5 : ∀ ot : Obj, St w S ((d₁.atT t5).set (Str.ofString "D") none) (((l9, PySem.W.listOf #[] 0) :: (D1, LCg.lst ys5) :: setAt (L + 1 + 1 + 1) oV U₁) ++ own) (setAt S.st o9 ((tT, ot) :: (l9, PySem.W.listOf #[] 0) :: (D1, LCg.lst ys5) :: n5)) := fun ot => S4.mono fun p hp => by
          rcases List.mem_cons.mp hp with rfl | hp
          · exact mem_setAt_ne (.tail _ (.head _)) (Nat.ne_of_gt (hfr _ (.tail _ m3)))
          · rcases List.mem_cons.mp hp with rfl | hp
            · exact mem_setAt_ne (.tail _ (.tail _ (.head _))) (off1_mem hD1 _ m3).symm
            · exact setAt_sub (fun q hq => .tail _ (.tail _ (.tail _ hq))) p hp
        refine byC fun nG => ?_
        obtain ⟨o4', v4', hcv2, hcv2'⟩ := O₂.cv
        refine nG ?_
        refine law_inner (W := own) (i := 0) (ns := ns5) hsc' ok B FF X NF T hE (S5 _) ?w1 (own2_init O₂ rfl ⟨oV, uc, hcn5, hoV⟩ (fun q => off1_mem hD1 _ (hn5 _ (List.mem_append_left _ hcv2)) q.symm) (fun p hp => hfr _ (.tail _ (hn5 _ (List.mem_append_left _ hp)))) (hfr _ (.head _))) { J.b with } (by decide) hkn Pl.set_eq ?w2 hi5' ?w3 ?w4
        case w1 =>
          intro q hq p hp e
          rcases List.mem_cons.mp hp with rfl | hp
          · exact absurd (hfr _ (.tail _ (hn5 q (List.mem_append_right _ hq)))) (by rw [e]; exact Nat.lt_irrefl _)
          · rcases List.mem_cons.mp hp with rfl | hp
            · exact off1_mem hD1 _ (hn5 q (List.mem_append_right _ hq)) e
            · have : p.1 ∈ (setAt (L + 1 + 1 + 1) oV U₁).map (·.1) := List.mem_map.mpr ⟨p, hp, rfl⟩
              rw [setAt_addrs] at this
              refine byC fun nG => ?_
              obtain ⟨r, hr, e'⟩ := List.mem_map.mp this
              refine nG ?_
              exact hoff q hq r.1 (List.mem_map.mpr ⟨r, J.st.elim fun H A => A.own _ hr, rfl⟩) (e.trans e'.symm)
        case w2 => rw [(J.vars.v0 rfl).1]; rfl
        case w3 => exact om89 v40 v41 hl5 ht5
        case w4 =>
          intro h' tk' nx' m' d' xs' U' rl' vs' re' tl' u' o' hm' F' N' S' hW' O' b' ht' hvk' hch' hvo'
          refine byC fun nG => ?_
          obtain ⟨nf, A8, off8, sub8, own8⟩ := S'.off hW'
          refine nG ?_
          show InvEndG _ _ _ _ _ _
          exact InvEndG.intro F' N' ⟨d', xs', U', rl', vs', re', tl', u', { m := hm', st := A8, own := O', b := b', t := by have := J.t; have ht' : d'.t = t5 := ht'; exact om90 v40 v41 ht5 (by assumption) this ht', vars := vars_1 (d := d₁) (J.vars.v0 rfl).2 hvk' hch' fun k hk => (hvo' k hk).trans (Pl.set_ne hk) }⟩ off8 sub8 own8
      · have hvD := J.vars.v1 rfl
        refine byC fun nG => ?_
        obtain ⟨⟨oD, hvD, hchD⟩, hvo⟩ := hvD
        obtain ⟨v, hv, hvl⟩ := C₅.var hvD
        refine nG ?_
        repeat (first | (fail_if_success (with_reducible show wpAny _ _ (execs (Stmt.For (PySem.Expr.Name _ _) (PySem.Expr.Name _ _) _ _ _ :: _) _) _ _ _)); first | (k_unfold; (try dsimp only)) | walk1 | (dsimp only; walk1))
        dsimp only
        rename News _ _ _ (setAt S.st _ _) => NF
        rename Fr _ _ _ _ => FF
        refine name_tup NF fun o9 tT l9 e1 e2 e3 => ?_
        subst e1 e2 e3
        rename Obj.IsDictOf _ o9 _ => hz
        rw [inM_swap] at FF
        have B₃ := C₅.store hkn (o := oD) hvl (fun y hy => C₅.vin _ y (by rw [← hy]; exact hvD)) hz
        rename D1 < l9 ∧ _ => lA
        have hfr : ∀ p ∈ (D1, LCg.lst ys5) :: n5, p.1 < l9 := fun p hp => by
          rcases List.mem_cons.mp hp with rfl | hp
          · exact lA.1
          · exact allLt_mem lA.2 p hp
        have S4 := St.push (St.push ⟨_, B₃⟩ (x := D1) (o := LCg.lst ys5) (fun p hp => by
          have : p.1 ∈ (setAt S.st o9 n5).map (·.1) := List.mem_map.mpr ⟨p, hp, rfl⟩
          rw [setAt_addrs] at this
          refine byC fun nG => ?_
          obtain ⟨q, hq, e⟩ := List.mem_map.mp this
          refine nG ?_
          exact e ▸ off1_mem hD1 q hq)) (x := l9) (o := PySem.W.listOf #[] 0) (fun p hp => by
          rcases List.mem_cons.mp hp with rfl | hp
          · exact Nat.ne_of_lt (hfr _ (.head _))
          · have : p.1 ∈ (setAt S.st o9 n5).map (·.1) := List.mem_map.mpr ⟨p, hp, rfl⟩
            rw [setAt_addrs] at this
            refine byC fun nG => ?_
            obtain ⟨q, hq, e⟩ := List.mem_map.mp this
            refine nG ?_
            exact e ▸ Nat.ne_of_lt (hfr _ (.tail _ hq)))
        have hn5 : ∀ p ∈ setAt (L + 1 + 1 + 1) oV U₁ ++ own, p ∈ n5 := fun p hp => C₅.own p hp
        have S5 : ∀ ot : Obj, St w S ((d₁.atT t5).set (Str.ofString "C") oD) (((l9, PySem.W.listOf #[] 0) :: (D1, LCg.lst ys5) :: setAt (L + 1 + 1 + 1) oV U₁) ++ own) (setAt S.st o9 ((tT, ot) :: (l9, PySem.W.listOf #[] 0) :: (D1, LCg.lst ys5) :: n5)) := fun ot => S4.mono fun p hp => by
          rcases List.mem_cons.mp hp with rfl | hp
          · exact mem_setAt_ne (.tail _ (.head _)) (Nat.ne_of_gt (hfr _ (.tail _ m3)))
          · rcases List.mem_cons.mp hp with rfl | hp
            · exact mem_setAt_ne (.tail _ (.tail _ (.head _))) (off1_mem hD1 _ m3).symm
            · exact setAt_sub (fun q hq => .tail _ (.tail _ (.tail _ hq))) p hp
        refine byC fun nG => ?_
        obtain ⟨o4', v4', hcv2, hcv2'⟩ := O₂.cv
        refine nG ?_
        refine law_inner (W := own) (i := 1) (ns := ns5) hsc' ok B FF X NF T hE (S5 _) ?w1 (own2_init O₂ rfl ⟨oV, uc, hcn5, hoV⟩ (fun q => off1_mem hD1 _ (hn5 _ (List.mem_append_left _ hcv2)) q.symm) (fun p hp => hfr _ (.tail _ (hn5 _ (List.mem_append_left _ hp)))) (hfr _ (.head _))) { J.b with } (by decide) hkn Pl.set_eq ?w2 hi5' ?w3 ?w4
        case w1 =>
          intro q hq p hp e
          rcases List.mem_cons.mp hp with rfl | hp
          · exact absurd (hfr _ (.tail _ (hn5 q (List.mem_append_right _ hq)))) (by rw [e]; exact Nat.lt_irrefl _)
          · rcases List.mem_cons.mp hp with rfl | hp
            · exact off1_mem hD1 _ (hn5 q (List.mem_append_right _ hq)) e
            · have : p.1 ∈ (setAt (L + 1 + 1 + 1) oV U₁).map (·.1) := List.mem_map.mpr ⟨p, hp, rfl⟩
              rw [setAt_addrs] at this
              refine byC fun nG => ?_
              obtain ⟨r, hr, e'⟩ := List.mem_map.mp this
              refine nG ?_
              exact hoff q hq r.1 (List.mem_map.mpr ⟨r, J.st.elim fun H A => A.own _ hr, rfl⟩) (e.trans e'.symm)
        case w2 => exact hchD
        case w3 => exact om89 v40 v41 hl5 ht5
        case w4 =>
          intro h' tk' nx' m' d' xs' U' rl' vs' re' tl' u' o' hm' F' N' S' hW' O' b' ht' hvk' hch' hvo'
          refine byC fun nG => ?_
          obtain ⟨nf, A8, off8, sub8, own8⟩ := S'.off hW'
          refine nG ?_
          show InvEndG _ _ _ _ _ _
          exact InvEndG.intro F' N' ⟨d', xs', U', rl', vs', re', tl', u', { m := hm', st := A8, own := O', b := b', t := by have := J.t; have ht' : d'.t = t5 := ht'; exact om91 v40 v41 ht5 (by assumption) this ht', vars := vars_2 (d := d₁) hvD hvo hvk' hch' fun k hk => (hvo' k hk).trans (Pl.set_ne hk) }⟩ off8 sub8 own8
  · rintro m₁ nx h1 tk1 pP0 F₁ N₁
    refine byC fun nG => ?_
    obtain ⟨d₁, xs, U₁, rl₁, vs, re₁, tl, u₁, J⟩ := pP0
    refine nG ?_
    exact rest' m₁ nx h1 tk1 d₁ xs U₁ rl₁ vs re₁ tl u₁ (by rw [dc_cps] at J; exact J) F₁ N₁
end
local macro_rules | `(tactic| walk_at "compareOp NotEq ref ref") => `(tactic| ((with_reducible show wpAny _ _ (compareOp CmpOp.NotEq (Value.ref _) (Value.ref _)) _ _ _); refine hold ?_))
local macro_rules | `(tactic| walk_at "compareOp Eq ref ref") => `(tactic| ((with_reducible show wpAny _ _ (compareOp CmpOp.Eq (Value.ref _) (Value.ref _)) _ _ _); refine hold ?_))
local macro_rules | `(tactic| walk_at "subscriptTail Name Slice ref ref") => `(tactic| (refine hold ?_))
section
set_option maxRecDepth 100000
set_option maxHeartbeats 8000000
variable {fa : Addr}
variable {w : World} {S : Lay} {U : List (Addr × Obj)}
section
variable {prog : Program} {A : Around} {E : Value → Shared → Prop} {s : Shared} {h₀ : Heap} {L a b : Addr} {news n₁ n₂ : List (Addr × Obj)} {xs ys : List Value} {ka kb : Nat} {ds : List Dat} {Q : Value → Shared → Prop}
theorem ne_same (N : News h₀ L s.heap news) (ma : (a, PySem.W.listOf xs.toArray ka) ∈ news) (Da : DatAll n₁ xs ds) (sa : ∀ p ∈ n₁, p ∈ news) (mb : (b, PySem.W.listOf ys.toArray kb) ∈ news) (Db : DatAll n₂ ys ds) (sb : ∀ p ∈ n₂, p ∈ news)
    (ha : ∀ d ∈ ds, kqdOk 8 d = true) (hu : A.units + 64 < cLine) (h : Q (.bool false) s) : wpAny (model prog w) A (compareOp .NotEq (.ref a) (.ref b)) Q E s :=
  kqd_ne N ma rfl rfl Da sa mb rfl rfl Db sb ha ha hu (by simpa using h)
theorem eq_same (N : News h₀ L s.heap news) (ma : (a, PySem.W.listOf xs.toArray ka) ∈ news) (Da : DatAll n₁ xs ds) (sa : ∀ p ∈ n₁, p ∈ news) (mb : (b, PySem.W.listOf ys.toArray kb) ∈ news) (Db : DatAll n₂ ys ds) (sb : ∀ p ∈ n₂, p ∈ news)
    (ha : ∀ d ∈ ds, kqdOk 8 d = true) (hu : A.units + 64 < cLine) (h : Q (.bool true) s) : wpAny (model prog w) A (compareOp .Eq (.ref a) (.ref b)) Q E s :=
  kqd_eq N ma rfl rfl Da sa mb rfl rfl Db sb ha ha hu (by simpa using h)
end
theorem datAll_rev {news : List (Addr × Obj)} : ∀ {vs : List Value} {ds : List Dat}, DatAll news vs ds → DatAll news vs.reverse ds.reverse
  | _, _, .nil => .nil
  | _, _, .cons a r => by
    rw [List.reverse_cons, List.reverse_cons]
    exact datAll_append (datAll_rev r) (.cons a .nil)
theorem pick_of {vs : List Value} {n : Nat} (hn : vs.length = n) {l : List Nat} (h : sliceRange (sliceBounds none none (some (-1)) n).1 (sliceBounds none none (some (-1)) n).2.1 (sliceBounds none none (some (-1)) n).2.2 = l) : (slicePick vs.toArray none none (some (-1))).toList = l.filterMap (vs.toArray[·]?) := by
  have e : vs.toArray.size = n := by simpa using hn
  unfold slicePick
  rw [e, h]
theorem pick_rev {vs : List Value} (h : vs.length ≤ 6) : (slicePick vs.toArray none none (some (-1))).toList = vs.reverse := by
  match vs, h with
  | [], _ => exact (pick_of (n := 0) (l := []) rfl (by decide)).trans rfl
  | [a], _ => exact (pick_of (n := 1) (l := [0]) rfl (by decide)).trans (by simp)
  | [a, b], _ => exact (pick_of (n := 2) (l := [1, 0]) rfl (by decide)).trans (by simp)
  | [a, b, c], _ => exact (pick_of (n := 3) (l := [2, 1, 0]) rfl (by decide)).trans (by simp)
  | [a, b, c, d], _ => exact (pick_of (n := 4) (l := [3, 2, 1, 0]) rfl (by decide)).trans (by simp)
  | [a, b, c, d, e], _ => exact (pick_of (n := 5) (l := [4, 3, 2, 1, 0]) rfl (by decide)).trans (by simp)
  | [a, b, c, d, e, f], _ => exact (pick_of (n := 6) (l := [5, 4, 3, 2, 1, 0]) rfl (by decide)).trans (by simp)
  | _ :: _ :: _ :: _ :: _ :: _ :: _ :: _, h => simp at h
noncomputable def midM (S : Lay) (rl : Addr) (u : Str → Option Value) (n : Int) (t : Tok) (y : Str) : Option Value := if y = Str.ofString "many" then some (.int n t) else lawM S rl u y
structure Mid (d₀ d : Pl) (xs : List Cell) (t : Int) : Prop where
  hs : d.hs = d₀.hs
  vl : d.vl = d₀.vl
  made : d.made = d₀.made
  t : d.t ≤ t
  ch : ∃ o, d.vr (Str.ofString "C") = some o ∧ Chain d.lk o xs
  vD : d.vr (Str.ofString "D") = some none
  vT : d.vr (Str.ofString "T") = some none ∨ d.vr (Str.ofString "T") = none
  vN : d.vr (Str.ofString "N") = some none ∨ d.vr (Str.ofString "N") = none
  vo : ∀ k, k ≠ Str.ofString "C" → k ≠ Str.ofString "D" → k ≠ Str.ofString "T" → k ≠ Str.ofString "N" → d.vr k = none
theorem Mid.turned {d₀ d d' : Pl} {xs : List Cell} {t : Int} {b : Value} (M : Mid d₀ d xs t) (T : Turned d xs d' b) (hl : xs.length ≤ 6) : Mid d₀ d' xs.reverse (t + 6) where
  hs := T.hs.trans M.hs
  vl := T.vl.trans M.vl
  made := T.made.trans M.made
  t := by have := T.t2; have := M.t; exact om92 hl (by assumption) this
  ch := T.ch
  vD := (T.vo _ (by decide +kernel) (by decide +kernel) (by decide +kernel)).trans M.vD
  vT := .inl T.vt
  vN := by
    rcases T.vn with h | h
    · exact .inl h
    · rw [h]; exact M.vN
  vo := fun k h1 h2 h3 h4 => (T.vo k h1 h3 h4).trans (M.vo k h1 h2 h3 h4)
theorem law_mid {p : Program} {loose : List Str} {mean : ExcName → Option Value} {mg mb : Str → Option Value} {base h₀ hp : Heap} {L : Addr} {m : Str → Option Value} {news : List (Addr × Obj)} {g : Array GenState} {dr : Drawn} {tk : Nat} {os : OsState} {Q : Flow → Shared → Prop} {E : Value → Shared → Prop} {d : Pl} {rl : Addr} {re : Nat} {u : Str → Option Value} {sc : Scope} {xs : List Cell} {vs : List Value} {tl : List (Addr × Obj)} (hsc : sc = scOf (KK w.params) 533)
    (ok : LayOk S) (B : Below callerA base [] h₀) (F : Fr h₀ L hp m) (X : (KK w.params).In h₀) (N : News h₀ L hp news) (T : Top p loose mean mg mb h₀) (hE : PassesOwn (model PySem.Challenge.rw_sa0599_01.row.prog w) (callerA.deeper (lawEnv sc L fa)) (lawEnv sc L fa) E)
    (J : LoopJ w S L 2 m news d xs U rl vs re tl u)
    (rest : ∀ m' nx h' tk' d' n t, m' = midM S rl u n t → n = xs.length → xs ≠ [] → St w S d' U nx → Mid d d' xs 21 → Fr h₀ L h' m' → News h₀ L h' nx → wpAny (model PySem.Challenge.rw_sa0599_01.row.prog w) (callerA.deeper (lawEnv sc L fa)) (execs ((bodyOf (KK w.params) 533).drop 7) (lawEnv sc L fa)) Q E ⟨h', g, dr, tk', os⟩)
    (hret : ∀ h' tk' m' nx, Fr h₀ L h' m' → News h₀ L h' nx → (∃ ps, (530, tabObj ps) ∈ nx) → Q (.ret (.bool true)) ⟨h', g, dr, tk', os⟩) :
    wpAny (model PySem.Challenge.rw_sa0599_01.row.prog w) (callerA.deeper (lawEnv sc L fa)) (execs ((bodyOf (KK w.params) 533).drop 3) (lawEnv sc L fa)) Q E ⟨hp, g, dr, tk, os⟩ := by
  have hsc' := hsc
  k_fill
  have esc : scOf (KK w.params) 533 = ⟨.function, _, _, _, _⟩ := rfl
  rw [esc] at hsc
  subst hsc
  obtain rfl := J.m
  show wpAny _ _ (execs (_ :: _) _) _ _ _
  have O₁ := J.own
  refine byC fun nG => ?_
  obtain ⟨o1, hcw, hcw'⟩ := O₁.cw
  obtain ⟨o2, hca, hca'⟩ := O₁.ca
  obtain ⟨H₁, A₁⟩ := J.st
  refine nG ?_
  have r1 := A₁.own _ hcw
  have r2 := A₁.own _ hca
  have r3 := A₁.own _ O₁.mr
  have m1 := A₁.iw
  have m2 := A₁.dw
  have m3 := A₁.st
  have gst := A₁.gst
  have hso := A₁.so
  have hkl := A₁.klen
  have hvl := O₁.lenv
  have hxl := J.b.len
  have n1 : L + 1 ≠ S.st := ne_ρ (A₁.rU _ hcw) A₁.rst (by decide)
  have n2 : L + 1 + 1 ≠ S.st := ne_ρ (A₁.rU _ hca) A₁.rst (by decide)
  have n3 : rl ≠ S.st := ne_ρ (A₁.rU _ O₁.mr) A₁.rst (by decide)
  have hsz : vs.toArray.size ≤ 6 := by simp; exact om93 hvl hxl
  k_steps
  rename Obj.IsDictOf _ _ (stored H₁.kvs _ _) => hz
  refine byC fun nG => ?_
  obtain ⟨⟨oC, hvC, hchC⟩, ⟨oD, hvD⟩, hvo⟩ := J.vars.v2 rfl
  refine nG ?_
  have B1 := A₁.store (by decide +kernel) (o := none) ⟨_, rfl⟩ (by intro y h; cases h) hz
  have M0 : Mid d (d.set (Str.ofString "D") none) xs 9 := { hs := rfl, vl := rfl, made := rfl, t := J.t, ch := ⟨oC, (Pl.set_ne (by decide +kernel)).trans hvC, hchC⟩, vD := Pl.set_eq, vT := .inr ((Pl.set_ne (by decide +kernel)).trans (hvo _ (by decide +kernel) (by decide +kernel))), vN := .inr ((Pl.set_ne (by decide +kernel)).trans (hvo _ (by decide +kernel) (by decide +kernel))), vo := fun k h1 h2 _ _ => (Pl.set_ne h2).trans (hvo k h2 h1) }
  obtain ⟨d0, hd0⟩ : ∃ d0, d0 = d.set (Str.ofString "D") none := ⟨_, rfl⟩
  rw [← hd0] at B1 M0
  have hxl6 : xs.length ≤ 6 := by exact om94 hxl
  have hvals : ∀ c ∈ xs, (∃ x t, d.vl c = .int x t) ∨ ∃ x t, d.vl c = .str x t := fun c hc => .inl (J.b.vi c (J.b.sub c hc))
  have hok : ∀ e ∈ xs.map (datOf d), kqdOk 8 e = true := fun e he => by
    refine byC fun nG => ?_
    obtain ⟨c, hc, rfl⟩ := List.mem_map.mp he
    refine nG ?_
    exact datOf_ok (.inl (J.b.vi c (J.b.sub c hc)))
  have hU : callerA.units + 64 < cLine := Nat.le_of_ble_eq_true rfl
  refine byC fun nG => ?_
  obtain ⟨o0, hv0, hch0⟩ := M0.ch
  refine nG ?_
  unfold Hold
  try k_fold
  refine' con_useS (row_st (d := d0) (U := U) (xs := xs) ok hv0 hch0 (fun c hc => by rw [M0.hs]; exact J.b.sub c hc) (om95 hvl hxl)) ?B ?F ?X ?N ?T ?hk ?hd ?hu ?pp ?_
  walk_at "use con top"
  case pp => exact ⟨_, B1⟩
  rintro r2 h2 tk2 nx2 F₂ N₂ pP0
  refine byC fun nG => ?_
  obtain ⟨rl2, tl2, e2, rfl, htl2, hfar2, A2⟩ := pP0
  refine nG ?_
  k_steps
  unfold Hold
  have da2 := dat_row (news := tl2) xs tl2 htl2 (by rw [M0.vl]; exact hvals) fun p hp => hp
  have ed0 : xs.map (datOf d0) = xs.map (datOf d) := List.map_congr_left fun c _ => by unfold datOf; rw [M0.vl]
  rw [ed0] at da2
  refine ne_same (ds := xs.map (datOf d)) (by k_asm) (A2.elim fun H A => A.own _ (.head _)) da2 (fun p hp => A2.elim fun H A => A.own _ (.tail _ (List.mem_append_left _ hp))) (A2.elim fun H A => A.own _ (.tail _ (List.mem_append_right _ O₁.mr))) O₁.dat (fun p hp => A2.elim fun H A => A.own _ (.tail _ (List.mem_append_right _ (O₁.mt p hp)))) hok (by exact Nat.le_of_ble_eq_true rfl) ?_
  have r1 := A2.elim fun H A => A.own _ (.tail _ (List.mem_append_right _ hcw))
  have r2 := A2.elim fun H A => A.own _ (.tail _ (List.mem_append_right _ hca))
  have A2' := A2.sub (U := U) fun p hp => .tail _ (List.mem_append_right _ hp)
  k_steps
  unfold Hold
  try k_fold
  refine' con_useS (turned (d := d0) (U := U) (xs := xs) ok (by have := M0.t; exact om96 this) hv0 hch0 J.b.nd (fun c hc => by rw [M0.hs]; exact J.b.sub c hc) (fun c hc => J.b.all c (by rw [← M0.hs]; exact hc)) (om95 hvl hxl)) ?B ?F ?X ?N ?T ?hk ?hd ?hu ?pp ?_
  walk_at "use con top"
  case pp => exact A2'
  rintro r3 h3 tk3 nx3 F₃ N₃ pP0
  refine byC fun nG => ?_
  obtain ⟨d1, T1, A3⟩ := pP0
  obtain rfl := T1.b
  refine nG ?_
  have M1 := M0.turned T1 hxl6
  have r1 := A3.elim fun H A => A.own _ hcw
  have r2 := A3.elim fun H A => A.own _ hca
  k_steps
  refine byC fun nG => ?_
  obtain ⟨o1', hv1, hch1⟩ := M1.ch
  refine nG ?_
  have ed1 : (xs.reverse).map (datOf d1) = (xs.map (datOf d)).reverse := by
    rw [← List.map_reverse]
    exact List.map_congr_left fun c _ => by unfold datOf; rw [M1.vl]
  unfold Hold
  try k_fold
  refine' con_useS (row_st (d := d1) (U := U) (xs := xs.reverse) ok hv1 hch1 (fun c hc => by rw [M1.hs]; exact J.b.sub c (List.mem_reverse.mp hc)) (by rw [List.length_reverse]; exact om95 hvl hxl)) ?B ?F ?X ?N ?T ?hk ?hd ?hu ?pp ?_
  walk_at "use con top"
  case pp => exact A3
  rintro r4 h4 tk4 nx4 F₄ N₄ pP0
  refine byC fun nG => ?_
  obtain ⟨rl4, tl4, e4, rfl, htl4, hfar4, A4⟩ := pP0
  refine nG ?_
  have r5 := A4.elim fun H A => A.own _ (.tail _ (List.mem_append_right _ O₁.mr))
  k_steps
  unfold Hold
  refine' kmk_slice3_lit (zs := vs.reverse) ?F ?N ?l ?pp ?qq ?kk ?oo ?e ?_ ?ss ?tt ?zz
  case F => k_asm
  case N => k_asm
  case l => exact News.isList (by k_asm) r5
  case pp => kmk_part
  case qq => kmk_part
  case kk => kmk_part
  case oo => decide
  case e => exact pick_rev (by omega)
  case ss => with_unfolding_all rfl
  case tt => kmk_pure
  case zz => rw [sizeLine_eq]; exact om97 hsz
  intro D5 h5 F5 N5 l5
  k_steps
  unfold Hold
  have da4 := dat_row (news := tl4) xs.reverse tl4 htl4 (by rw [M1.vl]; exact fun c hc => hvals c (List.mem_reverse.mp hc)) fun p hp => hp
  rw [ed1] at da4
  refine ne_same (ds := (xs.map (datOf d)).reverse) (by k_asm) (.tail _ (A4.elim fun H A => A.own _ (.head _))) da4 (fun p hp => .tail _ (A4.elim fun H A => A.own _ (.tail _ (List.mem_append_left _ hp)))) (.head _) (datAll_rev O₁.dat) (fun p hp => .tail _ (A4.elim fun H A => A.own _ (.tail _ (List.mem_append_right _ (O₁.mt p hp))))) (fun e he => hok e (List.mem_reverse.mp he)) (by exact Nat.le_of_ble_eq_true rfl) ?_
  have A4' := A4.sub (U := U) fun p hp => .tail _ (List.mem_append_right _ hp)
  have r1 := A4'.elim fun H A => List.mem_cons_of_mem (D5, PySem.W.listOf vs.reverse.toArray 0) (A.own _ hcw)
  have r2 := A4'.elim fun H A => List.mem_cons_of_mem (D5, PySem.W.listOf vs.reverse.toArray 0) (A.own _ hca)
  k_steps
  unfold Hold
  have A5 := A4'.mono (news' := (D5, PySem.W.listOf vs.reverse.toArray 0) :: nx4) fun p hp => .tail _ hp
  try k_fold
  refine' con_useS (turned (d := d1) (U := U) (xs := xs.reverse) ok (by have := M1.t; exact om98 this) hv1 hch1 (List.pairwise_reverse.mpr (J.b.nd.imp fun h => h.symm)) (fun c hc => by rw [M1.hs]; exact J.b.sub c (List.mem_reverse.mp hc)) (fun c hc => List.mem_reverse.mpr (J.b.all c (by rw [← M1.hs]; exact hc))) (by rw [List.length_reverse]; exact om95 hvl hxl)) ?B ?F ?X ?N ?T ?hk ?hd ?hu ?pp ?_
  walk_at "use con top"
  case pp => exact A5
  rintro r6 h6 tk6 nx6 F₆ N₆ pP0
  refine byC fun nG => ?_
  obtain ⟨d2, T2, A6⟩ := pP0
  obtain rfl := T2.b
  refine nG ?_
  have M2 := M1.turned T2 (by rw [List.length_reverse]; exact om99 hxl6)
  rw [List.reverse_reverse] at M2
  have r1 := A6.elim fun H A => A.own _ hcw
  have r2 := A6.elim fun H A => A.own _ hca
  k_steps
  refine byC fun nG => ?_
  obtain ⟨o2', hv2, hch2⟩ := M2.ch
  refine nG ?_
  have ed2 : xs.map (datOf d2) = xs.map (datOf d) := List.map_congr_left fun c _ => by unfold datOf; rw [M2.vl]
  unfold Hold
  try k_fold
  refine' con_useS (row_st (d := d2) (U := U) (xs := xs) ok hv2 hch2 (fun c hc => by rw [M2.hs]; exact J.b.sub c hc) (om95 hvl hxl)) ?B ?F ?X ?N ?T ?hk ?hd ?hu ?pp ?_
  walk_at "use con top"
  case pp => exact A6
  rintro r7 h7 tk7 nx7 F₇ N₇ pP0
  refine byC fun nG => ?_
  obtain ⟨rl7, tl7, e7, rfl, htl7, hfar7, A7⟩ := pP0
  refine nG ?_
  have A7' := A7.sub (U := U) fun p hp => .tail _ (List.mem_append_right _ hp)
  have r1 := A7'.elim fun H A => A.own _ hcw
  have r2 := A7'.elim fun H A => A.own _ hca
  have r5 := A7'.elim fun H A => A.own _ O₁.mr
  k_steps
  unfold Hold
  have da7 := dat_row (news := tl7) xs tl7 htl7 (by rw [M2.vl]; exact hvals) fun p hp => hp
  rw [ed2] at da7
  refine ne_same (ds := xs.map (datOf d)) (by k_asm) (A7.elim fun H A => A.own _ (.head _)) da7 (fun p hp => A7.elim fun H A => A.own _ (.tail _ (List.mem_append_left _ hp))) r5 O₁.dat (fun p hp => A7'.elim fun H A => A.own _ (O₁.mt p hp)) hok (by exact Nat.le_of_ble_eq_true rfl) ?_
  repeat' (first | (fail_if_success (with_reducible show wpAny _ _ (execs (Stmt.Assign [PySem.Expr.Subscript _ _ _] _ _ :: _) _) _ _ _)); first | (k_unfold; (try dsimp only)) | walk1 | (dsimp only; walk1))
  rotate_left
  · exfalso
    exact om100 (by assumption) (by assumption)
  · rename ((vs.toArray.size : Nat) : Int) ≠ 0 => hne
    dsimp only
    refine rest _ nx7 _ _ d2 _ _ rfl ?_ (fun h => ?_) A7' M2 (by k_asm) (by k_asm)
    · simp [hvl]
    · apply hne
      have : vs.length = 0 := by rw [hvl, h]; rfl
      simp [this]
  · rename ((vs.toArray.size : Nat) : Int) = 0 => hz0
    have hvs : vs.length = 0 := by simpa using hz0
    have hxs : xs = [] := List.length_eq_zero_iff.mp (by rw [← hvl]; exact hvs)
    refine name1 (by with_reducible assumption) fun e e1 => ?_
    subst e1
    rename (∀ p ∈ nx7, p.1 < e) => le
    have A8 := A7'.push (x := e) (o := PySem.W.listOf #[] 0) fun p hp => Nat.ne_of_lt (le p hp)
    unfold Hold
    try k_fold
    refine' con_useS (collect_st (d := d2) (U := (e, PySem.W.listOf #[] 0) :: U) (em := 0) ok (List.mem_cons_self ..)) ?B ?F ?X ?N ?T ?hk ?hd ?hu ?pp ?_
    walk_at "use con top"
    case pp => exact A8
    rintro r9 h9 tk9 nx9 F₉ N₉ pP0
    refine byC fun nG => ?_
    obtain ⟨g9, gs, ns, ge, rfl, hgs, hperm, -, A9⟩ := pP0
    refine nG ?_
    have hh : d2.hs = [] := by
      rw [M2.hs]
      match hd2 : d.hs with
      | [] => rfl
      | c :: r => exact absurd (J.b.all c (by rw [hd2]; exact .head _)) (by rw [hxs]; simp)
    have hdead : dead d2 = [] := by unfold dead; rw [hh]; rfl
    rw [hdead] at hperm
    obtain rfl := ints_nil hgs hperm
    k_steps
    unfold Hold
    refine eq_same (n₁ := []) (n₂ := []) (ds := []) (xs := []) (ys := []) (by k_asm) (.tail _ (A9.elim fun H A => A.own _ (.head _))) DatAll.nil (fun _ h => nomatch h) (.head _) DatAll.nil (fun _ h => nomatch h) (fun _ h => nomatch h) (by exact Nat.le_of_ble_eq_true rfl) ?_
    k_steps
    have t9 := A9.elim fun H A => A.own _ (.tail _ (.tail _ J.own.tab))
    exact hret _ _ _ _ (by k_asm) (by k_asm) ⟨_, by k_mem⟩
end
section
set_option maxRecDepth 100000
set_option maxHeartbeats 8000000
variable {fa : Addr}
variable {w : World} {S : Lay} {U : List (Addr × Obj)}
noncomputable def vint (d : Pl) (c : Cell) : Int := match d.vl c with | .int x _ => x | _ => 0
theorem vint_eq {d : Pl} {c : Cell} (h : ∃ x t, d.vl c = .int x t) : ∃ t, d.vl c = .int (vint d c) t := by
  obtain ⟨x, t, e⟩ := h
  exact ⟨t, by unfold vint; rw [e]⟩
theorem Build.hnd {d : Pl} {n : Nat} {xs : List Cell} (b : Build d n xs) : d.hs.Nodup := by
  have h : (d.hs.map (·.num)).Nodup := by
    rw [b.asc]
    refine List.pairwise_map.mpr ?_
    exact List.Pairwise.imp (fun h q => h (om101 q)) (List.nodup_range (n := d.hs.length))
  exact (List.pairwise_map.mp h).imp fun h q => h (congrArg Cell.num q)
theorem Build.hlx {d : Pl} {n : Nat} {xs : List Cell} (b : Build d n xs) : d.hs.length = xs.length :=
  Nat.le_antisymm (nodup_len _ _ b.hnd b.all) (nodup_len _ _ b.nd b.sub)
theorem pick_tail (vs : List Value) : kms_pick vs.toArray.toList (some 1) none = vs.drop 1 := by
  unfold kms_pick kms_lo kms_hi
  cases vs with
  | nil => simp
  | cons a r => simp
theorem datAll_drop {news : List (Addr × Obj)} : ∀ {vs : List Value} {ds : List Dat}, DatAll news vs ds → DatAll news (vs.drop 1) (ds.drop 1)
  | _, _, .nil => .nil
  | _, _, .cons _ r => r
theorem live_split {d : Pl} {A : List Cell} {c' : Cell} (h : d.hs = A ++ [c']) (h1 : ∀ c ∈ A, Rch d c) (h2 : ¬ Rch d c') : live d = A ∧ dead d = [c'] := by
  unfold live dead
  rw [h, List.filter_append, List.filter_append]
  constructor
  · rw [List.filter_eq_self.mpr fun c hc => @decide_eq_true _ (Classical.propDecidable _) (h1 c hc), List.filter_eq_nil_iff.mpr fun c hc => by rw [List.mem_singleton.mp hc, @decide_eq_false _ (Classical.propDecidable _) h2]; simp]
    simp
  · rw [List.filter_eq_nil_iff.mpr fun c hc => by rw [@decide_eq_false _ (Classical.propDecidable _) fun q => q (h1 c hc)]; simp, List.filter_eq_self.mpr fun c hc => by rw [List.mem_singleton.mp hc]; exact @decide_eq_true _ (Classical.propDecidable _) h2]
    simp
theorem ints_one {gs : List Value} {x : Int} : IntsAre gs [x] → ∃ t, gs = [.int x t] := by
  intro h
  cases h with
  | cons n t r => cases r; exact ⟨t, rfl⟩
/-- after the copy went and the links were ranged -/
structure Late (d₀ d : Pl) (xs : List Cell) (vi : Cell → Int) (t : Int) : Prop where
  hs : d.hs = d₀.hs
  vl : ∀ c ∈ d₀.hs, d.vl c = d₀.vl c
  made : d.made = d₀.made + 1
  t : d.t ≤ t
  ch : ∃ o, d.vr (Str.ofString "C") = some o ∧ Chain d.lk o (xs.foldl (ins vi) [])
  vD : d.vr (Str.ofString "D") = some none
  vT : d.vr (Str.ofString "T") = some none
  vS : d.vr (Str.ofString "S") = some none
  vH : d.vr (Str.ofString "H") = some none
  vN : d.vr (Str.ofString "N") = some none ∨ d.vr (Str.ofString "N") = none
theorem law_copy {p : Program} {loose : List Str} {mean : ExcName → Option Value} {mg mb : Str → Option Value} {base h₀ hp : Heap} {L : Addr} {m : Str → Option Value} {news : List (Addr × Obj)} {g : Array GenState} {dr : Drawn} {tk : Nat} {os : OsState} {Q : Flow → Shared → Prop} {E : Value → Shared → Prop} {d₀ d : Pl} {rl : Addr} {re : Nat} {u : Str → Option Value} {sc : Scope} {c0 : Cell} {r : List Cell} {vs : List Value} {tl : List (Addr × Obj)} {n : Int} {nt : Tok} (hsc : sc = scOf (KK w.params) 533)
    (ok : LayOk S) (B : Below callerA base [] h₀) (F : Fr h₀ L hp (midM S rl u n nt)) (X : (KK w.params).In h₀) (N : News h₀ L hp news) (T : Top p loose mean mg mb h₀) (hE : PassesOwn (model PySem.Challenge.rw_sa0599_01.row.prog w) (callerA.deeper (lawEnv sc L fa)) (lawEnv sc L fa) E)
    (hSt : St w S d U news) (O₁ : Own S L d₀ (c0 :: r) U rl vs re tl) (b : Build d₀ 6 (c0 :: r)) (M : Mid d₀ d (c0 :: r) 21) (hn : n = (c0 :: r).length)
    (rest : ∀ nx h' tk' d', St w S d' U nx → Late d₀ d' (c0 :: r) (vint d₀) 30 → Fr h₀ L h' (midM S rl u n nt) → News h₀ L h' nx → wpAny (model PySem.Challenge.rw_sa0599_01.row.prog w) (callerA.deeper (lawEnv sc L fa)) (execs ((bodyOf (KK w.params) 533).drop 12) (lawEnv sc L fa)) Q E ⟨h', g, dr, tk', os⟩) :
    wpAny (model PySem.Challenge.rw_sa0599_01.row.prog w) (callerA.deeper (lawEnv sc L fa)) (execs ((bodyOf (KK w.params) 533).drop 7) (lawEnv sc L fa)) Q E ⟨hp, g, dr, tk, os⟩ := by
  have hsc' := hsc
  k_fill
  have esc : scOf (KK w.params) 533 = ⟨.function, _, _, _, _⟩ := rfl
  rw [esc] at hsc
  subst hsc
  show wpAny _ _ (execs (_ :: _) _) _ _ _
  refine byC fun nG => ?_
  obtain ⟨o1, hcw, hcw'⟩ := O₁.cw
  obtain ⟨o2, hca, hca'⟩ := O₁.ca
  obtain ⟨H₁, A₁⟩ := hSt
  obtain ⟨oC, hvC, hchC⟩ := M.ch
  obtain ⟨rfl, hchr⟩ := hchC
  obtain ⟨v, hv, hvl⟩ := A₁.var hvC
  obtain rfl := hvl
  refine nG ?_
  have hc0 : c0 ∈ d.hs := A₁.vin _ _ hvC
  have hnum : ∀ c ∈ d.hs, c.num ≤ d.made := fun c hc => by rw [M.made]; exact num_le b c (by rw [← M.hs]; exact hc)
  have hlen6 : d.hs.length ≤ 6 := by rw [M.hs]; exact b.hlen
  have r1 := A₁.own _ hcw
  have r2 := A₁.own _ hca
  have m1 := A₁.iw
  have m2 := A₁.dw
  have m3 := A₁.st
  have gst := A₁.gst
  have hso := A₁.so
  have hkl := A₁.klen
  k_steps
  unfold Hold
  try k_fold
  refine' con_useS (made_copy_st (d := d) (U := U) ok hc0 hnum (om102 hlen6)) ?B ?F ?X ?N ?T ?hk ?hd ?hu ?pp ?_
  walk_at "use con top"
  case pp => exact ⟨_, A₁⟩
  rintro r3 h3 tk3 nx3 F₃ N₃ pP0
  refine byC fun nG => ?_
  obtain ⟨c', rfl, hcn, hoff, H₃, A₃⟩ := pP0
  refine nG ?_
  have r1 := A₃.own _ hcw
  have r2 := A₃.own _ hca
  have m1 := A₃.iw
  have m2 := A₃.dw
  have m3 := A₃.st
  have gst := A₃.gst
  have hso := A₃.so
  have hkl := A₃.klen
  have n1 : L + 1 ≠ S.st := ne_ρ (A₃.rU _ hcw) A₃.rst (by decide)
  have n2 : L + 1 + 1 ≠ S.st := ne_ρ (A₃.rU _ hca) A₃.rst (by decide)
  have n3 := A₃.far.aw_st
  have n4 := A₃.far.dw_st
  k_steps
  rename Obj.IsDictOf _ _ (stored H₃.kvs _ _) => hz
  have hcin : c' ∈ d.hs ++ [c'] := List.mem_append_right _ (List.mem_singleton.mpr rfl)
  have B4 := A₃.store (by decide +kernel) (o := some c') rfl (fun y hy => by injection hy with hy; subst hy; exact hcin) hz
  have hv4 : valueAt (stored H₃.kvs (Str.ofString "D") (.ref c'.a)) (Str.ofString "D") = some (.ref c'.a) := by rw [valueAt_stored, if_pos rfl]
  have m3 := B4.st
  have r1 := B4.own _ hcw
  have r2 := B4.own _ hca
  k_steps
  obtain ⟨d4, hd4⟩ : ∃ d4, d4 = (d.num.grow c' (d.vl c0) (d.lk c0)).set (Str.ofString "D") (some c') := ⟨_, rfl⟩
  rw [← hd4] at B4
  have hs4 : d4.hs = d.hs ++ [c'] := by rw [hd4]; rfl
  unfold Hold
  try k_fold
  refine' con_useS (fref_st (d := d4) (U := U) (c := c') ok (by rw [hs4]; exact hcin)) ?B ?F ?X ?N ?T ?hk ?hd ?hu ?pp ?_
  walk_at "use con top"
  case pp => exact ⟨_, B4⟩
  rintro r5 h5 tk5 nx5 F₅ N₅ pP0
  refine byC fun nG => ?_
  obtain ⟨q, qd, t1, t2, t3, t4, t5, rfl, A5⟩ := pP0
  refine nG ?_
  k_steps
  unfold Hold
  try k_fold
  refine' con_useS (ref_set_st (d := d4) (U := U) (c := c') (q := q) (qd := qd) (t1 := t1) (t2 := t2) (t3 := t3) (t4 := t4) (t5 := t5) ok (by rw [hs4]; exact hcin)) ?B ?F ?X ?N ?T ?hk ?hd ?hu ?pp ?_
  walk_at "use con top"
  case pp => exact A5
  rintro r6 h6 tk6 nx6 F₆ N₆ pP0
  refine byC fun nG => ?_
  obtain ⟨rfl, A6⟩ := pP0
  refine nG ?_
  have r1 := A6.elim fun H A => A.own _ hcw
  have r2 := A6.elim fun H A => A.own _ hca
  k_steps
  obtain ⟨d5, hd5⟩ : ∃ d5, d5 = d4.put c' (Value.str (Str.ofString "own") tk5) := ⟨_, rfl⟩
  rw [← hd5] at A6
  have hs5 : d5.hs = d.hs ++ [c'] := by rw [hd5]; exact hs4
  have lk5 : d5.lk = upd d.lk c' (d.lk c0) := by rw [hd5, hd4]; rfl
  have made5 : d5.made = d.made + 1 := by rw [hd5, hd4]; rfl
  have t5' : d5.t = d.t := by rw [hd5, hd4]; rfl
  have vlc' : d5.vl c' = .str (Str.ofString "own") tk5 := by rw [hd5]; exact if_pos rfl
  have vlo : ∀ c ∈ d.hs, d5.vl c = d.vl c := fun c hc => by
    rw [hd5, hd4]
    show (if c.a = c'.a then _ else if c.a = c'.a then _ else d.vl c) = d.vl c
    rw [if_neg (hoff c hc), if_neg (hoff c hc)]
  have hrs : ∀ c ∈ c0 :: r, c ∈ d.hs := fun c hc => by rw [M.hs]; exact b.sub c hc
  have vr5 : ∀ k, d5.vr k = if k = Str.ofString "D" then some (some c') else d.vr k := fun k => by rw [hd5, hd4]; rfl
  have chD : Chain d5.lk (some c') (c' :: r) := ⟨rfl, by
    rw [lk5]
    show Chain (upd d.lk c' (d.lk c0)) (if c'.a = c'.a then d.lk c0 else d.lk c') r
    rw [if_pos rfl]
    exact hchr.congr fun c hc => if_neg (hoff c (hrs c (.tail _ hc)))⟩
  have chC : Chain d5.lk (some c0) (c0 :: r) := ⟨rfl, by
    rw [lk5]
    show Chain (upd d.lk c' (d.lk c0)) (if c0.a = c'.a then d.lk c0 else d.lk c0) r
    rw [if_neg (hoff c0 hc0)]
    exact hchr.congr fun c hc => if_neg (hoff c (hrs c (.tail _ hc)))⟩
  have vals5 : ∀ c ∈ c' :: r, (∃ x t, d5.vl c = .int x t) ∨ ∃ x t, d5.vl c = .str x t := fun c hc => by
    rcases List.mem_cons.mp hc with rfl | hc
    · exact .inr ⟨_, _, vlc'⟩
    · rw [vlo c (hrs c (.tail _ hc)), M.vl]; exact .inl (b.vi c (b.sub c (.tail _ hc)))
  have hlr : (c0 :: r).length ≤ 6 := b.len
  have hvl' := O₁.lenv
  have hvsz : vs.toArray.size ≤ 6 := by simp at hvl' hlr ⊢; exact om103 hvl' hlr
  unfold Hold
  try k_fold
  refine' con_useS (row_st (d := d5) (U := U) (xs := c' :: r) ok (by rw [vr5, if_pos rfl]) chD (fun c hc => by
    rw [hs5]
    rcases List.mem_cons.mp hc with rfl | hc
    · exact hcin
    · exact List.mem_append_left _ (hrs c (.tail _ hc))) (by simp at hlr ⊢; exact om104 hlr)) ?B ?F ?X ?N ?T ?hk ?hd ?hu ?pp ?_
  walk_at "use con top"
  case pp => exact A6
  rintro r7 h7 tk7 nx7 F₇ N₇ pP0
  refine byC fun nG => ?_
  obtain ⟨rl7, tl7, e7, rfl, htl7, hfar7, A7⟩ := pP0
  refine nG ?_
  have A7' := A7.sub (U := U) fun p hp => .tail _ (List.mem_append_right _ hp)
  have r1 := A7'.elim fun H A => A.own _ hcw
  have r2 := A7'.elim fun H A => A.own _ hca
  have r5 := A7'.elim fun H A => A.own _ O₁.mr
  k_steps
  unfold Hold
  refine' kms_slice_lit (zs := vs.drop 1) ?F ?N ?l ?pp ?qq ?e ?_ ?ss ?tt ?zz
  case F => k_asm
  case N => k_asm
  case pp => kmk_part
  case qq => kmk_part
  case l => exact News.isList (by k_asm) (.tail _ (.tail _ r5))
  case e => exact pick_tail vs
  case ss => with_unfolding_all rfl
  case tt => kmk_pure
  case zz => rw [sizeLine_eq]; exact om97 hvsz
  intro D8 h8 F8 N8 l8
  k_steps
  refine name3 N8 fun _ l9 T9 _ e2 e3 => ?_
  subst e2 e3
  unfold Hold
  refine kmk_add_lit (by k_asm) (by k_asm) (News.isList (by k_asm) (.tail _ (.head _))) (News.isList (by k_asm) (.head _)) (zs := .ref T9 :: vs.drop 1) (by simp) ?_ (by rw [sizeLine_eq]; simp at hvl' hlr ⊢; exact om105 hvl' hlr)
  intro D10 h10 F10 N10 l10
  k_steps
  have hmade : d.made = n := by rw [M.made, b.made, b.hlx, hn]
  have ec' : datOf d5 c' = .tuple [.int (n + 1), .str (Str.ofString "own")] := by
    unfold datOf
    rw [vlc', hcn, hmade]; rfl
  have er : r.map (datOf d5) = r.map (datOf d₀) := List.map_congr_left fun c hc => by unfold datOf; rw [vlo c (hrs c (.tail _ hc)), M.vl]
  have hokr : ∀ e ∈ (c0 :: r).map (datOf d₀), kqdOk 8 e = true := fun e he => by
    refine byC fun nG => ?_
    obtain ⟨c, hc, rfl⟩ := List.mem_map.mp he
    refine nG ?_
    exact datOf_ok (.inl (b.vi c (b.sub c hc)))
  have da7 := dat_row (news := tl7) (c' :: r) tl7 htl7 vals5 fun p hp => hp
  have db7 : ∀ tup : Obj, (T9, tup) = (T9, { cls := Value.type "tuple", data := Data.seq #[Value.int (n + 1) (tk7 + 1), Value.str (Str.ofString "own") (tk7 + 1 + 1)] }) → DatAll ((T9, tup) :: tl) (.ref T9 :: vs.drop 1) ((c' :: r).map (datOf d5)) := fun tup et => by
    rw [List.map_cons, ec', er]
    refine DatAll.cons (DatIn.tuple (vs := [.int (n + 1) (tk7 + 1), .str (Str.ofString "own") (tk7 + 1 + 1)]) (n := 0) ?_ (DatAll.cons (DatIn.int _ _) (DatAll.cons (DatIn.str _ _) DatAll.nil))) ((datAll_drop O₁.dat).mono fun p hp => .tail _ hp)
    rw [et]; exact .head _
  unfold Hold
  refine ne_same (ds := (c' :: r).map (datOf d5)) (by k_asm) (.tail _ (.tail _ (.tail _ (.tail _ (A7.elim fun H A => A.own _ (.head _)))))) da7 (fun p hp => .tail _ (.tail _ (.tail _ (.tail _ (A7.elim fun H A => A.own _ (.tail _ (List.mem_append_left _ hp))))))) (.head _) (db7 _ rfl) ?sb ?okk (by exact Nat.le_of_ble_eq_true rfl) ?_
  case sb =>
    intro p hp
    rcases List.mem_cons.mp hp with rfl | hp
    · exact .tail _ (.tail _ (.tail _ (.head _)))
    · exact .tail _ (.tail _ (.tail _ (.tail _ (A7'.elim fun H A => A.own _ (O₁.mt p hp)))))
  case okk =>
    intro e he
    rcases List.mem_cons.mp he with rfl | he
    · exact datOf_ok (.inr ⟨_, vlc'⟩)
    · rw [er] at he; exact hokr e (.tail _ he)
  have A11 := A7'.mono (news' := (D10, PySem.W.listOf (List.toArray (Value.ref T9 :: List.drop 1 vs)) 0) :: (D8, PySem.W.listOf (List.drop 1 vs).toArray 0) :: (l9, PySem.W.listOf #[Value.ref T9] 0) :: (T9, { cls := Value.type "tuple", data := Data.seq #[Value.int (n + 1) (tk7 + 1), Value.str (Str.ofString "own") (tk7 + 1 + 1)] }) :: nx7) fun p hp => .tail _ (.tail _ (.tail _ (.tail _ hp)))
  have r1 := A11.elim fun H A => A.own _ hcw
  have r2 := A11.elim fun H A => A.own _ hca
  k_steps
  unfold Hold
  try k_fold
  refine' con_useS (row_st (d := d5) (U := U) (xs := c0 :: r) ok (by rw [vr5, if_neg (by decide +kernel)]; exact hvC) chC (fun c hc => by rw [hs5]; exact List.mem_append_left _ (hrs c hc)) (om106 hlr hvl')) ?B ?F ?X ?N ?T ?hk ?hd ?hu ?pp ?_
  walk_at "use con top"
  case pp => exact A11
  rintro r12 h12 tk12 nx12 F12 N12 pP0
  refine byC fun nG => ?_
  obtain ⟨rl12, tl12, e12, rfl, htl12, hfar12, A12⟩ := pP0
  refine nG ?_
  have A12' := A12.sub (U := U) fun p hp => .tail _ (List.mem_append_right _ hp)
  have r5 := A12'.elim fun H A => A.own _ O₁.mr
  k_steps
  unfold Hold
  have er0 : (c0 :: r).map (datOf d5) = (c0 :: r).map (datOf d₀) := List.map_congr_left fun c hc => by unfold datOf; rw [vlo c (hrs c hc), M.vl]
  have da12 := dat_row (news := tl12) (c0 :: r) tl12 htl12 (fun c hc => by rw [vlo c (hrs c hc), M.vl]; exact .inl (b.vi c (b.sub c hc))) fun p hp => hp
  rw [er0] at da12
  refine ne_same (ds := (c0 :: r).map (datOf d₀)) (by k_asm) (A12.elim fun H A => A.own _ (.head _)) da12 (fun p hp => A12.elim fun H A => A.own _ (.tail _ (List.mem_append_left _ hp))) r5 O₁.dat (fun p hp => A12'.elim fun H A => A.own _ (O₁.mt p hp)) hokr (by exact Nat.le_of_ble_eq_true rfl) ?_
  refine byC fun nG => ?_
  obtain ⟨H12, C12⟩ := A12'
  refine nG ?_
  have r1 := C12.own _ hcw
  have r2 := C12.own _ hca
  have m1 := C12.iw
  have m2 := C12.dw
  have m3 := C12.st
  have gst := C12.gst
  have hso := C12.so
  have hkl := C12.klen
  have n1 : L + 1 ≠ S.st := ne_ρ (C12.rU _ hcw) C12.rst (by decide)
  have n2 : L + 1 + 1 ≠ S.st := ne_ρ (C12.rU _ hca) C12.rst (by decide)
  k_steps
  rename Obj.IsDictOf _ _ (stored H12.kvs _ _) => hz13
  have B13 := C12.store (by decide +kernel) (o := none) ⟨_, rfl⟩ (by intro y h; cases h) hz13
  obtain ⟨d6, hd6⟩ : ∃ d6, d6 = d5.set (Str.ofString "D") none := ⟨_, rfl⟩
  rw [← hd6] at B13
  have vr6 : ∀ k, d6.vr k = if k = Str.ofString "D" then some none else d.vr k := fun k => by
    rw [hd6]
    show (if k = Str.ofString "D" then some none else d5.vr k) = _
    by_cases h : k = Str.ofString "D"
    · rw [if_pos h, if_pos h]
    · rw [if_neg h, if_neg h, vr5, if_neg h]
  have hs6 : d6.hs = d.hs ++ [c'] := by rw [hd6]; exact hs5
  have lk6 : d6.lk = d5.lk := by rw [hd6]; rfl
  have vl6 : d6.vl = d5.vl := by rw [hd6]; rfl
  refine name1 (by with_reducible assumption) fun e13 q13 => ?_
  subst q13
  rename (∀ p ∈ setAt S.st _ nx12, p.1 < e13) => le13
  have A13 := St.push ⟨_, B13⟩ (x := e13) (o := PySem.W.listOf #[] 0) fun p hp => Nat.ne_of_lt (le13 p hp)
  have hall : ∀ c ∈ d.hs, Rch d6 c := fun c hc => Chain.rch (d := d6) (xs := c0 :: r) (o := some c0) (by rw [lk6]; exact chC) (fun x hx => Rch.root (k := Str.ofString "C") (by rw [vr6, if_neg (by decide +kernel), hvC, hx])) c (b.all c (by rw [← M.hs]; exact hc))
  have hnot : ¬ Rch d6 c' := fun h => by
    have := h (· ∈ d.hs) (fun k x hk => by
      rw [vr6] at hk
      by_cases hD : k = Str.ofString "D"
      · rw [if_pos hD] at hk; cases hk
      · rw [if_neg hD] at hk; exact A₁.vin k x hk) (fun x hx y hy => by
      rw [lk6, lk5] at hy
      replace hy : (if x.a = c'.a then d.lk c0 else d.lk x) = some y := hy
      rw [if_neg (hoff x hx)] at hy
      exact A₁.lkin x hx y hy)
    exact hoff c' this rfl
  refine byC fun nG => ?_
  obtain ⟨hlive, hdead⟩ := live_split hs6 hall hnot
  refine nG ?_
  unfold Hold
  try k_fold
  refine' con_useS (collect_st (d := d6) (U := (e13, PySem.W.listOf #[] 0) :: U) (em := 0) ok (List.mem_cons_self ..)) ?B ?F ?X ?N ?T ?hk ?hd ?hu ?pp ?_
  walk_at "use con top"
  case pp => exact A13
  rintro r14 h14 tk14 nx14 F14 N14 pP0
  refine byC fun nG => ?_
  obtain ⟨g14, gs, ns, ge, rfl, hgs, hperm, -, A14⟩ := pP0
  refine nG ?_
  rw [hdead] at hperm
  rw [hlive] at A14
  obtain rfl : ns = [c'.num] := hperm.eq_singleton
  refine byC fun nG => ?_
  obtain ⟨tg14, rfl⟩ := ints_one hgs
  refine nG ?_
  have mg14 := A14.elim fun H A => A.own _ (.head _)
  have A14' := A14.sub (U := U) fun p hp => .tail _ (.tail _ hp)
  k_steps
  unfold Hold
  have hcn' : c'.num = n + 1 := by rw [hcn, hmade]
  refine ne_same (n₁ := []) (n₂ := []) (ds := [.int (n + 1)]) (xs := [.int c'.num tg14]) (by k_asm) (.tail _ mg14) (by rw [hcn']; exact DatAll.cons (DatIn.int _ _) DatAll.nil) (fun _ h => nomatch h) (.head _) (DatAll.cons (DatIn.int _ _) DatAll.nil) (fun _ h => nomatch h) (fun e he => by rw [List.mem_singleton.mp he]; rfl) (by exact Nat.le_of_ble_eq_true rfl) ?_
  have r1 := A14'.elim fun H A => A.own _ hcw
  have r2 := A14'.elim fun H A => A.own _ hca
  k_steps
  obtain ⟨d7, hd7⟩ : ∃ d7, d7 = d6.only d.hs := ⟨_, rfl⟩
  rw [← hd7] at A14'
  have hs7 : d7.hs = d.hs := by rw [hd7]; rfl
  have lk7 : d7.lk = d5.lk := by rw [hd7]; exact lk6
  have vl7 : d7.vl = d5.vl := by rw [hd7]; exact vl6
  have vr7 : ∀ k, d7.vr k = if k = Str.ofString "D" then some none else d.vr k := fun k => by rw [hd7]; exact vr6 k
  have t7' : d7.t = d.t := by rw [hd7, hd6]; exact t5'
  have made7 : d7.made = d.made + 1 := by rw [hd7, hd6]; exact made5
  have hMt := M.t
  have htz : 0 ≤ d.t := A₁.t0
  have hvi7 : ∀ c ∈ d7.hs, ∃ t, d7.vl c = .int (vint d₀ c) t := fun c hc => by
    rw [hs7] at hc
    rw [vl7, vlo c hc, M.vl]
    exact vint_eq (b.vi c (by rw [← M.hs]; exact hc))
  unfold Hold
  try k_fold
  refine' con_useS (ranged (d := d7) (U := U) (xs := c0 :: r) (o₀ := some c0) (vi := vint d₀) ok (om107 t7' hMt htz) (by rw [vr7, if_neg (by decide +kernel)]; exact hvC) (by rw [lk7]; exact chC) b.nd (fun c hc => by rw [hs7]; exact hrs c hc) (fun c hc => b.all c (by rw [← M.hs, ← hs7]; exact hc)) (om108 hn made5 hlr hvl' hmade made7) hvi7) ?B ?F ?X ?N ?T ?hk ?hd ?hu ?pp ?_
  walk_at "use con top"
  case pp => exact A14'.mono fun p hp => .tail _ hp
  rintro r16 h16 tk16 nx16 F16 N16 pP0
  refine byC fun nG => ?_
  obtain ⟨d8, R, A16⟩ := pP0
  obtain rfl := R.b
  have r1 := A16.elim fun H A => A.own _ hcw
  have r2 := A16.elim fun H A => A.own _ hca
  obtain ⟨oS, hvS, hchS⟩ := R.ch
  refine nG ?_
  have hfl := (fold_perm (vi := vint d₀) (c0 :: r) []).length_eq
  obtain ⟨s0, sr, hsr⟩ : ∃ s0 sr, (c0 :: r).foldl (ins (vint d₀)) [] = s0 :: sr := by
    match h : (c0 :: r).foldl (ins (vint d₀)) [] with
    | [] => rw [h] at hfl; simp at hfl
    | s0 :: sr => exact ⟨s0, sr, rfl⟩
  have hoS : oS = some s0 := by rw [hsr] at hchS; exact hchS.1
  k_steps
  unfold Hold
  refine' lacks_useS (d := d8) (U := U) (c := s0) ok (by rw [hvS, hoS]) ?B ?F ?X ?N ?T ?hk ?hd ?hu ?pp ?_
  walk_at "use con top"
  case pp => exact A16
  rintro r17 h17 tk17 nx17 F17 N17 pP0
  refine byC fun nG => ?_
  obtain ⟨rfl, A17⟩ := pP0
  refine nG ?_
  repeat' (first | (fail_if_success (with_reducible show wpAny _ _ (execs (Stmt.Assign [PySem.Expr.Name _ _] _ _ :: _) _) _ _ _)); first | (k_unfold; (try dsimp only)) | walk1 | (dsimp only; walk1))
  dsimp only
  refine rest nx17 _ _ d8 A17 { hs := by rw [R.hs, hs7, M.hs], vl := fun c hc => by rw [R.vl, vl7, vlo c (by rw [M.hs]; exact hc), M.vl], made := by rw [R.made, made7, M.made], t := ?_, ch := ⟨oS, hvS, hchS⟩, vD := ?_, vT := R.vt, vS := R.vs, vH := R.vh, vN := ?_ } (by k_asm) (by k_asm)
  · have := R.t2
    rw [t7'] at this
    have h3 : (c0 :: r).length ≤ 6 := hlr
    exact om109 hn made5 hlr hvl' hmade t7' made7 hMt htz this
  · rw [R.vo, vr7, if_pos rfl]
  · rcases R.vn with h | h
    · exact .inl h
    · rw [h, vr7, if_neg (by decide +kernel)]; exact M.vN
end
section
set_option maxRecDepth 100000
/-- how sorting asks: two places, both there -/
noncomputable def cmpK (N : Nat) (key : Nat → Int) (i j : Nat) (C : Bool → Shared → Prop) (s : Shared) : Prop := i < N ∧ j < N ∧ C (decide (key i < key j)) s
noncomputable def RK (key : Nat → Int) (a b : Nat) : Prop := key a < key b ∨ (key a = key b ∧ a < b)
noncomputable def gP (p : Array Nat) (i : Nat) : Nat := p.getD i 0
theorem gP_rev {p : Array Nat} {i j k : Nat} (hj : j ≤ p.size) : gP (kas_rev p i j) k = if i ≤ k ∧ k < j then gP p (i + j - 1 - k) else gP p k := by
  unfold gP kas_rev
  simp only [Array.getD_eq_getD_getElem?]
  rw [getElem?_mirror_all hj k]
  split <;> rfl
theorem gP_bub {p : Array Nat} {src d k : Nat} (hs : src < p.size) (hd : d ≤ src) : gP (bubble p src d) k = if k = src - d then gP p src else if src - d < k ∧ k ≤ src then gP p (k - 1) else gP p k := by
  unfold gP
  simp only [Array.getD_eq_getD_getElem?]
  rw [getElem?_bubble hs d hd k]
  split
  · rfl
  · split <;> rfl
structure DI (key : Nat → Int) (P : Nat → Nat) (n b : Nat) : Prop where
  hb : b < n
  d2 : ∀ i j, b ≤ i → i < j → j < n → key (P i) = key (P j) ∧ P i < P j
  d3 : ∀ i j, i < j → j < b → RK key (P j) (P i)
  d4 : ∀ i j, i < b → b ≤ j → j < n → key (P j) < key (P i)
variable {key : Nat → Int} {P P1 : Nat → Nat} {n b N : Nat} {s : Shared}
theorem DI.rev (h : DI key P n b) (hP : ∀ k, P1 k = if b ≤ k ∧ k < n then P (b + n - 1 - k) else P k) (i j : Nat) (hij : i < j) (hj : j < n) : RK key (P1 j) (P1 i) := by
  have hb := h.hb
  rw [hP i, hP j]
  by_cases h1 : b ≤ i
  · rw [if_pos ⟨by exact om110 hij h1, hj⟩, if_pos ⟨h1, by exact om111 hij hj⟩]
    have := h.d2 (b + n - 1 - j) (b + n - 1 - i) (om112 hj) (om113 hij hj) (om114 hij hj h1)
    exact .inr this
  · rw [if_neg (by exact om115 h1 : ¬ (b ≤ i ∧ i < n))]
    by_cases h2 : b ≤ j
    · rw [if_pos ⟨h2, hj⟩]
      exact .inl (h.d4 i _ (om116 h1) (om117 hj h1) (om118 hj h1 h2))
    · rw [if_neg (om115 h2)]
      exact h.d3 i j hij (om116 h2)
theorem DI.low (h : DI key P n b) (i : Nat) (hi : i < n) : key (P (n - 1)) ≤ key (P i) := by
  have hb := h.hb
  by_cases h1 : i < b
  · exact Int.le_of_lt (h.d4 i (n - 1) h1 (om119 hb) (om120 hb))
  · by_cases h2 : i = n - 1
    · rw [h2]; exact Int.le_refl _
    · exact Int.le_of_eq (h.d2 i (n - 1) (om121 h1) (om122 hi hb h2) (om120 hb)).1.symm
theorem DI.down (h : DI key P n b) (hP : ∀ k, P1 k = if b ≤ k ∧ k < n then P (b + n - 1 - k) else P k) (hlt : key (P n) < key (P (n - 1))) : DI key P1 (n + 1) n := by
  have hb := h.hb
  refine ⟨by exact om123, fun i j h1 h2 h3 => by exact om124 h1 h2 h3, fun i j h1 h2 => h.rev hP i j h1 h2, fun i j h1 h2 h3 => ?_⟩
  obtain rfl : j = n := by exact om125 h2 h3
  have e : P1 j = P j := by rw [hP j, if_neg (om126)]
  rw [e]
  refine Int.lt_of_lt_of_le hlt ?_
  rw [hP i]
  split
  · exact h.low _ (by exact om127 h1 (by assumption))
  · exact h.low _ h1
theorem DI.same (h : DI key P n b) (hn : ∀ i, i < n → P i < P n) (he : key (P n) = key (P (n - 1))) : DI key P (n + 1) b := by
  have hb := h.hb
  refine ⟨by exact om128 hb, fun i j h1 h2 h3 => ?_, h.d3, fun i j h1 h2 h3 => ?_⟩
  · by_cases h4 : j = n
    · subst h4
      refine ⟨?_, hn i h2⟩
      rw [he]
      by_cases h5 : i = j - 1
      · rw [h5]
      · exact (h.d2 i (j - 1) h1 (om122 h2 hb h5) (om120 h2)).1
    · exact h.d2 i j h1 h2 (om129 h3 h4)
  · by_cases h4 : j = n
    · subst h4; rw [he]; exact h.d4 i (j - 1) h1 (om130 h1 hb) (om131 h1 hb)
    · exact h.d4 i j h1 h2 (om129 h3 h4)
noncomputable def SP (key : Nat → Int) (P : Nat → Nat) (n : Nat) : Prop := ∀ i j, i < j → j < n → RK key (P i) (P j)
theorem SP.grow (h : SP key P n) (h1 : ∀ i, i < n → P i < P n) (hk : n = 0 ∨ ¬ key (P n) < key (P (n - 1))) : SP key P (n + 1) := fun i j hij hj => by
  by_cases e : j = n
  · subst e
    have hk : ¬ key (P j) < key (P (j - 1)) := by rcases hk with h | h; exact om132 hij h; exact h
    have h2 : key (P i) ≤ key (P (j - 1)) := by
      by_cases e : i = j - 1
      · rw [e]; exact Int.le_refl _
      · rcases h i (j - 1) (om133 hij e) (om120 hij) with q | q
        · exact om134 q
        · exact om135 q
    have := h1 i hij
    unfold RK; exact om136 hk h2 this
  · exact h i j hij (om129 hj e)
/-- what stands behind is as it was, what stands ahead was ahead -/
structure Rest (N : Nat) (p : Array Nat) (n : Nat) : Prop where
  sz : p.size = N
  ti : ∀ i, n ≤ i → i < N → gP p i = i
  pb : ∀ i, i < n → gP p i < n
  le : n ≤ N
  pm : p.toList.Perm (List.range N)
theorem Rest.inN {p : Array Nat} (h : Rest N p n) {i : Nat} (hi : i < N) : gP p i < N := by
  by_cases e : i < n
  · exact Nat.lt_of_lt_of_le (h.pb i e) h.le
  · rw [h.ti i (om121 e) hi]; exact hi
theorem Rest.grow {p : Array Nat} (h : Rest N p n) (hn : n < N) : Rest N p (n + 1) := by
  refine ⟨h.sz, fun i h1 h2 => h.ti i (om137 h1) h2, fun i hi => ?_, by exact om24 hn, h.pm⟩
  by_cases e : i < n
  · exact Nat.lt_succ_of_lt (h.pb i e)
  · obtain rfl : i = n := by exact om138 hi e
    rw [h.ti i (om139) hn]; exact om140 hi
theorem Rest.rev {p : Array Nat} (h : Rest N p n) {i j : Nat} (hj : j ≤ n) : Rest N (kas_rev p i j) n := by
  have hle := h.le
  refine ⟨by rw [kas_rev_size, h.sz], fun k h1 h2 => ?_, fun k hk => ?_, h.le, (Array.perm_iff_toList_perm.mp (mirror_perm ..)).trans h.pm⟩
  · rw [gP_rev (by rw [h.sz]; exact om141 hj hle), if_neg (om142 hj h1)]; exact h.ti k h1 h2
  · rw [gP_rev (by rw [h.sz]; exact om141 hj hle)]
    split
    · exact h.pb _ (by exact om143 hj (by assumption))
    · exact h.pb _ hk
theorem Rest.head {p : Array Nat} (h : Rest N p n) (hn : n < N) (i : Nat) (hi : i < n) : gP p i < gP p n := by rw [h.ti n (Nat.le_refl _) hn]; exact h.pb i hi
theorem asc_k {p : Array Nat} {Q : Nat → Shared → Prop} : ∀ (f n : Nat), 1 ≤ n → n + f = N → Rest N p n → SP key (gP p) n →
    (∀ m, n ≤ m → m ≤ N → Rest N p m → SP key (gP p) m → (m = N ∨ key (gP p m) < key (gP p (m - 1))) → Q m s) → (kas_asc p f n).kasWp (cmpK N key) Q s
  | 0, n, h1, hN, hr, sp, fin => fin n (Nat.le_refl _) (om144 hN) hr sp (.inl (om8 hN))
  | f + 1, n, h1, hN, hr, sp, fin => by
    refine ⟨hr.inN (i := n) (om9 hN), hr.inN (i := n - 1) (om145 h1 hN), ?_⟩
    show KasT.kasWp _ (if decide (key (gP p n) < key (gP p (n - 1))) = true then KasT.ret n else kas_asc p f (n + 1)) Q s
    by_cases hc : key (gP p n) < key (gP p (n - 1))
    · rw [if_pos (decide_eq_true hc)]
      exact fin n (Nat.le_refl _) (om146 hN) hr sp (.inr hc)
    · rw [if_neg (by simpa using hc)]
      exact asc_k f (n + 1) (om147 h1 hN) (om10 hN) (hr.grow (om9 hN)) (sp.grow (hr.head (om9 hN)) (.inr hc)) fun m h2 => fin m (om148 hN h2)
theorem desc_k {Q : Array Nat × Nat × Nat → Shared → Prop} : ∀ (f : Nat) (p : Array Nat) (n q : Nat), n + f = N → Rest N p n → q + 1 ≤ n → DI key (gP p) n (n - (q + 1)) →
    (∀ p' n' q', Rest N p' n' → q' + 1 ≤ n' → DI key (gP p') n' (n' - (q' + 1)) → Q (p', n', q') s) → (kas_desc f p n q).kasWp (cmpK N key) Q s
  | 0, p, n, q, hN, hr, hq, hd, fin => fin p n q hr hq hd
  | f + 1, p, n, q, hN, hr, hq, hd, fin => by
    refine ⟨hr.inN (i := n) (om9 hN), hr.inN (i := n - 1) (om149 hN hq), ?_⟩
    show KasT.kasWp _ (if decide (key (gP p n) < key (gP p (n - 1))) = true then (if q > 0 then kas_desc f (kas_rev p (n - (q + 1)) n) (n + 1) 0 else kas_desc f p (n + 1) 0) else .ask (gP p (n - 1)) (gP p n) fun d => if d = true then .ret (p, n, q) else kas_desc f p (n + 1) (q + 1)) Q s
    by_cases hc : key (gP p n) < key (gP p (n - 1))
    · rw [if_pos (decide_eq_true hc)]
      by_cases hq0 : q > 0
      · rw [if_pos hq0]
        refine desc_k f _ (n + 1) 0 (om10 hN) ((hr.rev (Nat.le_refl _)).grow (om9 hN)) (om150 hN) ?_ fin
        exact hd.down (fun k => gP_rev (by rw [hr.sz]; exact om146 hN)) hc
      · obtain rfl : q = 0 := by exact om151 hq0
        rw [if_neg hq0]
        refine desc_k f p (n + 1) 0 (om10 hN) (hr.grow (om9 hN)) (om152 hN hq) (hd.down (fun k => ?_) hc) fin
        split
        · congr 1; exact om153 hN hq (by assumption)
        · rfl
    · rw [if_neg (by simpa using hc)]
      refine ⟨hr.inN (i := n - 1) (om149 hN hq), hr.inN (i := n) (om9 hN), ?_⟩
      dsimp only
      by_cases hc2 : key (gP p (n - 1)) < key (gP p n)
      · rw [if_pos (decide_eq_true hc2)]
        exact fin p n q hr hq hd
      · rw [if_neg (by simpa using hc2)]
        refine desc_k f p (n + 1) (q + 1) (om10 hN) (hr.grow (om9 hN)) (om154 hN hq) ?_ fin
        have := hd.same (hr.head (om9 hN)) (om155 hc hc2)
        rwa [show n + 1 - (q + 1 + 1) = n - (q + 1) by exact om156 hN hq]
theorem tail3_k {p : Array Nat} {Q : Nat × Array Nat → Shared → Prop} (h1 : 1 ≤ n) (hr : Rest N p n) (hd : ∀ i j, i < j → j < n → RK key (gP p j) (gP p i))
    (fin : ∀ m p', 1 ≤ m → Rest N p' m → SP key (gP p') m → Q (m, p') s) : (kas_tail3 n N p).kasWp (cmpK N key) Q s := by
  unfold kas_tail3
  rw [KasT.kasWp_bind]
  have hle := hr.le
  refine asc_k (N - n) n h1 (om157 hle) (hr.rev (Nat.le_refl _)) (fun i j hij hj => ?_) fun m h2 h3 hr' sp _ => fin m _ (om158 h1 h2) hr' sp
  rw [gP_rev (by rw [hr.sz]; exact om79 hle), gP_rev (by rw [hr.sz]; exact om79 hle), if_pos (om159 hij hj), if_pos (om160 hj)]
  exact hd _ _ (om161 hij hj) (om162 hij hj)
theorem descPart_k {p : Array Nat} {Q : Nat × Array Nat → Shared → Prop} (h1 : 1 ≤ n) (hn : n < N) (hr : Rest N p n) (hd : DI key (gP p) (n + 1) n)
    (fin : ∀ m p', 1 ≤ m → Rest N p' m → SP key (gP p') m → Q (m, p') s) : (kas_descPart n N p).kasWp (cmpK N key) Q s := by
  unfold kas_descPart
  rw [KasT.kasWp_bind]
  refine desc_k (N - (n + 1)) p (n + 1) 0 (om163 hn) (hr.grow hn) (om164 h1) (by simpa using hd) fun p' n' q' hr' hq' hd' => ?_
  have hle := hr'.le
  show KasT.kasWp _ (if q' > 0 then kas_tail3 n' N (kas_rev p' (n' - (q' + 1)) n') else kas_tail3 n' N p') Q s
  by_cases hq : q' > 0
  · rw [if_pos hq]
    exact tail3_k (om165 hq' hq) (hr'.rev (Nat.le_refl _)) (hd'.rev fun k => gP_rev (by rw [hr'.sz]; exact om79 hle)) fin
  · rw [if_neg hq]
    obtain rfl : q' = 0 := by exact om151 hq
    refine tail3_k (om166 hq') hr' (hd'.rev fun k => ?_) fin
    split
    · congr 1; exact om167 hq' (by assumption)
    · rfl
theorem gP_range {i : Nat} (h : i < N) : gP (List.toArray (List.range N)) i = i := by
  unfold gP
  simp only [Array.getD_eq_getD_getElem?]
  simp [h]
theorem count_k {Q : Nat × Array Nat → Shared → Prop} (h2 : 2 ≤ N) (fin : ∀ m p', 1 ≤ m → Rest N p' m → SP key (gP p') m → Q (m, p') s) : (kas_count N (List.toArray (List.range N))).kasWp (cmpK N key) Q s := by
  have hr0 : Rest N (List.toArray (List.range N)) 1 := ⟨by simp, fun i _ h => gP_range h, fun i hi => by rw [gP_range (om168 h2 hi)]; exact hi, by exact om169 h2, by simp⟩
  unfold kas_count
  rw [KasT.kasWp_bind]
  refine asc_k (N - 1) 1 (Nat.le_refl _) (om170 h2) hr0 (fun i j h1 h2 => by exact (om171 h1 h2).elim) fun m h1 hm hr sp hx => ?_
  by_cases e : m = N
  · rw [if_pos (by simpa using e)]
    exact fin m _ h1 hr sp
  · have hx : key (gP (List.toArray (List.range N)) m) < key (gP (List.toArray (List.range N)) (m - 1)) := by rcases hx with h | h; exact absurd h e; exact h
    rw [if_neg (by simpa using e)]
    by_cases e1 : m > 1
    · rw [if_pos e1]
      refine ⟨hr.inN (i := 0) (om172 h2), hr.inN (i := m - 1) (om173 hm e1), ?_⟩
      show KasT.kasWp _ (if decide (key (gP (List.toArray (List.range N)) 0) < key (gP (List.toArray (List.range N)) (m - 1))) = true then .ret (m, List.toArray (List.range N)) else kas_descPart m N (kas_rev (List.toArray (List.range N)) 0 m)) Q s
      by_cases hc : key (gP (List.toArray (List.range N)) 0) < key (gP (List.toArray (List.range N)) (m - 1))
      · rw [if_pos (decide_eq_true hc)]
        exact fin m _ h1 hr sp
      · rw [if_neg fun q => hc (of_decide_eq_true q)]
        have all : ∀ i, i < m → key (gP (List.toArray (List.range N)) i) = key (gP (List.toArray (List.range N)) 0) := fun i hi => by
          have a1 : key (gP (List.toArray (List.range N)) 0) ≤ key (gP (List.toArray (List.range N)) i) := by
            by_cases q : i = 0
            · rw [q]; exact Int.le_refl _
            · rcases sp 0 i (om174 q) hi with h | h <;> omega
          have a2 : key (gP (List.toArray (List.range N)) i) ≤ key (gP (List.toArray (List.range N)) (m - 1)) := by
            by_cases q : i = m - 1
            · rw [q]; exact Int.le_refl _
            · rcases sp i (m - 1) (om175 e1 hi q) (om176 e1) with h | h <;> omega
          exact om177 hc a1 a2
        have hrv : ∀ k, gP (kas_rev (List.toArray (List.range N)) 0 m) k = if 0 ≤ k ∧ k < m then gP (List.toArray (List.range N)) (0 + m - 1 - k) else gP (List.toArray (List.range N)) k := fun k => gP_rev (by simp; exact om79 hm)
        refine descPart_k h1 (om178 hm e) (hr.rev (Nat.le_refl _)) ⟨by exact om123, fun i j h3 h4 h5 => by exact om124 h3 h4 h5, fun i j h3 h4 => ?_, fun i j h3 h4 h5 => ?_⟩ fin
        · rw [hrv, hrv, if_pos (om160 h4), if_pos (om159 h3 h4)]
          exact sp _ _ (om161 h3 h4) (om162 h3 h4)
        · obtain rfl : j = m := by exact om125 h4 h5
          rw [hrv, hrv, if_neg (om179), if_pos (om160 h3), all (0 + j - 1 - i) (om180 h3), ← all (j - 1) (om176 e1)]
          exact hx
    · rw [if_neg e1]
      obtain rfl : m = 1 := by exact om181 h1 e1
      refine descPart_k h1 (om182 h2) hr ⟨by exact om183, fun i j h3 h4 h5 => by exact om184 h3 h4 h5, fun i j h3 h4 => by exact (om171 h3 h4).elim, fun i j h3 h4 h5 => ?_⟩ fin
      obtain rfl : j = 1 := by exact om185 h4 h5
      obtain rfl : i = 0 := by exact om186 h3
      exact hx
theorem place_k {p : Array Nat} {k : Nat} {Q : Nat → Shared → Prop} (hk : k < N) (hr : Rest N p k) (sp : SP key (gP p) k)
    (fin : ∀ l, l ≤ k → (∀ i, i < l → ¬ key (gP p k) < key (gP p i)) → (∀ i, l ≤ i → i < k → key (gP p k) < key (gP p i)) → Q l s) : ∀ (f l r : Nat), l ≤ r → r ≤ k → r - l ≤ f →
    (∀ i, i < l → ¬ key (gP p k) < key (gP p i)) → (∀ i, r ≤ i → i < k → key (gP p k) < key (gP p i)) → (kas_place p k f l r).kasWp (cmpK N key) Q s
  | 0, l, r, h1, h2, h3, h4, h5 => fin l (om141 h1 h2) h4 fun i h6 => h5 i (om187 h1 h3 h6)
  | f + 1, l, r, h1, h2, h3, h4, h5 => by
    unfold kas_place
    by_cases e : l ≥ r
    · rw [if_pos e]
      exact fin l (om188 h1 h2 e) h4 fun i h6 => h5 i (om189 h1 e h6)
    · rw [if_neg e]
      refine ⟨hr.inN (i := k) (om64 hk), hr.inN (i := (l + r) / 2) (om190 hk h2 e), ?_⟩
      show KasT.kasWp _ (if decide (key (gP p k) < key (gP p ((l + r) / 2))) = true then kas_place p k f l ((l + r) / 2) else kas_place p k f ((l + r) / 2 + 1) r) Q s
      by_cases hc : key (gP p k) < key (gP p ((l + r) / 2))
      · rw [if_pos (decide_eq_true hc)]
        refine place_k hk hr sp fin f l ((l + r) / 2) (om191 e) (om192 h2 e) (om193 h3 e) h4 fun i h6 h7 => ?_
        by_cases q : i = (l + r) / 2
        · rw [q]; exact hc
        · rcases sp ((l + r) / 2) i (om194 h6 q) h7 with h | h <;> omega
      · rw [if_neg (by simpa using hc)]
        refine place_k hk hr sp fin f ((l + r) / 2 + 1) r (om195 e) h2 (om196 h3 e) (fun i h6 => ?_) h5
        by_cases q : i = (l + r) / 2
        · rw [q]; exact hc
        · rcases sp i ((l + r) / 2) (om197 h6 q) (om198 h2 e) with h | h <;> omega
theorem bin_k {Q : Array Nat → Shared → Prop} : ∀ (f : Nat) (p : Array Nat) (k : Nat), k + f = N → Rest N p k → SP key (gP p) k →
    (∀ p', Rest N p' N → SP key (gP p') N → Q p' s) → (kas_bin f p k).kasWp (cmpK N key) Q s
  | 0, p, k, hN, hr, sp, fin => by obtain rfl : k = N := by exact om8 hN
                                   exact fin p hr sp
  | f + 1, p, k, hN, hr, sp, fin => by
    unfold kas_bin
    rw [KasT.kasWp_bind]
    have hsz := hr.sz
    refine place_k (om9 hN) hr sp (fun l hl h1 h2 => ?_) k 0 k (om199 hN hsz) (om139) (om200 hN hsz) (fun i h => by exact om201 h) fun i h h' => by exact om202 hN hsz h h'
    have hb : ∀ i, gP (bubble p k (k - l)) i = if i = k - (k - l) then gP p k else if k - (k - l) < i ∧ i ≤ k then gP p (i - 1) else gP p i := fun i => gP_bub (om203 hN hsz) (om204 hN hsz hl)
    rw [show k - (k - l) = l by exact om205 hN hsz hl] at hb
    have hkk : gP p k = k := hr.ti k (Nat.le_refl _) (om9 hN)
    refine bin_k f _ (k + 1) (om10 hN) ⟨by rw [bubble_size, hsz], fun i h3 h4 => ?_, fun i h3 => ?_, by exact om206 hN hsz hkk, (Array.perm_iff_toList_perm.mp (bubble_perm ..)).trans hr.pm⟩ (fun i j h3 h4 => ?_) fin
    · rw [hb, if_neg (om207 hN hsz hl hkk h3), if_neg (om208 hN hsz hkk h3)]; exact hr.ti i (om209 hN hsz hkk h3) h4
    · rw [hb]
      split
      · exact om210 hN hsz hkk
      · split
        · have := hr.pb (i - 1) (by exact om211 hN hsz hkk h3 (by assumption)); exact om212 hN hsz hkk this
        · have := hr.pb i (by exact om213 hN hsz hl hkk h3 (by assumption) (by assumption)); exact om212 hN hsz hkk this
    · rw [hb i, hb j]
      have pbk : ∀ i, i < k → gP p i < gP p k := fun i hi => by rw [hkk]; exact hr.pb i hi
      by_cases e1 : i = l
      · rw [if_pos e1, if_neg (om214 h3 e1), if_pos (om215 hN hsz hkk h3 h4 e1)]
        exact .inl (h2 (j - 1) (om216 h3 e1) (om217 hN hsz hkk h3 h4))
      · rw [if_neg e1]
        by_cases e2 : j = l
        · rw [if_pos e2, if_neg (om218 h3 e2)]
          have a1 := h1 i (om219 h3 e2)
          have a2 := pbk i (om220 hN hsz hl hkk h3 e2)
          unfold RK; exact om221 a1 a2
        · rw [if_neg e2]
          by_cases e3 : l < i
          · rw [if_pos (om222 hN hsz hkk h3 h4 e3), if_pos (om223 hN hsz hkk h3 h4 e3)]; exact sp _ _ (om224 h3 e3) (om217 hN hsz hkk h3 h4)
          · rw [if_neg (om225 e3)]
            by_cases e4 : l < j
            · rw [if_pos (om226 hN hsz hkk h4 e4)]; exact sp _ _ (om227 h3 e1 e2 e3 e4) (om217 hN hsz hkk h3 h4)
            · rw [if_neg (om225 e4)]; exact sp _ _ (om64 h3) (om228 hN hsz hl hkk h4 e2 e4)
/-- the sort is stable -/
theorem sort_k {Q : Array Nat → Shared → Prop} (h2 : 2 ≤ N) (fin : ∀ p : Array Nat, p.toList.Perm (List.range N) → p.toList.Pairwise (RK key) → Q p s) : (kas_sort N).kasWp (cmpK N key) Q s := by
  have fin' : ∀ p' : Array Nat, Rest N p' N → SP key (gP p') N → Q p' s := fun p hr sp => fin p hr.pm (by
    rw [List.pairwise_iff_getElem]
    intro i j hi hj hij
    have hsz := hr.sz
    have := sp i j hij (by simpa [hsz] using hj)
    unfold gP at this
    simp only [Array.getD_eq_getD_getElem?] at this
    simpa [show i < p.size by simpa using hi, show j < p.size by simpa using hj] using this)
  unfold kas_sort
  rw [KasT.kasWp_bind]
  refine count_k h2 fun m p h1 hr sp => ?_
  have hle := hr.le
  show KasT.kasWp _ (if m < N then kas_bin (N - max m 1) p (max m 1) else .ret p) Q s
  rw [Nat.max_eq_left h1]
  by_cases e : m < N
  · rw [if_pos e]
    exact bin_k (N - m) p m (om229 e) hr sp fin'
  · rw [if_neg e]
    obtain rfl : m = N := by exact om66 hle e
    exact fin' p hr sp
end
section
set_option maxRecDepth 100000
section
variable {prog : Program} {w : World} {A : Around} {s : Shared}
theorem kas_from {α : Type} {cmp cmp' : Nat → Nat → (Bool → Shared → Prop) → Shared → Prop} (h : ∀ i j (C C' : Bool → Shared → Prop) s, (∀ b s', C b s' → C' b s') → cmp i j C s → cmp' i j C' s) : ∀ (t : KasT α) (Q : α → Shared → Prop) (s : Shared), t.kasWp cmp Q s → t.kasWp cmp' Q s
  | .ret _, _, _, hq => hq
  | .ask i j k, Q, s, hq => h i j _ _ s (fun b s' hb => kas_from h (k b) Q s' hb) hq
theorem ints_getD {ks : List Value} {kz : List Int} (h : IntsAre ks kz) (i : Nat) (hi : i < ks.length) : ∃ t, ks.getD i Value.none = .int (kz.getD i 0) t := by
  induction h generalizing i with
  | nil => simp at hi
  | cons n t r ih =>
    cases i with
    | zero => exact ⟨t, by simp⟩
    | succ i => simpa using ih i (by simpa using hi)
theorem kas_ints {α : Type} {ks : List Value} {kz : List Int} (hk : IntsAre ks kz) {t : KasT α} {Q : α → Shared → Prop} (h : t.kasWp (cmpK ks.length fun i => kz.getD i 0) Q s) : t.kasWp (kas_ask prog w A oneType' ks) Q s :=
  kas_from (fun i j C C' s hc hq => by
    obtain ⟨hi, hj, hq⟩ := hq
    unfold kas_ask
    obtain ⟨t1, e1⟩ := ints_getD hk i hi
    obtain ⟨t2, e2⟩ := ints_getD hk j hj
    rw [e1, e2]
    exact kat_lt_int (hc _ _ hq)) t Q s h
end
section
variable {prog : Program} {w : World} {A : Around} {E : Value → Shared → Prop} {h₀ hp : Heap} {L rl : Addr} {m : Str → Option Value} {Lg : List (Addr × Obj)} {g : Array GenState} {dr : Drawn} {tk : Nat} {os : OsState}
noncomputable def KeysOf (K : Value → Int → Prop) : List Value → List Int → Prop
  | [], [] => True
  | v :: r, k :: s => K v k ∧ KeysOf K r s
  | _, _ => False
theorem KeysOf.len {K : Value → Int → Prop} : ∀ {vs : List Value} {kz : List Int}, KeysOf K vs kz → kz.length = vs.length
  | [], [], _ => rfl
  | _ :: _, _ :: _, h => by rw [List.length_cons, List.length_cons, KeysOf.len h.2]
theorem KeysOf.at {K : Value → Int → Prop} : ∀ {vs : List Value} {kz : List Int}, KeysOf K vs kz → ∀ (i : Nat) (v : Value) (k : Int), vs[i]? = some v → kz[i]? = some k → K v k
  | v :: r, k :: s, h, 0, _, _, h1, h2 => by
    simp at h1 h2
    rw [← h1, ← h2]; exact h.1
  | v :: r, k :: s, h, i + 1, _, _, h1, h2 => KeysOf.at h.2 i _ _ (by simpa using h1) (by simpa using h2)
theorem ints_snoc' {n : Int} {t : Tok} : ∀ {vs : List Value} {ns : List Int}, IntsAre vs ns → IntsAre (vs ++ [.int n t]) (ns ++ [n])
  | _, _, .nil => .cons n t .nil
  | _, _, .cons n' t' h => .cons n' t' (ints_snoc' h)
theorem kat_all {f : Value} {kS D : Addr} {e1 : Nat} {Fin : List Value → Nat → Shared → Prop} {K : Value → Int → Prop} (hne : D ≠ kS) (hlg : ∀ p ∈ Lg, p.1 ≠ kS)
    (callk : ∀ v y, K v y → ∀ Lg' h tk (Q E : Value → Shared → Prop), (∀ p ∈ Lg, p ∈ Lg') → Fr h₀ L h m → News h₀ L h Lg' → (∀ h' tk' t, Fr h₀ L h' m → News h₀ L h' Lg' → Q (.int y t) ⟨h', g, dr, tk', os⟩) → wpAny (model prog w) A (call f [v]) Q E ⟨h, g, dr, tk, os⟩) :
    ∀ (r : List Value) (kr : List Int) (ks : List Value) (ka : List Int) (e : Nat) (h : Heap) (tk : Nat), KeysOf K r kr → IntsAre ks ka → Fr h₀ L h m → News h₀ L h ((kS, seqObj "list" ks.toArray e) :: (D, seqObj "list" #[] e1) :: Lg) →
    (∀ ks' e' h' tk', IntsAre ks' (ka ++ kr) → Fr h₀ L h' m → News h₀ L h' ((kS, seqObj "list" ks'.toArray e') :: (D, seqObj "list" #[] e1) :: Lg) → Fin ks' e' ⟨h', g, dr, tk', os⟩) →
    KatKeys prog w A h₀ L m kS f Fin r ks e ⟨h, g, dr, tk, os⟩ := by
  intro r
  induction r with
  | nil =>
    intro kr
    cases kr with
    | nil => intro ks ka e h tk _ hi F N fin; exact KatKeys.nil (fin ks e h tk (by simpa using hi) F N)
    | cons y kr => intro ks ka e h tk hk; exact hk.elim
  | cons v r ih =>
    intro kr
    cases kr with
    | nil => intro ks ka e h tk hk; exact hk.elim
    | cons y kr =>
      intro ks ka e h tk hk hi F N fin
      refine KatKeys.cons (callk v y hk.1 _ _ _ _ _ (fun p hp => .tail _ (.tail _ hp)) F N fun h' tk' t F' N' => ?_)
      refine KatBack.intro F' N' (UpdF.head fun p hp => ?_) fun h2 c F2 N2 => ?_
      · rcases List.mem_cons.mp hp with rfl | hp
        · exact hne
        · exact hlg p hp
      · exact ih kr (ks ++ [.int y t]) (ka ++ [y]) c h2 tk' hk.2 (ints_snoc' hi) F2 N2 fun ks' e' h' tk' hi' => fin ks' e' h' tk' (by simpa using hi')
/-- what the sort by keys gives -/
noncomputable def Stable (vs : List Value) (kz : List Int) (out : List Value) : Prop := ∃ p : List Nat, p.Perm (List.range vs.length) ∧ p.Pairwise (RK fun i => kz.getD i 0) ∧ out = p.map fun i => vs.getD i Value.none
theorem sorted_stable {A : Around} {f : Value} {K : Value → Int → Prop} {vs : List Value} {kz : List Int} {re : Nat} {b : Addr} {Q : Value → Shared → Prop} (hf : f = .ref b) (F : Fr h₀ L hp m) (N : News h₀ L hp Lg) (mr : (rl, PySem.W.listOf vs.toArray re) ∈ Lg) (hk : KeysOf K vs kz) (h1 : 1 ≤ vs.length) (h64 : vs.length < 64)
    (callk : ∀ v y, K v y → ∀ Lg' h tk (Q E : Value → Shared → Prop), (∀ p ∈ Lg, p ∈ Lg') → Fr h₀ L h m → News h₀ L h Lg' → (∀ h' tk' t, Fr h₀ L h' m → News h₀ L h' Lg' → Q (.int y t) ⟨h', g, dr, tk', os⟩) → wpAny (model prog w) A.in1.in1 (call f [v]) Q E ⟨h, g, dr, tk, os⟩)
    (fin : ∀ D h' tk' out c, Fr h₀ L h' m → News h₀ L h' ((D, PySem.W.listOf (List.toArray out) c) :: Lg) → (∀ q ∈ Lg, q.1 < D) → Stable vs kz out → Q (.ref D) ⟨h', g, dr, tk', os⟩) :
    wpAny (model prog w) A (call (.builtin "sorted") [.ref rl] [(Str.ofString "key", f)]) Q E ⟨hp, g, dr, tk, os⟩ := by
  subst hf
  by_cases h2 : 2 ≤ vs.length
  · refine kat_sortedK (b := false) (s := ⟨hp, g, dr, tk, os⟩) F N (News.isList N mr) h2 h64 (ksk_s1 _ _) (fun x => ksk_l1 _ _) (fun x => ksk_t1 b x) fun D kS e1 h' F' N' hlt hD => ?_
    have hDk : D ≠ kS := Nat.ne_of_lt hlt
    have hLk : ∀ p ∈ Lg, p.1 ≠ kS := fun p hp => Nat.ne_of_lt (Nat.lt_trans (hD p hp) hlt)
    refine kat_all hDk hLk callk vs kz [] [] 0 h' tk hk .nil F' N' fun ks e h2' tk2 hi F2 N2 => ?_
    have hkl : ks.length = vs.length := by
      have := hi.length
      rw [this]; simpa using hk.len
    have hi' : IntsAre (List.toArray ks).toList kz := by simpa using hi
    rw [ksk_kind hi' (by simp; exact om230 h1 h64 h2 hkl)]
    refine wpAny_pure ?_
    rw [← hkl]
    show (kas_sort ks.length).kasWp (kas_ask prog w A.in1.in1 oneType' ks) _ _
    refine kas_ints (by simpa using hi) (sort_k (om230 h1 h64 h2 hkl) fun p hp1 hp2 => ?_)
    refine KatFin.intro F2 N2 (UpdF.head fun q hq => ?_) fun h3 c F3 N3 => ?_
    · rcases List.mem_cons.mp hq with rfl | hq
      · exact hDk
      · exact hLk q hq
    · refine KasFin.intro F3 N3 (UpdF.tail hDk.symm (UpdF.head fun q hq => Nat.ne_of_lt (hD q hq))) fun h4 c4 F4 N4 => ?_
      exact fin D h4 _ _ c4 F4 (fun q hq => N4 q (.tail _ hq)) hD ⟨p.toList, by rw [← hkl]; exact hp1, hp2, rfl⟩
  · have hl : vs.length = 1 := by exact om231 h1 h64 h2
    refine ksk_sorted (b := false) (kz := kz) (s := ⟨hp, g, dr, tk, os⟩) F N (News.isList N mr) hk.len h64 (ksk_s1 _ _) (fun x => ksk_l1 _ _) (fun x => ksk_t1 b x) (fun i v k hv hkv h tk own F' N' => ?_) fun D h' tk' out c F' N' hD ho => ?_
    · exact callk v k (hk.at i v k hv hkv) _ _ _ _ _ (fun p hp => List.mem_append_left _ hp) F' N' fun h' tk' t F2 N2 => KskEnd.intro F2 N2 fun p hp => hp
    · refine byC fun nG => ?_
      obtain ⟨ps, hp1, hp2, -⟩ := ho
      refine nG ?_
      obtain ⟨v, rfl⟩ : ∃ v, vs = [v] := List.length_eq_one_iff.mp hl
      obtain ⟨k, rfl⟩ : ∃ k, kz = [k] := List.length_eq_one_iff.mp (hk.len.trans hl)
      have hps : ps = [(k, v)] := hp1.eq_singleton
      rw [hps] at hp2
      have ho : out = List.toArray [v] := Array.toList_inj.mp (by simpa using hp2)
      subst ho
      exact fin D h' tk' [v] c F' N' hD ⟨[0], by simp, by simp, rfl⟩
end
end
section
set_option maxRecDepth 100000
theorem perm_unique {α : Type} {r : α → α → Prop} (anti : ∀ a b, r a b → r b a → False) : ∀ {p q : List α}, p.Perm q → p.Pairwise r → q.Pairwise r → p = q
  | [], q, h, _, _ => h.symm.eq_nil ▸ rfl
  | a :: p, [], h, _, _ => by have := h.length_eq; simp at this
  | a :: p, b :: q, h, hp, hq => by
    have hp' := List.pairwise_cons.mp hp
    have hq' := List.pairwise_cons.mp hq
    by_cases e : a = b
    · subst e
      rw [perm_unique anti (List.Perm.cons_inv h) hp'.2 hq'.2]
    · have h1 : a ∈ q := by
        have : a ∈ b :: q := h.mem_iff.mp (.head _)
        rcases List.mem_cons.mp this with h | h
        · exact absurd h e
        · exact h
      have h2 : b ∈ p := by
        have : b ∈ a :: p := h.mem_iff.mpr (.head _)
        rcases List.mem_cons.mp this with h | h
        · exact absurd h.symm e
        · exact h
      exact (anti _ _ (hp'.1 b h2) (hq'.1 a h1)).elim
theorem rk_anti {key : Nat → Int} : ∀ a b, RK key a b → RK key b a → False := fun a b h1 h2 => by
  unfold RK at h1 h2; exact om232 h1 h2
noncomputable def insI (key : Nat → Int) (q : List Nat) (n : Nat) : List Nat := (q.takeWhile fun i => decide (key i ≤ key n)) ++ n :: (q.dropWhile fun i => decide (key i ≤ key n))
theorem insI_perm {key : Nat → Int} {q : List Nat} {n : Nat} : (insI key q n).Perm (n :: q) := by
  unfold insI
  refine List.perm_middle.trans ?_
  rw [List.takeWhile_append_dropWhile]
theorem drop_gt {key : Nat → Int} {n : Nat} : ∀ {q : List Nat}, q.Pairwise (RK key) → ∀ j ∈ q.dropWhile (fun i => decide (key i ≤ key n)), key n < key j
  | [], _, j, h => by simp at h
  | a :: q, hp, j, h => by
    have hp' := List.pairwise_cons.mp hp
    rw [List.dropWhile_cons] at h
    by_cases e : key a ≤ key n
    · rw [if_pos (decide_eq_true e)] at h
      exact drop_gt hp'.2 j h
    · rw [if_neg (by simpa using e)] at h
      rcases List.mem_cons.mp h with rfl | h
      · exact om233 e
      · have := hp'.1 j h
        unfold RK at this; exact om234 e this
theorem mem_tw {p : Nat → Bool} {i : Nat} : ∀ {q : List Nat}, i ∈ q.takeWhile p → p i = true
  | [], h => by simp at h
  | a :: q, h => by
    rw [List.takeWhile_cons] at h
    by_cases e : p a = true
    · rw [if_pos e] at h
      rcases List.mem_cons.mp h with rfl | h
      · exact e
      · exact mem_tw h
    · rw [if_neg e] at h; simp at h
theorem insI_pw {key : Nat → Int} {q : List Nat} {n : Nat} (hq : q.Pairwise (RK key)) (hn : ∀ i ∈ q, i < n) : (insI key q n).Pairwise (RK key) := by
  unfold insI
  have hta : ∀ i ∈ q.takeWhile (fun i => decide (key i ≤ key n)), i ∈ q ∧ key i ≤ key n := fun i hi => by
    refine ⟨(List.takeWhile_sublist _).subset hi, ?_⟩
    have := mem_tw hi
    simpa using this
  have hdr := drop_gt (n := n) hq
  have hsplit : (q.takeWhile (fun i => decide (key i ≤ key n)) ++ q.dropWhile (fun i => decide (key i ≤ key n))).Pairwise (RK key) := by rw [List.takeWhile_append_dropWhile]; exact hq
  have hs := List.pairwise_append.mp hsplit
  refine List.pairwise_append.mpr ⟨hs.1, List.pairwise_cons.mpr ⟨fun j hj => .inl (hdr j hj), hs.2.1⟩, fun i hi j hj => ?_⟩
  rcases List.mem_cons.mp hj with rfl | hj
  · have := hta i hi
    have h2 := hn i this.1
    unfold RK; omega
  · exact hs.2.2 i hi j hj
theorem fold_insI {key : Nat → Int} : ∀ n : Nat, ((List.range n).foldl (insI key) []).Perm (List.range n) ∧ ((List.range n).foldl (insI key) []).Pairwise (RK key)
  | 0 => ⟨.refl _, .nil⟩
  | n + 1 => by
    have ih := fold_insI (key := key) n
    rw [List.range_succ, List.foldl_append]
    refine ⟨insI_perm.trans ?_, insI_pw ih.2 fun i hi => List.mem_range.mp (ih.1.mem_iff.mp hi)⟩
    exact (List.perm_append_comm (l₁ := [n])).trans (List.Perm.append_right [n] ih.1) |>.symm.symm
theorem ins_map {vi : Cell → Int} {key : Nat → Int} {f : Nat → Cell} {q : List Nat} {n : Nat} (hk : ∀ i ∈ n :: q, vi (f i) = key i) : ins vi (q.map f) (f n) = (insI key q n).map f := by
  unfold ins insI
  rw [List.map_append, List.map_cons]
  have e : ∀ i ∈ q, (decide (vi (f i) ≤ vi (f n))) = decide (key i ≤ key n) := fun i hi => by rw [hk i (.tail _ hi), hk n (.head _)]
  have h1 : ∀ l : List Nat, (∀ i ∈ l, i ∈ q) → (l.map f).takeWhile (fun y => decide (vi y ≤ vi (f n))) = (l.takeWhile fun i => decide (key i ≤ key n)).map f ∧ (l.map f).dropWhile (fun y => decide (vi y ≤ vi (f n))) = (l.dropWhile fun i => decide (key i ≤ key n)).map f := by
    intro l
    induction l with
    | nil => intro _; exact ⟨rfl, rfl⟩
    | cons a l ih =>
      intro hl
      have ih := ih fun i hi => hl i (.tail _ hi)
      rw [List.map_cons, List.takeWhile_cons, List.dropWhile_cons, List.takeWhile_cons, List.dropWhile_cons, e a (hl a (.head _))]
      cases decide (key a ≤ key n) with
      | true => exact ⟨by simp [ih.1], by simp [ih.2]⟩
      | false => exact ⟨by simp, by simp⟩
  have := h1 q fun _ h => h
  rw [this.1, this.2]
theorem take_map {xs : List Cell} {c0 : Cell} : ∀ n, n ≤ xs.length → (List.range n).map (fun i => xs.getD i c0) = xs.take n
  | 0, _ => by simp
  | n + 1, h => by
    rw [List.range_succ, List.map_append, take_map n (om137 h), List.take_add_one]
    simp [show n < xs.length by exact om21 h]
theorem fold_ins {vi : Cell → Int} {xs : List Cell} {c0 : Cell} {key : Nat → Int} (hk : ∀ i, i < xs.length → vi (xs.getD i c0) = key i) : ∀ n, n ≤ xs.length → (xs.take n).foldl (ins vi) [] = ((List.range n).foldl (insI key) []).map fun i => xs.getD i c0
  | 0, _ => by simp
  | n + 1, h => by
    have ih := fold_ins hk n (om137 h)
    have e : xs.take (n + 1) = xs.take n ++ [xs.getD n c0] := by
      rw [List.take_add_one]
      simp [show n < xs.length by exact om21 h]
    rw [e, List.foldl_append, ih, List.range_succ, List.foldl_append]
    refine ins_map (f := fun i => xs.getD i c0) fun i hi => ?_
    rcases List.mem_cons.mp hi with rfl | hi
    · exact hk _ (om21 h)
    · have := List.mem_range.mp ((fold_insI (key := key) n).1.mem_iff.mp hi)
      exact hk i (om235 h this)
/-- the stable order of a chain is what putting each cell behind those that are no greater gives -/
theorem stable_ins {vi : Cell → Int} {xs : List Cell} {c0 : Cell} {p : List Nat} (hp : p.Perm (List.range xs.length)) (hs : p.Pairwise (RK fun i => (xs.map vi).getD i 0)) : p.map (fun i => xs.getD i c0) = xs.foldl (ins vi) [] := by
  have hk : ∀ i, i < xs.length → vi (xs.getD i c0) = (xs.map vi).getD i 0 := fun i hi => by simp [hi]
  have h1 := fold_ins hk xs.length (Nat.le_refl _)
  rw [List.take_length] at h1
  rw [h1]
  have h2 := fold_insI (key := fun i => (xs.map vi).getD i 0) xs.length
  rw [perm_unique rk_anti (hp.trans h2.1.symm) hs h2.2]
end
local macro_rules | `(tactic| walk_at "eval Lambda") => `(tactic| (k_here; k_dflt (refine' kla_eval ?d0 ?_; (case d0 => exact rfl)); refine hold ?_))
local macro_rules | `(tactic| walk_at "call builtin:sorted") => `(tactic| (refine hold ?_))
section
set_option maxRecDepth 100000
set_option maxHeartbeats 8000000
variable {fa : Addr}
variable {w : World} {S : Lay} {U : List (Addr × Obj)}
theorem keysOf_dat {d : Pl} {tl : List (Addr × Obj)} : ∀ (xs : List Cell) (vs : List Value), DatAll tl vs (xs.map (datOf d)) → (∀ c ∈ xs, ∃ x t, d.vl c = .int x t) → KeysOf (fun v y => ∃ a x t tn, v = .ref a ∧ (a, ({ cls := .type "tuple", data := .seq [x, .int y t].toArray tn } : Obj)) ∈ tl) vs (xs.map (vint d))
  | [], _, h, _ => by
    cases h
    exact trivial
  | c :: xs, vs, h, hv => by
    obtain ⟨y, ty, e⟩ := hv c (.head _)
    have e1 : datOf d c = .tuple [.int c.num, .int y] := by unfold datOf; rw [e]; rfl
    have e2 : vint d c = y := by unfold vint; rw [e]
    rw [List.map_cons, e1] at h
    cases h with
    | cons hd hr =>
      refine ⟨?_, keysOf_dat xs _ hr fun c hc => hv c (.tail _ hc)⟩
      rw [e2]
      cases hd with
      | tuple hm hall =>
        cases hall with
        | cons h1 hall =>
          cases hall with
          | cons h2 hall =>
            cases hall
            cases h2
            exact ⟨_, _, _, _, rfl, hm⟩
theorem datAll_at {news : List (Addr × Obj)} : ∀ {vs : List Value} {ds : List Dat}, DatAll news vs ds → ∀ i, i < vs.length → DatIn news (vs.getD i .none) (ds.getD i .none)
  | _, _, .nil, i, h => by simp at h
  | _, _, .cons a r, 0, _ => by simpa using a
  | _, _, .cons a r, i + 1, h => by simpa using datAll_at r i (by simpa using h)
theorem datAll_pick {news : List (Addr × Obj)} {vs : List Value} {ds : List Dat} (h : DatAll news vs ds) : ∀ (p : List Nat), (∀ i ∈ p, i < vs.length) → DatAll news (p.map fun i => vs.getD i .none) (p.map fun i => ds.getD i .none)
  | [], _ => .nil
  | i :: p, hp => .cons (datAll_at h i (hp i (.head _))) (datAll_pick h p fun j hj => hp j (.tail _ hj))
noncomputable def dueM (S : Lay) (rl : Addr) (u : Str → Option Value) (n : Int) (t : Tok) (D : Addr) (y : Str) : Option Value := if y = Str.ofString "due" then some (.ref D) else midM S rl u n t y
theorem n530b {L : Nat} (h : 530 < L) : L + 1 ≠ 530 ∧ L + 1 + 1 ≠ 530 := by exact om236 h
theorem n530c {L x : Nat} (h : 530 < L) (h' : L + 1 + 1 + 1 + 1 < x) : x ≠ 530 := by exact om237 h h'
theorem name_tab {h₀ h : Heap} {L d : Addr} {o : Obj} {x y z : Addr × Obj} {r : List (Addr × Obj)} {G : Prop} (_ : News h₀ L h (x :: y :: z :: setAt d o r)) (k : ∀ x, x = o → G) : G := k _ rfl
theorem name_obj {h₀ h : Heap} {L a b : Addr} {o o2 : Obj} {r : List (Addr × Obj)} {G : Prop} (_ : News h₀ L h ((a, o) :: (b, o2) :: r)) (k : ∀ x, x = o → G) : G := k _ rfl
theorem news_set3 {h₀ h : Heap} {L d : Addr} {o : Obj} {p q : Addr × Obj} {news : List (Addr × Obj)} (N : News h₀ L h (p :: q :: (d, o) :: offAt d news)) : News h₀ L h (p :: q :: setAt d o news) := fun x hx => by
  rcases List.mem_cons.mp hx with rfl | hx
  · exact N _ (.head _)
  · rcases List.mem_cons.mp hx with rfl | hx
    · exact N _ (.tail _ (.head _))
    · exact news_setAt (fun y hy => N y (.tail _ (.tail _ hy))) x hx
theorem law_due {p : Program} {loose : List Str} {mean : ExcName → Option Value} {mg mb : Str → Option Value} {base h₀ hp : Heap} {L : Addr} {m : Str → Option Value} {news : List (Addr × Obj)} {g : Array GenState} {dr : Drawn} {tk : Nat} {os : OsState} {Q : Flow → Shared → Prop} {E : Value → Shared → Prop} {d₀ d : Pl} {rl : Addr} {re : Nat} {u : Str → Option Value} {sc : Scope} {c0 : Cell} {r : List Cell} {vs : List Value} {tl : List (Addr × Obj)} {n : Int} {nt : Tok} {o1 o2 : Obj} (hcw : (L + 1, o1) ∈ U) (hcw' : o1.data = .cell (some (.ref S.wl))) (hca : (L + 1 + 1, o2) ∈ U) (hca' : o2.data = .cell (some (.ref S.aw))) (hsc : sc = scOf (KK w.params) 533)
    (ok : LayOk S) (B : Below callerA base [] h₀) (F : Fr h₀ L hp (midM S rl u n nt)) (X : (KK w.params).In h₀) (N : News h₀ L hp news) (T : Top p loose mean mg mb h₀) (hE : PassesOwn (model PySem.Challenge.rw_sa0599_01.row.prog w) (callerA.deeper (lawEnv sc L fa)) (lawEnv sc L fa) E)
    (hSt : St w S d U news) (O₁ : Own S L d₀ (c0 :: r) U rl vs re tl) (b : Build d₀ 6 (c0 :: r)) (M : Late d₀ d (c0 :: r) (vint d₀) 30) (hn : n = (c0 :: r).length) (C : CodeHd h₀ 532 530)
    (rest : ∀ nx h' tk' D out cc U2 xs', xs' = (c0 :: r).foldl (ins (vint d₀)) [] → St w S d U2 nx → (L + 1, (o1 : Obj)) ∈ U2 → (L + 1 + 1, (o2 : Obj)) ∈ U2 → (D, PySem.W.listOf out.toArray cc) ∈ U2 → (∀ p ∈ tl, p ∈ U2) → (∃ ps, (530, tabObj ps) ∈ U2) → DatAll tl out (xs'.map (datOf d₀)) → Fr h₀ L h' (dueM S rl u n nt D) → News h₀ L h' nx → wpAny (model PySem.Challenge.rw_sa0599_01.row.prog w) (callerA.deeper (lawEnv sc L fa)) (execs ((bodyOf (KK w.params) 533).drop 14) (lawEnv sc L fa)) Q E ⟨h', g, dr, tk', os⟩) :
    wpAny (model PySem.Challenge.rw_sa0599_01.row.prog w) (callerA.deeper (lawEnv sc L fa)) (execs ((bodyOf (KK w.params) 533).drop 12) (lawEnv sc L fa)) Q E ⟨hp, g, dr, tk, os⟩ := by
  have hsc' := hsc
  k_fill
  have esc : scOf (KK w.params) 533 = ⟨.function, _, _, _, _⟩ := rfl
  rw [esc] at hsc
  subst hsc
  show wpAny _ _ (execs (_ :: _) _) _ _ _
  refine byC fun nG => ?_
  obtain ⟨H₁, A₁⟩ := hSt
  refine nG ?_
  have r1 := A₁.own _ hcw
  have r2 := A₁.own _ hca
  have r3 := A₁.own _ O₁.mr
  have r4 := A₁.own _ O₁.tab
  have n1 := above530 O₁.hL O₁.rL
  k_steps
  unfold Hold
  refine' kla_nest (clos := []) F (news_off N r4) T C rfl (UpdF.head offAt_ne) ?t ?n ?cl ?_
  case t => kn_triples
  case n => kn_among
  case cl => exact rfl
  intro f' c' oc' vs' t' ct' h' tk' F' N' d1' d2' l1 l2
  dsimp only at N'
  replace N' := news_set3 N'
  obtain ⟨tab', etab⟩ : ∃ t, t = tabObj (#[] ++ #[rawInt 374, rawInt 28, Value.ref c']) := ⟨_, rfl⟩
  k_steps
  refine name_obj N' fun FO eFO => ?_
  have key : ∀ (Lg : List (Addr × Obj)) (a : Addr) (x y : Value) (tn : Nat) (h9 : Heap) (tk9 : Tok) (Q9 E9 : Value → Shared → Prop), (f', FO) ∈ Lg → (c', oc') ∈ Lg → (a, ({ cls := .type "tuple", data := .seq [x, y].toArray tn } : Obj)) ∈ Lg → Fr h₀ L h9 (midM S rl u n nt) → News h₀ L h9 Lg → (∀ h10 tk10, Fr h₀ L h10 (midM S rl u n nt) → News h₀ L h10 Lg → Q9 y ⟨h10, g, dr, tk10, os⟩) → wpAny (model PySem.Challenge.rw_sa0599_01.row.prog w) (callerA.deeper (lawEnv (scOf (KK w.params) 533) L fa)).in1.in1 (call (.ref f') [.ref a]) Q9 E9 ⟨h9, g, dr, tk9, os⟩ := by
    intro Lg a x y tn h9 tk9 Q9 E9 k1 k2 k3 F9 N9 hq
    rw [eFO] at k1
    clear N' F' F N
    rw [esc]
    refine wpAny_call ?_
    kla_enter
    k_steps
    exact hq _ _ (by k_asm) (by k_asm)
  rw [esc] at key
  have hxl := O₁.lenv
  have hx6 := b.len
  obtain ⟨xs', hxs'⟩ : ∃ xs', xs' = (c0 :: r).foldl (ins (vint d₀)) [] := ⟨_, rfl⟩
  refine byC fun nG => ?_
  obtain ⟨oC, hvC, hchC⟩ := M.ch
  refine nG ?_
  rw [← hxs'] at hchC
  have hpx : xs'.Perm (c0 :: r) := by
    have := fold_perm (vi := vint d₀) (c0 :: r) []
    rw [← hxs'] at this; simpa using this
  have hsub' : ∀ c ∈ xs', c ∈ d₀.hs := fun c hc => b.sub c (hpx.mem_iff.mp hc)
  have S1 := fun o' : Obj => St.own_at (o' := o') ⟨_, A₁⟩ O₁.tab
  have hcw2 := fun o' : Obj => mem_setAt_ne (o' := o') hcw (n530b O₁.hL).1
  have hca2 := fun o' : Obj => mem_setAt_ne (o' := o') hca (n530b O₁.hL).2
  have hmt2 := fun (o' : Obj) (p : Addr × Obj) (hp : p ∈ tl) => mem_setAt_ne (o' := o') (O₁.mt p hp) (n530c O₁.hL (O₁.tL p hp))
  have hK := keysOf_dat (c0 :: r) vs O₁.dat (fun c hc => b.vi c (b.sub c hc))
  unfold Hold
  refine sorted_stable (vs := vs) (re := re) rfl (by k_asm) N' (.tail _ (.tail _ (mem_setAt_ne r3 n1.symm))) hK (by rw [hxl]; simp) (by simp at hxl hx6; exact om238 hxl hx6) ?callk ?fin
  case callk =>
    rintro v y pP0 Lg' h9 tk9 Q9 E9 hsub F9 N9 hq
    refine byC fun nG => ?_
    obtain ⟨a, x, t, tn, rfl, hm⟩ := pP0
    refine nG ?_
    exact key Lg' a x (.int y t) tn h9 tk9 Q9 E9 (by rw [eFO]; exact hsub _ (.head _)) (hsub _ (.tail _ (.head _))) (hsub _ (.tail _ (.tail _ (mem_setAt_ne (A₁.own _ (O₁.mt _ hm)) (n530c O₁.hL (O₁.tL _ hm)))))) F9 N9 fun h10 tk10 F10 N10 => hq h10 tk10 t F10 N10
  case fin =>
    rintro D h8 tk8 out cc F8 N8 hD pP0
    refine byC fun nG => ?_
    obtain ⟨pp, hpp, hps, rfl⟩ := pP0
    refine nG ?_
    have hst := stable_ins (vi := vint d₀) (xs := c0 :: r) (c0 := c0) (p := pp) (by rw [← hxl]; exact hpp) hps
    rw [← hxs'] at hst
    have hdat : DatAll tl (pp.map fun i => vs.getD i Value.none) (xs'.map (datOf d₀)) := by
      have h1 := datAll_pick O₁.dat pp fun i hi => List.mem_range.mp (hpp.mem_iff.mp hi)
      have h2 : (pp.map fun i => ((c0 :: r).map (datOf d₀)).getD i Dat.none) = xs'.map (datOf d₀) := by
        rw [← hst, List.map_map]
        refine List.map_congr_left fun i hi => ?_
        have : i < (c0 :: r).length := by rw [← hxl]; exact List.mem_range.mp (hpp.mem_iff.mp hi)
        simp only [Function.comp_def]
        rw [List.getD_eq_getElem?_getD, List.getD_eq_getElem?_getD, List.getElem?_map, List.getElem?_eq_getElem this]
        rfl
      rw [h2] at h1; exact h1
    obtain ⟨out, hout⟩ : ∃ out, out = pp.map fun i => vs.getD i Value.none := ⟨_, rfl⟩
    rw [← hout] at hdat N8
    clear hout hst
    refine name_tab N8 fun o9 e9 => ?_
    rw [← e9] at N8
    have S2 := St.push (S1 o9) (x := D) (o := PySem.W.listOf out.toArray cc) fun p hp => Nat.ne_of_lt (hD p (.tail _ (.tail _ (by rw [← e9]; exact hp))))
    have N9 : News h₀ L h8 ((D, PySem.W.listOf out.toArray cc) :: setAt 530 o9 news) := News.sub N8 fun p hp => by
      rcases List.mem_cons.mp hp with rfl | hp
      · exact .head _
      · exact .tail _ (.tail _ (.tail _ hp))
    obtain ⟨U2, hU2⟩ : ∃ U2, U2 = (D, PySem.W.listOf out.toArray cc) :: setAt 530 o9 U := ⟨_, rfl⟩
    obtain ⟨nx2, hnx2⟩ : ∃ nx2, nx2 = (D, PySem.W.listOf out.toArray cc) :: setAt 530 o9 news := ⟨_, rfl⟩
    rw [← hU2, ← hnx2] at S2
    rw [← hnx2] at N9
    have u1 : (L + 1, o1) ∈ U2 := by rw [hU2]; exact .tail _ (hcw2 o9)
    have u2 : (L + 1 + 1, o2) ∈ U2 := by rw [hU2]; exact .tail _ (hca2 o9)
    have u3 : (D, PySem.W.listOf out.toArray cc) ∈ U2 := by rw [hU2]; exact .head _
    have u4 : ∀ p ∈ tl, p ∈ U2 := fun p hp => by rw [hU2]; exact .tail _ (hmt2 o9 p hp)
    have u5' : (530, o9) ∈ U2 := by rw [hU2]; exact .tail _ (mem_setAt_eq O₁.tab)
    have u5 : ∃ ps, (530, tabObj ps) ∈ U2 := ⟨_, e9 ▸ u5'⟩
    clear N8 N' F' S1 key hcw2 hca2 hmt2 F N hU2 hnx2 hD
    refine byC fun nG => ?_
    obtain ⟨H2, C2⟩ := S2
    refine nG ?_
    have r1 := C2.own _ u1
    have r2 := C2.own _ u2
    have m1 := C2.iw
    have m2 := C2.dw
    have m3 := C2.st
    have gst := C2.gst
    have hso := C2.so
    have hkl := C2.klen
    k_steps
    unfold Hold
    have hlx' : xs'.length ≤ 6 := by rw [hpx.length_eq]; exact hx6
    have hval' : ∀ c ∈ xs', ∃ x t, d₀.vl c = .int x t := fun c hc => b.vi c (hsub' c hc)
    have hdat' : xs'.map (datOf d) = xs'.map (datOf d₀) := List.map_congr_left fun c hc => by unfold datOf; rw [M.vl c (hsub' c hc)]
    try k_fold
    refine' con_useS (row_st (d := d) (U := U2) (xs := xs') ok hvC hchC (fun c hc => by rw [M.hs]; exact hsub' c hc) (om239 hlx')) ?B ?F ?X ?N ?T ?hk ?hd ?hu ?pp ?_
    walk_at "use con top"
    case pp => exact ⟨_, C2⟩
    rintro r10 h10 tk10 nx10 F10 N10 pP0
    refine byC fun nG => ?_
    obtain ⟨rl10, tl10, e10, rfl, htl10, hfar10, A10⟩ := pP0
    refine nG ?_
    have A10' := A10.sub (U := U2) fun p hp => .tail _ (List.mem_append_right _ hp)
    k_steps
    unfold Hold
    have da10 := dat_row (news := tl10) xs' tl10 htl10 (fun c hc => by rw [M.vl c (hsub' c hc)]; exact .inl (hval' c hc)) fun p hp => hp
    rw [hdat'] at da10
    refine ne_same (ds := xs'.map (datOf d₀)) (by k_asm) (A10.elim fun H A => A.own _ (.head _)) da10 (fun p hp => A10.elim fun H A => A.own _ (.tail _ (List.mem_append_left _ hp))) (A10'.elim fun H A => A.own _ u3) hdat (fun p hp => A10'.elim fun H A => A.own _ (u4 p hp)) (fun e he => by
      refine byC fun nG => ?_
      obtain ⟨c, hc, rfl⟩ := List.mem_map.mp he
      refine nG ?_
      exact datOf_ok (.inl (hval' c hc))) (by exact Nat.le_of_ble_eq_true rfl) ?_
    have r1 := A10'.elim fun H A => A.own _ u1
    have r2 := A10'.elim fun H A => A.own _ u2
    have hmd : d.made = n + 1 := by rw [M.made, b.made, b.hlx, hn]
    refine byC fun nG => ?_
    obtain ⟨H10, C10⟩ := A10'
    refine nG ?_
    have m1 := C10.iw
    have m2 := C10.dw
    have gmd := C10.gmd
    rw [hmd] at gmd
    repeat' (first | (fail_if_success (with_reducible show wpAny _ _ (execs (Stmt.Assign [PySem.Expr.Name _ _] _ _ :: _) _) _ _ _)); first | (k_unfold; (try dsimp only)) | walk1 | (dsimp only; walk1))
    · exact absurd rfl (by assumption : n + 1 ≠ n + 1)
    · dsimp only
      exact rest nx10 _ _ D out cc U2 xs' hxs' ⟨_, C10⟩ u1 u2 u3 u4 u5 hdat (by k_asm) (by k_asm)
end
section
set_option maxRecDepth 100000
set_option maxHeartbeats 8000000
variable {fa : Addr}
variable {w : World} {S : Lay} {U : List (Addr × Obj)}
theorem Pl.set_set {d : Pl} {k : Str} {a b : Option Cell} : (d.set k a).set k b = d.set k b := by
  unfold Pl.set
  congr 1
  funext x
  by_cases h : x = k
  · simp [h]
  · simp [h]
theorem Chain.at {lk : Cell → Option Cell} : ∀ {xs : List Cell} {o : Option Cell}, Chain lk o xs → ∀ i c, xs[i]? = some c → lk c = xs[i + 1]?
  | _ :: [], _, ⟨_, h⟩, 0, c, hc => by
    simp at hc; subst hc
    exact (show _ = none from h)
  | _ :: y :: r, _, ⟨_, h⟩, 0, c, hc => by
    simp at hc; subst hc; simpa using h.1
  | _ :: r, _, ⟨_, h⟩, i + 1, c, hc => by simpa using Chain.at h i c (by simpa using hc)
  | [], _, _, i, c, hc => by simp at hc
theorem Chain.cut {lk : Cell → Option Cell} {o : Option Cell} {xs : List Cell} {c : Cell} {i : Nat} (h : Chain lk o xs) (hc : xs[i]? = some c) (hoff : ∀ x ∈ xs.take i, x.a ≠ c.a) : Chain (upd lk c none) o (xs.take (i + 1)) := by
  have e : xs = xs.take i ++ c :: xs.drop (i + 1) := by
    have hi : i < xs.length := (List.getElem?_eq_some_iff.mp hc).1
    have : xs.drop i = c :: xs.drop (i + 1) := by
      rw [List.drop_eq_getElem_cons hi]
      congr 1
      exact Option.some.inj ((List.getElem?_eq_getElem hi).symm.trans hc)
    rw [← this, List.take_append_drop]
  rw [e] at h
  rw [List.take_add_one, hc]
  exact Chain.relink h (fun x hx => if_neg (hoff x hx)) (by show (if c.a = c.a then none else lk c) = none; rw [if_pos rfl])
theorem name_2set {h₀ h : Heap} {L d e : Addr} {o o' : Obj} {r : List (Addr × Obj)} {G : Prop} (_ : News h₀ L h (setAt d o (setAt e o' r))) (k : ∀ x, x = setAt d o (setAt e o' r) → G) : G := k _ rfl
theorem StAt.out {d : Pl} {news : List (Addr × Obj)} {H : Hid} (A : StAt w S d U news H) {k : Str} (h : k ∉ names6) : d.vr k = none := by
  have := A.vars k
  cases e : d.vr k with
  | none => rfl
  | some o =>
    rw [e] at this
    obtain ⟨v, hv, _⟩ := this
    exact absurd (A.ksub k (valueAt_mem hv)) h
structure Cut (d₀ d : Pl) (xs : List Cell) (lf : Nat) : Prop where
  hs : d.hs = d₀.hs
  vl : ∀ c ∈ d₀.hs, d.vl c = d₀.vl c
  ch : ∃ o, d.vr (Str.ofString "C") = some o ∧ Chain d.lk o (xs.take lf)
  vo : ∀ k, k ≠ Str.ofString "C" → d.vr k = some none ∨ d.vr k = none
noncomputable def cutM (S : Lay) (rl : Addr) (u : Str → Option Value) (n : Int) (t : Tok) (D : Addr) (lf : Int) (lt : Tok) (ut : Option Value) (y : Str) : Option Value := if y = Str.ofString "turn" then ut else if y = Str.ofString "left" then some (.int lf lt) else dueM S rl u n t D y
theorem Pl.set_self {d : Pl} {k : Str} {o : Option Cell} (h : d.vr k = some o) : d.set k o = d := by
  unfold Pl.set
  have : (fun x => if x = k then some o else d.vr x) = d.vr := by
    funext x
    by_cases e : x = k
    · subst e; rw [if_pos rfl]; exact h.symm
    · rw [if_neg e]
  rw [this]
theorem cut_init {S : Lay} {rl D : Addr} {u : Str → Option Value} {n lf : Int} {t lt : Tok} : (fun y => if y = Str.ofString "left" then some (Value.int lf lt) else dueM S rl u n t D y) = cutM S rl u n t D lf lt (dueM S rl u n t D (Str.ofString "turn")) := by
  funext y
  unfold cutM
  by_cases h : y = Str.ofString "turn"
  · subst h
    rw [if_neg (by decide +kernel), if_pos rfl]
  · rw [if_neg h]
theorem cut_turn {S : Lay} {rl D : Addr} {u : Str → Option Value} {n lf : Int} {t lt : Tok} {a b : Option Value} : (fun y => if y = Str.ofString "turn" then a else cutM S rl u n t D lf lt b y) = cutM S rl u n t D lf lt a := by
  funext y
  unfold cutM
  by_cases h : y = Str.ofString "turn"
  · rw [if_pos h, if_pos h]
  · rw [if_neg h, if_neg h, if_neg h]
theorem law_cut {p : Program} {loose : List Str} {mean : ExcName → Option Value} {mg mb : Str → Option Value} {base h₀ hp : Heap} {L D : Addr} {m : Str → Option Value} {news : List (Addr × Obj)} {g : Array GenState} {dr : Drawn} {tk : Nat} {os : OsState} {Q : Flow → Shared → Prop} {E : Value → Shared → Prop} {d₀ d : Pl} {rl : Addr} {re : Nat} {u : Str → Option Value} {sc : Scope} {c0 : Cell} {r xs' : List Cell} {n : Int} {nt : Tok} {o1 o2 : Obj} (hcw : (L + 1, o1) ∈ U) (hcw' : o1.data = .cell (some (.ref S.wl))) (hca : (L + 1 + 1, o2) ∈ U) (hca' : o2.data = .cell (some (.ref S.aw))) (hsc : sc = scOf (KK w.params) 533)
    (ok : LayOk S) (B : Below callerA base [] h₀) (F : Fr h₀ L hp (dueM S rl u n nt D)) (X : (KK w.params).In h₀) (N : News h₀ L hp news) (T : Top p loose mean mg mb h₀) (hE : PassesOwn (model PySem.Challenge.rw_sa0599_01.row.prog w) (callerA.deeper (lawEnv sc L fa)) (lawEnv sc L fa) E)
    (hSt : St w S d U news) (b : Build d₀ 6 (c0 :: r)) (M : Late d₀ d (c0 :: r) (vint d₀) 30) (hn : n = (c0 :: r).length) (hxs' : xs' = (c0 :: r).foldl (ins (vint d₀)) [])
    (rest : ∀ nx h' tk' d' (lf : Nat) lt ut, 1 ≤ lf → lf ≤ xs'.length → St w S d' U nx → Cut d₀ d' xs' lf → Fr h₀ L h' (cutM S rl u n nt D lf lt ut) → News h₀ L h' nx → wpAny (model PySem.Challenge.rw_sa0599_01.row.prog w) (callerA.deeper (lawEnv sc L fa)) (execs ((bodyOf (KK w.params) 533).drop 19) (lawEnv sc L fa)) Q E ⟨h', g, dr, tk', os⟩) :
    wpAny (model PySem.Challenge.rw_sa0599_01.row.prog w) (callerA.deeper (lawEnv sc L fa)) (execs ((bodyOf (KK w.params) 533).drop 14) (lawEnv sc L fa)) Q E ⟨hp, g, dr, tk, os⟩ := by
  have hsc' := hsc
  k_fill
  have esc : scOf (KK w.params) 533 = ⟨.function, _, _, _, _⟩ := rfl
  rw [esc] at hsc
  subst hsc
  show wpAny _ _ (execs (_ :: _) _) _ _ _
  have hpx : xs'.Perm (c0 :: r) := by
    have := fold_perm (vi := vint d₀) (c0 :: r) []
    rw [← hxs'] at this; simpa using this
  have hsub' : ∀ c ∈ xs', c ∈ d.hs := fun c hc => by rw [M.hs]; exact b.sub c (hpx.mem_iff.mp hc)
  have hnd' : xs'.Nodup := hpx.nodup_iff.mpr b.nd
  have hlx' : n = xs'.length := by rw [hpx.length_eq]; exact hn
  have hl6 : xs'.length ≤ 6 := by rw [hpx.length_eq]; exact b.len
  have hl1 : 1 ≤ xs'.length := by rw [hpx.length_eq]; simp
  refine byC fun nG => ?_
  obtain ⟨oC, hvC, hchC⟩ := M.ch
  refine nG ?_
  rw [← hxs'] at hchC
  have r1 := hSt.elim fun H A => A.own _ hcw
  have r2 := hSt.elim fun H A => A.own _ hca
  k_steps
  unfold Hold
  try k_fold
  refine' con_useS (dipped_st (d := d) (U := U) ok (by have := M.t; exact om240 this) (om241 hn hlx' hl6 hl1) (om242 hn hlx' hl6 hl1)) ?B ?F ?X ?N ?T ?hk ?hd ?hu ?pp ?_
  walk_at "use con top"
  case pp => exact hSt
  rintro r3 h3 tk3 nx3 F₃ N₃ pP0
  refine byC fun nG => ?_
  obtain ⟨v, tv, rfl, v0, v1, H₃, A₃⟩ := pP0
  have r1 := A₃.own _ hcw
  have r2 := A₃.own _ hca
  have m1 := A₃.iw
  have m2 := A₃.dw
  have m3 := A₃.st
  have gst := A₃.gst
  have hso := A₃.so
  have hkl := A₃.klen
  obtain ⟨vC, hvv, hvl⟩ := A₃.var hvC
  refine nG ?_
  have n1 : L + 1 ≠ S.st := ne_ρ (A₃.rU _ hcw) A₃.rst (by decide)
  have n2 : L + 1 + 1 ≠ S.st := ne_ρ (A₃.rU _ hca) A₃.rst (by decide)
  have n3 := A₃.far.aw_st
  have n4 := A₃.far.dw_st
  repeat' (first | (fail_if_success (with_reducible show wpAny _ _ (execs (Stmt.For _ _ _ _ _ :: _) _) _ _ _)); first | (k_unfold; (try dsimp only)) | walk1 | (dsimp only; walk1))
  rename Obj.IsDictOf _ _ (stored (stored H₃.kvs _ _) _ _) => hz2
  rename Obj.IsDictOf _ _ (stored H₃.kvs _ _) => hz1
  have B1 := A₃.store (by decide +kernel) hvl (fun x hx => A₃.vin _ x (hvC.trans (congrArg some hx))) hz1
  have B2 := B1.store (by decide +kernel) (o := none) ⟨_, rfl⟩ (by intro y h; cases h) hz2
  rename News _ _ _ (setAt _ _ (setAt _ _ _)) => NF
  rename Fr _ _ _ _ => FF
  refine name_2set NF fun nxF enF => ?_
  rw [← enF] at NF
  have SF : St w S (((d.atT (d.t + 1)).set (Str.ofString "T") oC).set (Str.ofString "N") none) U nxF := by
    rw [enF]
    exact St.mono ⟨_, B2⟩ (setAt_sub (setAt_sub fun p hp => .tail _ hp))
  clear B1 B2 hz1 hz2 m1 m2 m3 gst hso hkl n1 n2 n3 n4 r1 r2
  obtain ⟨d2, hd2⟩ : ∃ d2, d2 = ((d.atT (d.t + 1)).set (Str.ofString "T") oC).set (Str.ofString "N") none := ⟨_, rfl⟩
  rw [← hd2] at SF
  have hs2 : d2.hs = d.hs := by rw [hd2]; rfl
  have vl2 : d2.vl = d.vl := by rw [hd2]; rfl
  have lk2 : d2.lk = d.lk := by rw [hd2]; rfl
  have vr2 : ∀ k, d2.vr k = if k = Str.ofString "N" then some none else if k = Str.ofString "T" then some oC else d.vr k := fun k => by rw [hd2]; rfl
  have h0 : xs'[0]? = oC := by
    cases hx : xs' with
    | nil => rw [hx] at hl1; simp at hl1
    | cons a q => rw [hx] at hchC; simpa using hchC.1.symm
  dsimp only
  iterate 1 (first | (k_unfold; (try dsimp only)) | walk1 | (dsimp only; walk1))
  refine For_cell h₀ ?_ (hE := hE)
  k_steps
  rename IsRange _ _ _ _ _ _ _ _ => hR
  rename Fr _ _ _ _ => FR
  rename News _ _ _ nxF => NR
  rw [cut_init] at FR
  dsimp only
  unfold Hold
  obtain ⟨cA, hcA⟩ : ∃ c, xs'[0]? = some c := ⟨_, List.getElem?_eq_getElem (om243 hn hlx' hl6 hl1)⟩
  have hT2 : d2.vr (Str.ofString "T") = some oC := by rw [vr2, if_neg (by decide +kernel), if_pos rfl]
  refine iter_range_S (n := (n - v - 1).toNat) (fun i m nx => ∃ u', m = cutM S rl u n nt D (n - v) tk3 u' ∧ ∃ c, xs'[i]? = some c ∧ St w S (d2.set (Str.ofString "T") (some c)) U nx) rfl hR (small_one (by omega) (by omega) (by omega) (by omega)) (by rw [rangeSize_nat]; congr 1; exact om244 hn hlx' v1) FR NR ⟨_, rfl, cA, hcA, ?_⟩ ?_ ?_
  · rw [Pl.set_self (by rw [hT2, ← h0, hcA])]; exact SF
  · rintro i u5 m₁ nx h1 tk1 own hi hoff pP0 F₁ N₁
    refine byC fun nG => ?_
    obtain ⟨u', rfl, c, hc, S5⟩ := pP0
    have A0 := S5.append hoff
    obtain ⟨H5, C5⟩ := A0
    refine nG ?_
    have r1 := C5.own _ (List.mem_append_left _ hcw)
    have r2 := C5.own _ (List.mem_append_left _ hca)
    have m1 := C5.iw
    have m2 := C5.dw
    have m3 := C5.st
    have gst := C5.gst
    have hso := C5.so
    have hkl := C5.klen
    have hcin : c ∈ xs' := List.mem_of_getElem? hc
    obtain ⟨c', hc'⟩ : ∃ c', xs'[i + 1]? = some c' := ⟨_, List.getElem?_eq_getElem (om245 hn hlx' v0 hi)⟩
    have hlk : d.lk c = some c' := (hchC.at i c hc).trans hc'
    k_steps
    unfold Hold
    try k_fold
    refine' con_useS (held_link (d := d2.set (Str.ofString "T") (some c)) (U := U ++ own) (c := c) ok Pl.set_eq) ?B ?F ?X ?N ?T ?hk ?hd ?hu ?pp ?_
    walk_at "use con top"
    case pp => exact ⟨_, C5⟩
    rintro r6 h6 tk6 nx6 F₆ N₆ pP0
    refine byC fun nG => ?_
    obtain ⟨hr6, rfl⟩ := pP0
    refine nG ?_
    have hr6' : IsL r6 (some c') := by
      have : (d2.set (Str.ofString "T") (some c)).lk c = some c' := by show d2.lk c = _; rw [lk2]; exact hlk
      rw [← this]; exact hr6
    k_steps
    rename Obj.IsDictOf _ _ (stored H5.kvs _ _) => hz
    have B5 := C5.store (by decide +kernel) hr6' (fun y hy => by injection hy with hy; subst hy; show _ ∈ d2.hs; rw [hs2]; exact hsub' _ (List.mem_of_getElem? hc')) hz
    rw [Pl.set_set] at B5
    obtain ⟨nf, A8, off8, sub8, own8⟩ := St.off ⟨_, B5⟩ (fun q hq p hp => by
      have hp' : p ∈ nx := S5.elim fun H A => A.own _ hp
      exact hoff q hq p.1 (List.mem_map.mpr ⟨p, hp', rfl⟩))
    rename Fr _ _ _ _ => FZ
    rename News _ _ _ _ => NZ
    rw [cut_turn] at FZ
    exact InvEndG.intro FZ NZ ⟨_, rfl, c', hc', A8⟩ off8 sub8 own8
  · rintro m₁ nx h1 tk1 pP0 F₁ N₁
    refine byC fun nG => ?_
    obtain ⟨u', rfl, c, hc, S5⟩ := pP0
    refine nG ?_
    have r1 := S5.elim fun H A => A.own _ hcw
    have r2 := S5.elim fun H A => A.own _ hca
    k_steps
    unfold Hold
    try k_fold
    refine' con_useS (led_st (d := d2.set (Str.ofString "T") (some c)) (U := U) (c := c) (o := none) ok Pl.set_eq (by rw [Pl.set_ne (by decide +kernel), vr2, if_pos rfl])) ?B ?F ?X ?N ?T ?hk ?hd ?hu ?pp ?_
    walk_at "use con top"
    case pp => exact S5
    rintro r6 h6 tk6 nx6 F₆ N₆ pP0
    refine byC fun nG => ?_
    obtain ⟨rfl, H6, C6⟩ := pP0
    refine nG ?_
    have r1 := C6.own _ hcw
    have r2 := C6.own _ hca
    have m1 := C6.iw
    have m2 := C6.dw
    have m3 := C6.st
    have gst := C6.gst
    have hso := C6.so
    have hkl := C6.klen
    repeat' (first | (fail_if_success (with_reducible show wpAny _ _ (execs (Stmt.If _ _ _ _ :: _) _) _ _ _)); first | (k_unfold; (try dsimp only)) | walk1 | (dsimp only; walk1))
    rename Obj.IsDictOf _ _ (stored H6.kvs _ _) => hz
    have B6 := C6.store (by decide +kernel) (o := none) ⟨_, rfl⟩ (by intro y h; cases h) hz
    have hlf : ((n - v).toNat : Int) = n - v := Int.toNat_of_nonneg (om246 hn hlx' v1)
    rename Fr _ _ _ _ => FZ
    rename News _ _ _ _ => NZ
    rw [← hlf] at FZ
    dsimp only
    have hvN : ∀ k, k ≠ Str.ofString "C" → d.vr k = some none ∨ d.vr k = none := fun k hk => by
      by_cases hn6 : k ∈ names6
      · simp only [names6, List.mem_cons, List.not_mem_nil, or_false] at hn6
        rcases hn6 with rfl | rfl | rfl | rfl | rfl | rfl
        · exact absurd rfl hk
        · exact .inl M.vD
        · exact .inl M.vT
        · exact M.vN
        · exact .inl M.vS
        · exact .inl M.vH
      · exact .inr (A₃.out hn6)
    refine rest _ _ _ _ (n - v).toNat _ _ (om247 hn hlx' v1 hlf) (om248 hn hlx' v0 hlf) ⟨_, B6⟩ { hs := ?_, vl := ?_, ch := ?_, vo := ?_ } FZ NZ
    · show d2.hs = d₀.hs
      rw [hs2, M.hs]
    · intro x hx
      show d2.vl x = d₀.vl x
      rw [vl2]; exact M.vl x hx
    · refine ⟨oC, ?_, ?_⟩
      · show (if Str.ofString "C" = Str.ofString "T" then some none else (if Str.ofString "C" = Str.ofString "T" then some (some c) else d2.vr (Str.ofString "C"))) = some oC
        rw [if_neg (by decide +kernel), if_neg (by decide +kernel), vr2, if_neg (by decide +kernel), if_neg (by decide +kernel)]
        exact hvC
      · show Chain (upd d2.lk c none) oC _
        rw [lk2, show (n - v).toNat = (n - v - 1).toNat + 1 by exact om249 hn hlx' v1 hlf]
        refine hchC.cut hc fun x hx q => ?_
        have hx' : x ∈ xs' := List.mem_of_mem_take hx
        have := C6.aa x (by show x ∈ d2.hs; rw [hs2]; exact hsub' x hx') c (by show c ∈ d2.hs; rw [hs2]; exact hsub' c (List.mem_of_getElem? hc)) q
        exact take_not hnd' hc (this ▸ hx)
    · intro k hk
      show (if k = Str.ofString "T" then some none else (if k = Str.ofString "T" then some (some c) else d2.vr k)) = some none ∨ (if k = Str.ofString "T" then some none else (if k = Str.ofString "T" then some (some c) else d2.vr k)) = none
      by_cases h1 : k = Str.ofString "T"
      · rw [if_pos h1]; exact .inl rfl
      · rw [if_neg h1, if_neg h1, vr2]
        by_cases h2 : k = Str.ofString "N"
        · rw [if_pos h2]; exact .inl rfl
        · rw [if_neg h2, if_neg h1]
          exact hvN k hk
end
section
set_option maxRecDepth 100000
theorem perm_unique' {α : Type} {r : α → α → Prop} (anti : ∀ a b, r a b → r b a → a = b) : ∀ {p q : List α}, p.Perm q → p.Pairwise r → q.Pairwise r → p = q
  | [], q, h, _, _ => h.symm.eq_nil ▸ rfl
  | a :: p, [], h, _, _ => by have := h.length_eq; simp at this
  | a :: p, b :: q, h, hp, hq => by
    have hp' := List.pairwise_cons.mp hp
    have hq' := List.pairwise_cons.mp hq
    have e : a = b := Classical.byContradiction fun e => by
      have h1 : a ∈ q := by
        have : a ∈ b :: q := h.mem_iff.mp (.head _)
        rcases List.mem_cons.mp this with h | h
        · exact absurd h e
        · exact h
      have h2 : b ∈ p := by
        have : b ∈ a :: p := h.mem_iff.mpr (.head _)
        rcases List.mem_cons.mp this with h | h
        · exact absurd h.symm e
        · exact h
      exact e (anti _ _ (hp'.1 b h2) (hq'.1 a h1))
    subst e
    rw [perm_unique' anti (List.Perm.cons_inv h) hp'.2 hq'.2]
theorem sorted_eq {p q : List Int} (h : p.Perm q) (hp : p.Pairwise (· ≤ ·)) (hq : q.Pairwise (· ≤ ·)) : p = q := perm_unique' (fun a b h1 h2 => Int.le_antisymm h1 h2) h hp hq
theorem perm_of {α : Type} : ∀ {l1 l2 : List α}, l1.Nodup → l2.Nodup → (∀ a, a ∈ l1 ↔ a ∈ l2) → l1.Perm l2
  | [], l2, _, _, h => by
    cases l2 with
    | nil => exact .refl _
    | cons a r => exact absurd ((h a).mpr (.head _)) (by simp)
  | a :: r, l2, n1, n2, h => by
    obtain ⟨s, t, rfl⟩ := List.append_of_mem ((h a).mp (.head _))
    have n1' := List.nodup_cons.mp n1
    have n2' : (a :: (s ++ t)).Nodup := (List.perm_middle.nodup_iff).mp n2
    have n2'' := List.nodup_cons.mp n2'
    refine (List.Perm.cons a (perm_of n1'.2 n2''.2 fun x => ?_)).trans List.perm_middle.symm
    constructor
    · intro hx
      have : x ∈ s ++ a :: t := (h x).mp (.tail _ hx)
      rcases List.mem_append.mp this with q | q
      · exact List.mem_append_left _ q
      · rcases List.mem_cons.mp q with rfl | q
        · exact absurd hx n1'.1
        · exact List.mem_append_right _ q
    · intro hx
      have : x ∈ a :: r := (h x).mpr (by
        rcases List.mem_append.mp hx with q | q
        · exact List.mem_append_left _ q
        · exact List.mem_append_right _ (.tail _ q))
      rcases List.mem_cons.mp this with rfl | q
      · exact absurd hx n2''.1
      · exact q
theorem Chain.next {lk : Cell → Option Cell} {ys : List Cell} {o : Option Cell} (h : Chain lk o ys) {x y : Cell} (hx : x ∈ ys) (hy : lk x = some y) : y ∈ ys := by
  obtain ⟨i, hi, rfl⟩ := List.getElem_of_mem hx
  have := h.at i _ (List.getElem?_eq_getElem hi)
  rw [hy] at this
  exact List.mem_of_getElem? this.symm
theorem Chain.first {lk : Cell → Option Cell} {ys : List Cell} {x : Cell} (h : Chain lk (some x) ys) : x ∈ ys := by
  cases ys with
  | nil => cases h
  | cons a r =>
    have := h.1
    injection this with this
    rw [this]; exact .head _
theorem Cut.rch {d₀ d : Pl} {xs' : List Cell} {lf : Nat} (M : Cut d₀ d xs' lf) (c : Cell) : Rch d c ↔ c ∈ xs'.take lf := by
  obtain ⟨o, ho, hch⟩ := M.ch
  constructor
  · intro h
    refine h (· ∈ xs'.take lf) (fun k x hk => ?_) fun x hx y hy => hch.next hx hy
    by_cases e : k = Str.ofString "C"
    · subst e
      rw [ho] at hk
      injection hk with hk
      subst hk
      exact hch.first
    · rcases M.vo k e with h | h <;> rw [h] at hk <;> cases hk
  · intro h
    exact Chain.rch hch (fun x hx => Rch.root (k := Str.ofString "C") (by rw [ho, hx])) c h
section
variable {d₀ d : Pl} {xs xs' : List Cell} {lf : Nat}
theorem cut_live (b : Build d₀ 6 xs) (M : Cut d₀ d xs' lf) (hpx : xs'.Perm xs) : (live d).Perm (xs'.take lf) ∧ (dead d).Perm (xs'.drop lf) := by
  have nd : xs'.Nodup := hpx.nodup_iff.mpr b.nd
  have nh : d.hs.Nodup := by rw [M.hs]; exact b.hnd
  have hm : ∀ c, c ∈ d.hs ↔ c ∈ xs' := fun c => by
    rw [M.hs, hpx.mem_iff]
    exact ⟨b.all c, b.sub c⟩
  have hs : (xs'.take lf ++ xs'.drop lf).Nodup := by rw [List.take_append_drop]; exact nd
  have hs' := List.nodup_append.mp hs
  constructor
  · refine perm_of (List.Sublist.nodup List.filter_sublist nh) hs'.1 fun c => ?_
    rw [mem_live, hm, M.rch]
    exact ⟨fun h => h.2, fun h => ⟨List.mem_of_mem_take h, h⟩⟩
  · refine perm_of (List.Sublist.nodup List.filter_sublist nh) hs'.2.1 fun c => ?_
    rw [mem_dead, hm, M.rch]
    constructor
    · rintro ⟨h1, h2⟩
      have : c ∈ xs'.take lf ++ xs'.drop lf := by rw [List.take_append_drop]; exact h1
      rcases List.mem_append.mp this with h | h
      · exact absurd h h2
      · exact h
    · intro h
      exact ⟨List.mem_of_mem_drop h, fun q => hs'.2.2 c q c h rfl⟩
theorem live_asc (b : Build d₀ 6 xs) (M : Cut d₀ d xs' lf) : ((live d).map (·.num)).Pairwise (· ≤ ·) := by
  have h1 : (d.hs.map (·.num)).Pairwise (· ≤ ·) := by
    rw [M.hs, b.asc]
    refine List.pairwise_map.mpr ?_
    exact (List.pairwise_lt_range (n := d₀.hs.length)).imp fun h => by exact om250 h
  exact List.Pairwise.sublist (List.Sublist.map _ List.filter_sublist) h1
end
end
section
set_option maxRecDepth 100000
set_option maxHeartbeats 8000000
variable {fa : Addr}
variable {w : World} {S : Lay} {U : List (Addr × Obj)}
theorem compP_loop {prog : Program} {w : World} {A : Around} {h₀ : Heap} {L : Addr} {m : Str → Option Value} {env : Env} {elt : Expr} {x x₂ : Str} {scope : Scope} {cl : List (Str × Addr)} {s : Shared} {S : List (Addr × Obj) → Prop} {P : Nat → Value → Prop}
    {Fin : List Value → List (Addr × Obj) → Prop} {n : Nat} {news : List (Addr × Obj)} (J : Nat → List Value → List (Addr × Obj) → Prop) (hJ : J 0 [] news)
    (step : ∀ i ys news v, i < n → J i ys news → P i v → ∃ (t : Addr) (ot : Obj) (v₁ v₂ : Value) (nt : Nat), v = .ref t ∧ (t, ot) ∈ news ∧ ot.cls = .type "tuple" ∧ ot.data = .seq #[v₁, v₂] nt ∧
      ∀ I oI C oC D m₂ h tk (E' : Value → Shared → Prop), LCg.NsObj oC m₂ → m₂ x = some v₁ → m₂ x₂ = some v₂ → Fr h₀ L h m → News h₀ L h ((I, oI) :: (C, oC) :: (D, LCg.lst ys) :: news) → LCg.Off3 I C D news → ((@Ne Nat I C) ∧ (@Ne Nat I D) ∧ (@Ne Nat C D)) →
      wpAny (model prog w) A (eval elt (compEnvC scope cl C env)) (CPost h₀ L m { s with heap := h, toks := tk } I oI C oC D (LCg.lst ys) S fun y news' => J (i + 1) (ys ++ [y]) news') E' { s with heap := h, toks := tk })
    (fin : ∀ ys news, J n ys news → Fin ys news) : LCp.CompRestP prog w A h₀ L m env elt x x₂ scope cl s S P Fin n 0 [] news := by
  have loop : ∀ k i ys news, i + k = n → J i ys news → LCp.CompRestP prog w A h₀ L m env elt x x₂ scope cl s S P Fin k i ys news := by
    intro k
    induction k with
    | zero => intro i ys news e hj; obtain rfl : i = n := by exact om8 e
              exact LCp.CompRestP.zero (fin ys news hj)
    | succ k ih =>
      intro i ys news e hj
      refine LCp.CompRestP.succ fun v hP => ?_
      refine byC fun nG => ?_
      obtain ⟨t, ot, v₁, v₂, nt, a1, a2, a3, a4, h⟩ := step i ys news v (om9 e) hj hP
      refine nG ?_
      refine ⟨t, ot, v₁, v₂, nt, a1, a2, a3, a4, fun I oI C oC D m₂ h' tk E' hC hx hx2 F N off ne => ?_⟩
      refine wpAny_mono (h I oI C oC D m₂ h' tk E' hC hx hx2 F N off ne) (fun y s₂ hq => ?_) fun _ _ e => e
      refine byC fun nG => ?_
      obtain ⟨h', tk', news', rfl, F', N', off', hS', hj'⟩ := hq
      refine nG ?_
      exact ⟨h', tk', news', rfl, F', N', off', hS', ih (i + 1) (ys ++ [y]) news' (om10 e) hj'⟩
  exact loop n 0 [] news (om11) hJ
theorem ints_dat {news : List (Addr × Obj)} : ∀ {vs : List Value} {ns : List Int}, IntsAre vs ns → DatAll news vs (ns.map Dat.int)
  | _, _, .nil => .nil
  | _, _, .cons n t r => .cons (.int n t) (ints_dat r)
theorem datAll_from {news : List (Addr × Obj)} {vs : List Value} {ds : List Dat} (h : DatAll news vs ds) : ∀ k, DatAll news (vs.drop k) (ds.drop k) := by
  intro k
  induction k generalizing vs ds with
  | zero => exact h
  | succ k ih =>
    cases h with
    | nil => simpa using DatAll.nil
    | cons a r => simpa using ih r
theorem datAll_upto {news : List (Addr × Obj)} {vs : List Value} {ds : List Dat} (h : DatAll news vs ds) : ∀ k, DatAll news (vs.take k) (ds.take k) := by
  intro k
  induction k generalizing vs ds with
  | zero => simpa using DatAll.nil
  | succ k ih =>
    cases h with
    | nil => simpa using DatAll.nil
    | cons a r => simpa using DatAll.cons a (ih r)
theorem pick_from {vs : List Value} {k : Nat} (h : k ≤ vs.length) : kms_pick vs.toArray.toList (some (k : Int)) none = vs.drop k := by
  have e1 : ¬ ((k : Nat) : Int) < 0 := by exact om251
  have e2 : (vs.drop k).take (vs.length - k) = vs.drop k := List.take_of_length_le (by simp)
  simp only [kms_pick, kms_lo, kms_hi, if_neg e1, List.toList_toArray, Int.toNat_natCast, Nat.min_eq_left h]
  exact e2
theorem pick_upto {vs : List Value} {k : Nat} (h : k ≤ vs.length) : kms_pick vs.toArray.toList none (some (k : Int)) = vs.take k := by
  have e1 : ¬ ((k : Nat) : Int) < 0 := by exact om251
  simp only [kms_pick, kms_lo, kms_hi, if_neg e1, List.toList_toArray, Int.toNat_natCast, Nat.min_eq_left h]
  simp
theorem row_at {d : Pl} {tl : List (Addr × Obj)} : ∀ {ys : List Cell} {vs : List Value}, DatAll tl vs (ys.map (datOf d)) → ∀ (i : Nat) (v : Value), vs[i]? = some v → ∃ c a x tn t, ys[i]? = some c ∧ v = .ref a ∧ (a, ({ cls := .type "tuple", data := .seq #[.int c.num t, x] tn } : Obj)) ∈ tl
  | [], vs, h, i, v, hv => by
    cases h
    simp at hv
  | c :: ys, vs, h, i, v, hv => by
    rw [List.map_cons] at h
    unfold datOf at h
    cases h with
    | cons hd hr =>
      cases i with
      | zero =>
        simp at hv
        subst hv
        cases hd with
        | tuple hm hall =>
          cases hall with
          | cons h1 hall =>
            cases hall with
            | cons h2 hall =>
              cases hall
              cases h1
              exact ⟨c, _, _, _, _, rfl, rfl, hm⟩
      | succ i =>
        obtain ⟨c', r⟩ := row_at (d := d) hr i v (by simpa using hv)
        exact ⟨c', by simpa using r⟩
end
local macro_rules | `(tactic| walk_at "eval ListComp") => `(tactic| (k_here; (with_reducible show wpAny _ _ (eval (PySem.Expr.ListComp _ [⟨PySem.Expr.Tuple _ _ _, _, [], _⟩] _ _) _) _ _ _); k_dflt (refine' LCp.ListComp_P (F₀ := ?F) ?a ?b ?c ?d ?e ?f ?g ?_; (case F => k_asm); (case a => with_unfolding_all rfl); (case b => decide); (case c => rfl); (case d => decide); (case e | f => rfl); (case g => decide))))
section
set_option maxRecDepth 100000
set_option maxHeartbeats 8000000
variable {fa : Addr}
variable {w : World} {S : Lay} {U : List (Addr × Obj)}
theorem law_end {p : Program} {loose : List Str} {mean : ExcName → Option Value} {mg mb : Str → Option Value} {base h₀ hp : Heap} {L D : Addr} {m : Str → Option Value} {news tl : List (Addr × Obj)} {g : Array GenState} {dr : Drawn} {tk : Nat} {os : OsState} {Q : Flow → Shared → Prop} {E : Value → Shared → Prop} {d₀ d : Pl} {rl : Addr} {cc lf : Nat} {u : Str → Option Value} {sc : Scope} {xs xs' : List Cell} {out : List Value} {n : Int} {nt lt : Tok} {ut : Option Value} {o1 o2 : Obj} (hcw : (L + 1, o1) ∈ U) (hcw' : o1.data = .cell (some (.ref S.wl))) (hca : (L + 1 + 1, o2) ∈ U) (hca' : o2.data = .cell (some (.ref S.aw))) (hsc : sc = scOf (KK w.params) 533)
    (ok : LayOk S) (B : Below callerA base [] h₀) (F : Fr h₀ L hp (cutM S rl u n nt D lf lt ut)) (X : (KK w.params).In h₀) (N : News h₀ L hp news) (T : Top p loose mean mg mb h₀) (hE : PassesOwn (model PySem.Challenge.rw_sa0599_01.row.prog w) (callerA.deeper (lawEnv sc L fa)) (lawEnv sc L fa) E)
    (hSt : St w S d U news) (b : Build d₀ 6 xs) (M : Cut d₀ d xs' lf) (hpx : xs'.Perm xs) (hlf : lf ≤ xs'.length) (hl1 : 1 ≤ lf) (hD : (D, PySem.W.listOf out.toArray cc) ∈ U) (htl : ∀ p ∈ tl, p ∈ U) (htab : ∃ ps, (530, tabObj ps) ∈ U) (hdat : DatAll tl out (xs'.map (datOf d₀)))
    (hret : ∀ h' tk' m' nx, Fr h₀ L h' m' → News h₀ L h' nx → (∃ ps, (530, tabObj ps) ∈ nx) → Q (.ret (.bool true)) ⟨h', g, dr, tk', os⟩) :
    wpAny (model PySem.Challenge.rw_sa0599_01.row.prog w) (callerA.deeper (lawEnv sc L fa)) (execs ((bodyOf (KK w.params) 533).drop 19) (lawEnv sc L fa)) Q E ⟨hp, g, dr, tk, os⟩ := by
  have hsc' := hsc
  k_fill
  have esc : scOf (KK w.params) 533 = ⟨.function, _, _, _, _⟩ := rfl
  rw [esc] at hsc
  subst hsc
  show wpAny _ _ (execs (_ :: _) _) _ _ _
  have r1 := hSt.elim fun H A => A.own _ hcw
  have r2 := hSt.elim fun H A => A.own _ hca
  have hol : out.length = xs'.length := by have := datAll_len hdat; simpa using this
  have hl6 : xs'.length ≤ 6 := by rw [hpx.length_eq]; exact b.len
  k_steps
  refine name1 (by with_reducible assumption) fun e e1 => ?_
  subst e1
  rename (∀ p ∈ news, p.1 < e) => le
  have A2 := hSt.push (x := e) (o := PySem.W.listOf #[] 0) fun p hp => Nat.ne_of_lt (le p hp)
  unfold Hold
  try k_fold
  refine' con_useS (collect_st (d := d) (U := (e, PySem.W.listOf #[] 0) :: U) (em := 0) ok (List.mem_cons_self ..)) ?B ?F ?X ?N ?T ?hk ?hd ?hu ?pp ?_
  walk_at "use con top"
  case pp => exact A2
  rintro r3 h3 tk3 nx3 F₃ N₃ pP0
  refine byC fun nG => ?_
  obtain ⟨g3, gs, ns, ge, rfl, hgs, hperm, hup, A3⟩ := pP0
  refine nG ?_
  have mg3 := A3.elim fun H A => A.own _ (.head _)
  have A3' := A3.sub (U := (g3, PySem.W.listOf gs.toArray ge) :: U) fun p hp => by
    rcases List.mem_cons.mp hp with rfl | hp
    · exact .head _
    · exact .tail _ (.tail _ hp)
  have r3 := A3'.elim fun H A => A.own _ (.tail _ hD)
  repeat' (first | (fail_if_success (with_reducible show wpAny _ _ (eval (Expr.ListComp _ _ _ _) _) _ _ _)); first | (k_unfold; (try dsimp only)) | walk1 | (dsimp only; walk1))
  k_steps
  unfold Hold
  refine' kms_slice_lit (zs := out.drop lf) ?F ?N ?l ?pp ?qq ?e ?_ ?ss ?tt ?zz
  case F => k_asm
  case N => k_asm
  case pp => kmk_part
  case qq => kmk_part
  case l => exact News.isList (by k_asm) r3
  case e => exact pick_from (om252 hlf hol)
  case ss => with_unfolding_all rfl
  case tt => kmk_pure
  case zz => rw [sizeLine_eq]; simp; exact om253 hol hl6
  intro D5 h5 F5 N5 l5
  refine byC fun nG => ?_
  obtain ⟨hlv, hdd⟩ := cut_live b M hpx
  refine nG ?_
  have tl5 : ∀ p ∈ tl, p ∈ (D5, PySem.W.listOf (List.drop lf out).toArray 0) :: nx3 := fun p hp => .tail _ (A3'.elim fun H A => A.own _ (.tail _ (htl p hp)))
  have hd5 : DatAll tl (out.drop lf) ((xs'.drop lf).map (datOf d₀)) := by rw [List.map_drop]; exact datAll_from hdat lf
  k_dflt (refine LCp.SrcLP.ledger (by rfl) (by k_asm) (by k_asm) (by exact .head _) ?hsz ?_)
  case hsz => rw [sizeLine_eq]; simp; exact om254 hl1 hol hl6
  intro g6
  refine compP_loop (fun i ys n1 => n1 = (D5, PySem.W.listOf (List.drop lf out).toArray 0) :: nx3 ∧ IntsAre ys (((xs'.drop lf).take i).map (·.num))) ⟨rfl, by simpa using IntsAre.nil⟩ ?_ ?_
  · rintro i ys n1 v hi pP0 hP
    refine byC fun nG => ?_
    obtain ⟨rfl, hy⟩ := pP0
    obtain ⟨c, a, x, tn, t, hc, rfl, hm⟩ := row_at hd5 i v (by simpa using hP)
    refine nG ?_
    refine ⟨a, _, .int c.num t, x, tn, rfl, tl5 _ hm, rfl, rfl, ?_⟩
    intro I oI C oC D m₂ h tk E' hC hx hx2 F7 N7 off ne
    have hys : ((xs'.drop lf).take (i + 1)).map (·.num) = ((xs'.drop lf).take i).map (·.num) ++ [c.num] := by rw [List.take_add_one, hc]; simp
    k_steps
    exact CPost.intro (by k_asm) (by k_asm) (by assumption) (.inr ⟨_, .head _, rfl, _, rfl⟩) ⟨rfl, by rw [hys]; exact ints_snoc hy⟩
  · rintro ys n1 pP0
    refine byC fun nG => ?_
    obtain ⟨rfl, hy⟩ := pP0
    refine nG ?_
    rw [show (xs'.drop lf).take (List.drop lf out).toArray.size = xs'.drop lf by rw [List.take_of_length_le]; simp; exact om255 hlf hol] at hy
    k_steps
    refine name1 (by with_reducible assumption) fun D6 q6 => ?_
    subst q6
    unfold Hold
    refine kso_sorted (vs := ys) (by k_asm) (by k_asm) (News.isList (by k_asm) (by exact .head _)) hy (by simp; exact om256 hlf hl1 hol hl6) ?_
    intro D7 vs7 ns7 c7 h7 F7 N7 l7 i7 e7 p7 o7 b7
    have hnn : ns = ns7 := sorted_eq (hperm.trans ((hdd.map _).trans p7.symm)) hup o7
    k_steps
    unfold Hold
    refine ne_same (n₁ := []) (n₂ := []) (ds := ns.map Dat.int) (by k_asm) (.tail _ (.tail _ (.tail _ mg3))) (ints_dat hgs) (fun _ h => nomatch h) (.head _) (by rw [hnn]; exact ints_dat i7) (fun _ h => nomatch h) (fun e he => by
      refine byC fun nG => ?_
      obtain ⟨z, -, rfl⟩ := List.mem_map.mp he
      refine nG ?_
      rfl) (by exact Nat.le_of_ble_eq_true rfl) ?_
    have r1 := A3'.elim fun H A => A.own _ (.tail _ hcw)
    have r2 := A3'.elim fun H A => A.own _ (.tail _ hca)
    k_steps
    refine byC fun nG => ?_
    obtain ⟨oC, hvC, hchC⟩ := M.ch
    refine nG ?_
    have hsubL : ∀ c ∈ xs'.take lf, c ∈ live d := fun c hc => hlv.mem_iff.mpr hc
    have A9 := (A3'.sub (U := U) fun p hp => .tail _ hp)
    unfold Hold
    try k_fold
    refine' con_useS (row_st (d := d.only (live d)) (U := U) (xs := xs'.take lf) ok hvC hchC hsubL (by rw [List.length_take]; omega)) ?B ?F ?X ?N ?T ?hk ?hd ?hu ?pp ?_
    walk_at "use con top"
    case pp => exact A9.mono fun p hp => .tail _ (.tail _ (.tail _ hp))
    rintro r10 h10 tk10 nx10 F10 N10 pP0
    refine byC fun nG => ?_
    obtain ⟨rl10, tl10, e10, rfl, htl10, hfar10, A10⟩ := pP0
    refine nG ?_
    have A10' := A10.sub (U := U) fun p hp => .tail _ (List.mem_append_right _ hp)
    have r3 := A10'.elim fun H A => A.own _ hD
    have dhs : ∀ c ∈ xs', c ∈ d₀.hs := fun c hc => b.sub c (hpx.mem_iff.mp hc)
    have hvl0 : ∀ c ∈ xs'.take lf, (d.only (live d)).vl c = d₀.vl c := fun c hc => M.vl c (dhs c (List.mem_of_mem_take hc))
    k_steps
    unfold Hold
    refine' kms_slice_lit (zs := out.take lf) ?F ?N ?l ?pp ?qq ?e ?_ ?ss ?tt ?zz
    case F => k_asm
    case N => k_asm
    case pp => kmk_part
    case qq => kmk_part
    case l => exact News.isList (by k_asm) r3
    case e => exact pick_upto (om252 hlf hol)
    case ss => with_unfolding_all rfl
    case tt => kmk_pure
    case zz => rw [sizeLine_eq]; simp; exact om253 hol hl6
    intro D11 h11 F11 N11 l11
    k_steps
    unfold Hold
    have hd11 : DatAll tl (out.take lf) ((xs'.take lf).map (datOf d₀)) := by rw [List.map_take]; exact datAll_upto hdat lf
    have ed11 : (xs'.take lf).map (datOf (d.only (live d))) = (xs'.take lf).map (datOf d₀) := List.map_congr_left fun c hc => by unfold datOf; rw [hvl0 c hc]
    have da10 := dat_row (news := tl10) (xs'.take lf) tl10 htl10 (fun c hc => by rw [hvl0 c hc]; exact .inl (b.vi c (dhs c (List.mem_of_mem_take hc)))) fun p hp => hp
    rw [ed11] at da10
    have tl11 : ∀ p ∈ tl, p ∈ (D11, PySem.W.listOf (List.take lf out).toArray 0) :: nx10 := fun p hp => .tail _ (A10'.elim fun H A => A.own _ (htl p hp))
    refine eq_same (ds := (xs'.take lf).map (datOf d₀)) (by k_asm) (.tail _ (A10.elim fun H A => A.own _ (.head _))) da10 (fun p hp => .tail _ (A10.elim fun H A => A.own _ (.tail _ (List.mem_append_left _ hp)))) (.head _) hd11 tl11 (fun e he => by
      refine byC fun nG => ?_
      obtain ⟨c, hc, rfl⟩ := List.mem_map.mp he
      refine nG ?_
      exact datOf_ok (.inl (b.vi c (dhs c (List.mem_of_mem_take hc))))) (by exact Nat.le_of_ble_eq_true rfl) ?_
    refine byC fun nG => ?_
    obtain ⟨H10, C10⟩ := A10'
    obtain ⟨pstab, htab⟩ := htab
    refine nG ?_
    have r1 := C10.own _ hcw
    have r2 := C10.own _ hca
    have m1 := C10.iw
    have m2 := C10.dw
    have ghl := C10.ghl
    have mhl : (H10.hl, PySem.W.listOf ((live d).map fun c => Value.ref c.a).toArray H10.hn) ∈ nx10 := C10.hl
    have hll : (live d).length ≤ 6 := by rw [hlv.length_eq, List.length_take]; omega
    k_steps
    k_dflt (refine LCg.CompSrc.ledger (by rfl) (by k_asm) (by k_asm) (by exact .tail _ mhl) ?hsz2 ?_)
    case hsz2 => rw [sizeLine_eq]; simp; exact om97 hll
    intro g12
    refine comp_loop (fun i ys n1 => n1 = (D11, PySem.W.listOf (List.take lf out).toArray 0) :: nx10 ∧ IntsAre ys (((live d).take i).map (·.num))) ⟨rfl, by simpa using IntsAre.nil⟩ ?_ ?_
    · rintro i ys n1 v I oI C oC D' m₂ h tk E' hi pP0 hP hC hx F7 N7 off ne
      refine byC fun nG => ?_
      obtain ⟨rfl, hy⟩ := pP0
      obtain ⟨c, hci, rfl⟩ := at_ref hP
      have hc : c ∈ live d := List.mem_of_getElem? hci
      obtain ⟨kk, mtk, ve, q1, q2, q3⟩ := C10.cells c hc
      refine nG ?_
      unfold cellEs at q2
      have hys : ((live d).take (i + 1)).map (·.num) = ((live d).take i).map (·.num) ++ [c.num] := by rw [List.take_add_one, hci]; simp
      k_steps
      exact CPost.intro (by k_asm) (by k_asm) (by assumption) (.inr ⟨_, .tail _ mhl, rfl, _, rfl⟩) ⟨rfl, by rw [hys]; exact ints_snoc hy⟩
    · rintro ys n1 pP0
      refine byC fun nG => ?_
      obtain ⟨rfl, hy2⟩ := pP0
      refine nG ?_
      rw [show (live d).take ((live d).map fun c => Value.ref c.a).toArray.size = live d by simp] at hy2
      k_steps
      refine name1 (by with_reducible assumption) fun D13 q13 => ?_
      subst q13
      unfold Hold
      refine' kms_slice_lit (zs := out.take lf) ?F ?N ?l ?pp ?qq ?e ?_ ?ss ?tt ?zz
      case F => k_asm
      case N => k_asm
      case pp => kmk_part
      case qq => kmk_part
      case l => exact News.isList (by k_asm) (.tail _ (.tail _ r3))
      case e => exact pick_upto (om252 hlf hol)
      case ss => with_unfolding_all rfl
      case tt => kmk_pure
      case zz => rw [sizeLine_eq]; simp; exact om253 hol hl6
      intro D14 h14 F14 N14 l14
      k_dflt (refine LCg.CompSrc.ledger (by rfl) (by k_asm) (by k_asm) (by exact .head _) ?hsz3 ?_)
      case hsz3 => rw [sizeLine_eq]; simp; omega
      intro g15
      refine name3 N14 fun _ l13 l12 _ q13 q12 => ?_
      refine comp_loop (fun i zs n1 => n1 = (D14, PySem.W.listOf (List.take lf out).toArray 0) :: (D13, LCg.lst ys) :: (D11, PySem.W.listOf (List.take lf out).toArray 0) :: nx10 ∧ IntsAre zs (((xs'.take lf).take i).map (·.num))) ⟨rfl, by simpa using IntsAre.nil⟩ ?_ ?_
      · rintro i zs n1 v I oI C oC D' m₂ h tk E' hi pP0 hP hC hx F7 N7 off ne
        refine byC fun nG => ?_
        obtain ⟨rfl, hy⟩ := pP0
        obtain ⟨c, a, x, tn, t, hc, rfl, hm⟩ := row_at hd11 i v (by simpa using hP)
        refine nG ?_
        have hm' := tl11 _ hm
        have hys : ((xs'.take lf).take (i + 1)).map (·.num) = ((xs'.take lf).take i).map (·.num) ++ [c.num] := by rw [List.take_add_one, hc]; simp
        k_steps
        exact CPost.intro (by k_asm) (by k_asm) (by assumption) (.inr ⟨_, .head _, rfl, _, rfl⟩) ⟨rfl, by rw [hys]; exact ints_snoc hy⟩
      · rintro zs n1 pP0
        refine byC fun nG => ?_
        obtain ⟨rfl, hy3⟩ := pP0
        refine nG ?_
        rw [show (xs'.take lf).take (List.take lf out).toArray.size = xs'.take lf by rw [List.take_of_length_le]; simp; omega] at hy3
        k_steps
        unfold Hold
        refine kso_sorted (vs := zs) (by k_asm) (by k_asm) (News.isList (by k_asm) (by exact .head _)) hy3 (by simp; omega) ?_
        intro D17 vs17 ns17 c17 h17 F17 N17 l17 i17 e17 p17 o17 b17
        have hnn2 : (live d).map (·.num) = ns17 := sorted_eq ((hlv.map _).trans p17.symm) (live_asc b M) o17
        k_steps
        unfold Hold
        refine eq_same (n₁ := []) (n₂ := []) (ds := ((live d).map (·.num)).map Dat.int) (xs := ys) (ka := ys.length) (by k_asm) (.tail _ (.tail _ (.tail _ (.head _)))) (ints_dat hy2) (fun _ h => nomatch h) (.head _) (by rw [hnn2]; exact ints_dat i17) (fun _ h => nomatch h) (fun e he => by
          refine byC fun nG => ?_
          obtain ⟨z, -, rfl⟩ := List.mem_map.mp he
          refine nG ?_
          rfl) (by exact Nat.le_of_ble_eq_true rfl) ?_
        k_steps
        have t10 := C10.own _ htab
        exact hret _ _ _ _ (by k_asm) (by k_asm) ⟨_, by k_mem⟩
end
section
set_option maxRecDepth 100000
set_option maxHeartbeats 8000000
variable {fa : Addr}
variable {w : World} {S : Lay} {U : List (Addr × Obj)}
theorem off_three {a b wl dw x : Nat} (h1 : a < dw) (h2 : b < dw) (h3 : wl < dw) (h : dw ≤ x) : x ≠ a ∧ x ≠ b ∧ x ≠ wl := by exact om257 h1 h2 h3 h
theorem st_sys {st : Addr} (h : 530 < st) : (st == sysModules) = false := by
  rw [beq_eq_false_iff_ne]
  intro q
  subst q
  exact absurd h (by decide)
theorem name_st0 {h₀ h : Heap} {L lo lc lb la c1 c2 t r : Addr} {xo xc xb xa o1 o2 ot orr : Obj} {rest : List (Addr × Obj)} {G : Prop} (_ : News h₀ L h ((lo, xo) :: (lc, xc) :: (lb, xb) :: (la, xa) :: setAt c2 o2 (setAt c1 o1 ((t, ot) :: (r, orr) :: rest)))) (k : ∀ a b c d e f g q, a = lo → b = lc → c = lb → d = la → e = o2 → f = o1 → g = r → q = t → G) : G := k _ _ _ _ _ _ _ _ rfl rfl rfl rfl rfl rfl rfl rfl
theorem name_map {h₀ h : Heap} {L : Addr} {m : Str → Option Value} {G : Prop} (_ : Fr h₀ L h m) (k : ∀ x, x = m → G) : G := k _ rfl
noncomputable def rho0 (aw dw st hl fl wl ac : Nat) (a : Nat) : Nat := if a = aw then 1 else if a = dw then 2 else if a = st then 3 else if a = hl then 4 else if a = fl then 5 else if a = wl then 6 else if a = ac then 7 else 0
theorem rho0_all {aw dw st hl fl wl ac rl : Nat} (h1 : ac < wl) (h2 : wl < dw) (h3 : dw < aw) (h4 : aw < st) (h5 : st < hl) (h6 : hl < rl) (h7 : rl < fl) :
    rho0 aw dw st hl fl wl ac aw = 1 ∧ rho0 aw dw st hl fl wl ac dw = 2 ∧ rho0 aw dw st hl fl wl ac st = 3 ∧ rho0 aw dw st hl fl wl ac hl = 4 ∧ rho0 aw dw st hl fl wl ac fl = 5 ∧ rho0 aw dw st hl fl wl ac wl = 6 ∧ rho0 aw dw st hl fl wl ac ac = 7 ∧ rho0 aw dw st hl fl wl ac rl = 0 ∧ ∀ c, c < ac → rho0 aw dw st hl fl wl ac c = 0 := by
  unfold rho0
  refine ⟨if_pos rfl, ?_, ?_, ?_, ?_, ?_, ?_, ?_, fun c hc => ?_⟩
  · rw [if_neg (om258 h3), if_pos rfl]
  · rw [if_neg (om259 h4), if_neg (om260 h3 h4), if_pos rfl]
  · rw [if_neg (om260 h4 h5), if_neg (om261 h3 h4 h5), if_neg (om259 h5), if_pos rfl]
  · rw [if_neg (om262 h4 h5 h6 h7), if_neg (om263 h3 h4 h5 h6 h7), if_neg (om261 h5 h6 h7), if_neg (om260 h6 h7), if_pos rfl]
  · rw [if_neg (om264 h2 h3), if_neg (om258 h2), if_neg (om265 h2 h3 h4), if_neg (om266 h2 h3 h4 h5), if_neg (om267 h2 h3 h4 h5 h6 h7), if_pos rfl]
  · rw [if_neg (om265 h1 h2 h3), if_neg (om264 h1 h2), if_neg (om266 h1 h2 h3 h4), if_neg (om268 h1 h2 h3 h4 h5), if_neg (om269 h1 h2 h3 h4 h5 h6 h7), if_neg (om258 h1), if_pos rfl]
  · rw [if_neg (om261 h4 h5 h6), if_neg (om262 h3 h4 h5 h6), if_neg (om260 h5 h6), if_neg (om259 h6), if_neg (om258 h7), if_neg (om263 h2 h3 h4 h5 h6), if_neg (om270 h1 h2 h3 h4 h5 h6)]
  · rw [if_neg (om271 h1 h2 h3 hc), if_neg (om272 h1 h2 hc), if_neg (om273 h1 h2 h3 h4 hc), if_neg (om274 h1 h2 h3 h4 h5 hc), if_neg (om275 h1 h2 h3 h4 h5 h6 h7 hc), if_neg (om276 h1 hc), if_neg (om258 hc)]
theorem name_led {h₀ h : Heap} {L : Addr} {l : List (Addr × Obj)} {G : Prop} (_ : News h₀ L h l) (k : ∀ x, x = l → G) : G := k _ rfl
theorem name_tok {h₀ h : Heap} {L a b : Addr} {t : Tok} {n : Nat} {r : List (Addr × Obj)} {G : Prop} (_ : News h₀ L h ((a, PySem.W.listOf #[.ref b, .int 0 t] n) :: r)) (k : ∀ t', t' = t → G) : G := k _ rfl
theorem ints_take : ∀ {vs : List Value} {ns : List Int}, IntsAre vs ns → ∀ k, IntsAre (vs.take k) (ns.take k)
  | _, _, .nil, k => by simpa using IntsAre.nil
  | _, _, .cons n t r, 0 => .nil
  | _, _, .cons n t r, k + 1 => .cons n t (ints_take r k)
/-- what one of the three lists of fields is -/
structure FieldsAre (x : Addr) (fvs : List Value) (ys : List Str) : Prop where
  hstr : StrsAre fvs ys
  val : Str.ofString "VALUE" ∈ ys
  link : Str.ofString "LINK" ∈ ys
  other : Str.ofString "OTHER" ∉ ys
  nd : ys.Nodup
  len : ys.length ≤ 3
theorem fields_a {x : Addr} {t1 t2 : Tok} : FieldsAre x [.str (Str.ofString "VALUE") t1, .str (Str.ofString "LINK") t2] [Str.ofString "VALUE", Str.ofString "LINK"] := ⟨.cons _ _ (.cons _ _ .nil), by decide +kernel, by decide +kernel, by decide +kernel, by decide +kernel, by decide⟩
theorem fields_b {x : Addr} {t1 t2 : Tok} : FieldsAre x [.str (Str.ofString "LINK") t1, .str (Str.ofString "VALUE") t2] [Str.ofString "LINK", Str.ofString "VALUE"] := ⟨.cons _ _ (.cons _ _ .nil), by decide +kernel, by decide +kernel, by decide +kernel, by decide +kernel, by decide⟩
theorem fields_c {x : Addr} {t1 t2 t3 : Tok} : FieldsAre x [.str (Str.ofString "LINK") t1, .str (Str.ofString "MARK") t2, .str (Str.ofString "VALUE") t3] [Str.ofString "LINK", Str.ofString "MARK", Str.ofString "VALUE"] := ⟨.cons _ _ (.cons _ _ (.cons _ _ .nil)), by decide +kernel, by decide +kernel, by decide +kernel, by decide +kernel, by decide⟩
theorem law_top {p : Program} {loose : List Str} {mean : ExcName → Option Value} {mg mb : Str → Option Value} {base h₀ hp : Heap} {L sl : Addr} {m : Str → Option Value} {g : Array GenState} {dr : Drawn} {tk : Nat} {os : OsState} {Q : Flow → Shared → Prop} {E : Value → Shared → Prop} {sc : Scope} {vs : List Value} {ns : List Int} {oW oA oN oV : Obj} (hsc : sc = scOf (KK w.params) 533)
    (B : Below callerA base [] h₀) (F : Fr h₀ L hp (fun y => if y = Str.ofString "script" then some (.ref sl) else m y)) (X : (KK w.params).In h₀) (N : News h₀ L hp [(L + 1 + 1 + 1 + 1, oV), (L + 1 + 1 + 1, oN), (L + 1 + 1, oA), (L + 1, oW), (530, tabObj #[])]) (T : Top p loose mean mg mb h₀) (hE : PassesOwn (model PySem.Challenge.rw_sa0599_01.row.prog w) (callerA.deeper (lawEnv sc L fa)) (lawEnv sc L fa) E) (C : CodeHd h₀ 532 530)
    (hw : ∃ v, oW.data = .cell v) (ha : ∃ v, oA.data = .cell v) (hn : ∃ v, oN.data = .cell v) (hv : ∃ v, oV.data = .cell v) (hL : 530 < L) (hl : h₀.IsList sl vs.toArray) (hi : IntsAre vs ns) (hlen : ns.length ≤ 63)
    (hret : ∀ h' tk' m' nx, Fr h₀ L h' m' → News h₀ L h' nx → (∃ ps, (530, tabObj ps) ∈ nx) → Q (.ret (.bool true)) ⟨h', g, dr, tk', os⟩) :
    wpAny (model PySem.Challenge.rw_sa0599_01.row.prog w) (callerA.deeper (lawEnv sc L fa)) (execs (bodyOf (KK w.params) 533) (lawEnv sc L fa)) Q E ⟨hp, g, dr, tk, os⟩ := by
  have hsc' := hsc
  k_fill
  have esc : scOf (KK w.params) 533 = ⟨.function, _, _, _, _⟩ := rfl
  rw [esc] at hsc
  subst hsc
  show wpAny _ _ (execs (_ :: _) _) _ _ _
  refine byC fun nG => ?_
  obtain ⟨vw, hvw⟩ := hw
  obtain ⟨va, hva⟩ := ha
  obtain ⟨vn, hvn⟩ := hn
  obtain ⟨vv, hvv⟩ := hv
  refine nG ?_
  have hvl : vs.length = ns.length := hi.length
  k_steps
  unfold Hold
  refine' kms_slice_lit (zs := vs.take 48) ?F ?N ?l ?pp ?qq ?e ?_ ?ss ?tt ?zz
  case F => k_asm
  case N => k_asm
  case pp => kmk_part
  case qq => kmk_part
  case l => exact hl.at fun o e => F.keep _ _ e
  case e =>
    simp only [kms_pick, kms_lo, kms_hi, List.toList_toArray]
    simp
  case ss => with_unfolding_all rfl
  case tt => kmk_pure
  case zz => rw [sizeLine_eq]; simp; exact om277 hlen hvl
  intro D1 h1 F1 N1 l1
  k_steps
  refine name1 (by with_reducible assumption) fun wl q1 => ?_
  subst q1
  rename D1 < wl ∧ _ => lw
  rename News _ _ _ ((wl, _) :: _) => NW
  refine name_tok NW fun tw qtw => ?_
  rw [← qtw] at NW
  unfold Hold
  try k_fold
  refine' con_useS (world_made) ?B ?F ?X ?N ?T ?hk ?hd ?hu ?pp ?_
  walk_at "use con top"
  case pp => exact trivial
  rintro r2 h2 tk2 nx2 F2 N2 pP0
  refine byC fun nG => ?_
  obtain ⟨aw, dw, st, hlA, wes, wn, so, mt, rfl, W⟩ := pP0
  refine nG ?_
  have s1 := W.sub _ (.tail _ (.tail _ (.tail _ (.tail _ (.tail _ (.head _))))))
  have s2 := W.sub _ (.tail _ (.tail _ (.tail _ (.tail _ (.head _)))))
  have n1 := na13 L
  have n12 : L + 1 ≠ L + 1 + 1 := by intro q; exact absurd (show (L : Nat) + 1 = L + 1 + 1 from q) (Nat.ne_of_lt (Nat.lt_succ_self _))
  have n21 := n12.symm
  k_steps
  rename Fr _ _ _ _ => FZ
  rename News _ _ _ ((_, _) :: (_, _) :: (_, _) :: (_, _) :: setAt _ _ _) => NZ
  refine name_st0 NZ fun lo lc lb la oA' oW' rl tT q1 q2 q3 q4 q5 q6 q7 q8 => ?_
  subst q1 q2 q3 q4 q5 q6 q7 q8
  have crl : ∀ p ∈ nx2, p.1 < rl := by assumption
  refine name_led NZ fun Z0 eZ0 => ?_
  obtain ⟨ta, tb, za⟩ : ∃ t1 t2, (la, PySem.W.listOf (List.toArray [.str (Str.ofString "VALUE") t1, .str (Str.ofString "LINK") t2]) 0) ∈ Z0 := by rw [eZ0]; exact ⟨_, _, .tail _ (.tail _ (.tail _ (.head _)))⟩
  obtain ⟨tc, td, zb⟩ : ∃ t1 t2, (lb, PySem.W.listOf (List.toArray [.str (Str.ofString "LINK") t1, .str (Str.ofString "VALUE") t2]) 0) ∈ Z0 := by rw [eZ0]; exact ⟨_, _, .tail _ (.tail _ (.head _))⟩
  obtain ⟨te, tf, tg, zc⟩ : ∃ t1 t2 t3, (lc, PySem.W.listOf (List.toArray [.str (Str.ofString "LINK") t1, .str (Str.ofString "MARK") t2, .str (Str.ofString "VALUE") t3]) 0) ∈ Z0 := by rw [eZ0]; exact ⟨_, _, _, .tail _ (.head _)⟩
  rename (∀ p ∈ setAt (L + 1 + 1) oA' _, p.1 < la) => cla
  rename la < lb ∧ _ => clb
  rename lb < lc ∧ la < lc ∧ _ => clc
  have mwl : (wl, PySem.W.listOf #[.ref D1, .int 0 tw] 0) ∈ nx2 := W.sub _ (.head _)
  have mD1 := W.sub _ (.tail _ (.head _))
  have w1 : wl ≠ L + 1 := Nat.ne_of_gt lw.2.2.2.2.1
  have w2 : wl ≠ L + 1 + 1 := Nat.ne_of_gt lw.2.2.2.1
  have keep : ∀ {a : Addr} {o : Obj}, (a, o) ∈ nx2 → a ≠ L + 1 → a ≠ L + 1 + 1 → ∀ oT, (a, o) ∈ setAt (L + 1 + 1) oA' (setAt (L + 1) oW' ((tT, oT) :: (rl, PySem.W.listOf #[] 0) :: nx2)) := fun h1 h2 h3 oT => mem_setAt_ne (mem_setAt_ne (.tail _ (.tail _ h1)) h2) h3
  have d1 : D1 ≠ L + 1 := Nat.ne_of_gt (l1 _ (.tail _ (.tail _ (.tail _ (.head _)))))
  have d2 : D1 ≠ L + 1 + 1 := Nat.ne_of_gt (l1 _ (.tail _ (.tail _ (.head _))))
  unfold Hold
  try k_fold
  refine' con_useS (dipped (aw := wl) (ac := D1) (vs := vs.take 48) (ns := ns.take 48) (t := 0) (tk := tw) (e := 0) (e' := 0) (ints_take hi 48) (by simp; omega) (om278) (om279) (om280) (om281)) ?B ?F ?X ?N ?T ?hk ?hd ?hu ?pp ?_
  walk_at "use con top"
  case pp => exact ⟨.tail _ (.tail _ (.tail _ (.tail _ (keep mwl w1 w2 _)))), .tail _ (.tail _ (.tail _ (.tail _ (keep mD1 d1 d2 _)))), Nat.ne_of_gt lw.1⟩
  rintro r5 h5 tk5 nx5 F5 N5 pP0
  refine byC fun nG => ?_
  obtain ⟨v, tv, tw', rfl, v0, v1, rfl⟩ := pP0
  refine nG ?_
  obtain ⟨x, fvs, ys, hget, hxm, hxa, hfa⟩ : ∃ x fvs ys, #[Value.ref la, Value.ref lb, Value.ref lc][v.toNat]? = some (.ref x) ∧ (x, PySem.W.listOf (List.toArray fvs) 0) ∈ Z0 ∧ (x = la ∨ x = lb ∨ x = lc) ∧ FieldsAre x fvs ys := by
    obtain rfl | rfl | rfl : v = 0 ∨ v = 1 ∨ v = 2 := by exact om282 v0 v1
    · exact ⟨la, _, _, rfl, za, .inl rfl, fields_a⟩
    · exact ⟨lb, _, _, rfl, zb, .inr (.inl rfl), fields_b⟩
    · exact ⟨lc, _, _, rfl, zc, .inr (.inr rfl), fields_c⟩
  rename lc < lo ∧ _ => clo
  have hwlo : wl < lo := allLt_mem clo.2.2.2 _ (keep mwl w1 w2 _)
  have nlo : lo ≠ wl := Nat.ne_of_gt hwlo
  repeat' (first | (fail_if_success (with_reducible show wpAny _ _ (execs (Stmt.For _ _ _ _ _ :: _) _) _ _ _)); first | (k_unfold; (try dsimp only)) | walk1 | (dsimp only; walk1))
  rename Fr _ _ _ _ => FF
  rename News _ _ _ _ => NF
  dsimp only
  have lrl1 : L + 1 < rl := crl _ s1
  have lrl2 : L + 1 + 1 < rl := crl _ s2
  have hrla : rl < la := cla _ (mem_setAt_ne (mem_setAt_ne (.tail _ (.head _)) (Nat.ne_of_gt lrl1)) (Nat.ne_of_gt lrl2))
  have hrlx : rl < x := by
    rcases hxa with h | h | h <;> rw [h]
    · exact hrla
    · exact Nat.lt_trans hrla clb.1
    · exact Nat.lt_trans hrla clc.2.1
  have oc4 : L + 1 + 1 + 1 + 1 < D1 := l1 _ (.head _)
  have fr0 := W.fr
  have hwd : wl < dw := fr0 _ (.head _)
  have hhr : hlA < rl := crl _ W.mh
  have R := rho0_all lw.1 hwd W.o1 W.o2 W.o3 hhr hrlx
  refine byC fun nG => ?_
  obtain ⟨p1, p2, p3, p4, p5, p6, p7, p8, p9⟩ := R
  refine nG ?_
  refine name_led NF fun LD eLD => ?_
  rw [← eLD] at NF
  have big : ∀ {a : Addr} {o : Obj}, (a, o) ∈ nx2 → a ≠ L + 1 → a ≠ L + 1 + 1 → a ≠ wl → (a, o) ∈ LD := fun h1 h2 h3 h4 => by
    rw [eLD]; exact mem_setAt_ne (.tail _ (.tail _ (.tail _ (.tail _ (keep h1 h2 h3 _))))) h4
  have off3 : ∀ {a : Addr}, dw ≤ a → a ≠ L + 1 ∧ a ≠ L + 1 + 1 ∧ a ≠ wl := fun h => off_three (fr0 _ (.tail _ (.tail _ (.tail _ (.tail _ (.tail _ (.head _))))))) (fr0 _ (.tail _ (.tail _ (.tail _ (.tail _ (.head _)))))) hwd h
  have big' : ∀ {a : Addr} {o : Obj}, (a, o) ∈ nx2 → dw ≤ a → (a, o) ∈ LD := fun h1 h2 => big h1 (off3 h2).1 (off3 h2).2.1 (off3 h2).2.2
  have aw_dw : dw ≤ aw := Nat.le_of_lt W.o1
  have st_dw : dw ≤ st := Nat.le_trans aw_dw (Nat.le_of_lt W.o2)
  have hl_dw : dw ≤ hlA := Nat.le_trans st_dw (Nat.le_of_lt W.o3)
  have mLwl : (wl, PySem.W.listOf #[Value.ref D1, Value.int (0 + 1) tw'] 0) ∈ LD := by rw [eLD]; exact mem_setAt_eq (.tail _ (.tail _ (.tail _ (.tail _ (keep mwl w1 w2 _)))))
  have mLfl : (x, PySem.W.listOf fvs.toArray 0) ∈ LD := by rw [eLD]; exact mem_setAt_ne (eZ0 ▸ hxm) (Nat.ne_of_gt (Nat.lt_trans (crl _ mwl) hrlx))
  have mLac : (D1, PySem.W.listOf (vs.take 48).toArray 0) ∈ LD := big mD1 d1 d2 (Nat.ne_of_lt lw.1)
  have mLrl : (rl, PySem.W.listOf #[] 0) ∈ LD := by rw [eLD]; exact mem_setAt_ne (.tail _ (.tail _ (.tail _ (.tail _ (mem_setAt_ne (mem_setAt_ne (.tail _ (.head _)) (Nat.ne_of_gt lrl1)) (Nat.ne_of_gt lrl2)))))) (Nat.ne_of_gt (crl _ mwl))
  have mLcw : (L + 1, oW') ∈ LD := by rw [eLD]; exact mem_setAt_ne (.tail _ (.tail _ (.tail _ (.tail _ (mem_setAt_ne (mem_setAt_eq (.tail _ (.tail _ s1))) n12))))) w1.symm
  have mLca : (L + 1 + 1, oA') ∈ LD := by rw [eLD]; exact mem_setAt_ne (.tail _ (.tail _ (.tail _ (.tail _ (mem_setAt_eq (mem_setAt_ne (.tail _ (.tail _ s2)) n21)))))) w2.symm
  have s3 := W.sub _ (.tail _ (.tail _ (.tail _ (.head _))))
  have s4 := W.sub _ (.tail _ (.tail _ (.head _)))
  have s5 := W.sub _ (.tail _ (.tail _ (.tail _ (.tail _ (.tail _ (.tail _ (.head _)))))))
  have mLcn : (L + 1 + 1 + 1, oN) ∈ LD := big s3 n1.symm (na23 L).symm (Nat.ne_of_lt lw.2.2.1)
  have mLcv : (L + 1 + 1 + 1 + 1, oV) ∈ LD := big s4 (na14 L).symm (na24 L).symm (Nat.ne_of_lt lw.2.1)
  have mLtb : (530, tabObj #[]) ∈ LD := big s5 (n530b hL).1.symm (n530b hL).2.symm (Nat.ne_of_lt lw.2.2.2.2.2)
  refine name_map FF fun mF emF => ?_
  rw [← emF] at FF
  let S : Lay := ⟨aw, dw, st, x, wl, D1, ys, fvs, 0, ns.take 48, vs.take 48, 0⟩
  have ok : LayOk S := ⟨hfa.hstr, hfa.val, hfa.link, hfa.other, hfa.nd, hfa.len, ints_take hi 48, by show (vs.take 48).length ≤ 48; simp; omega⟩
  refine law_loop (S := S) (d := ⟨[], fun _ => none, fun _ => .none, fun _ => none, 0 + 1, 0⟩) (U := [(rl, PySem.W.listOf #[] 0), (L + 1, oW'), (L + 1 + 1, oA'), (L + 1 + 1 + 1, oN), (L + 1 + 1 + 1 + 1, oV), (530, tabObj #[])]) (rl := rl) (re := 0) (u := mF) hsc' ok B FF X NF T hE ?J ?rest
  case J =>
    refine { m := law_self (S := S) (by rw [emF]; rfl) (by rw [emF]; rfl), st := ⟨⟨hlA, wes, wn, so, [], 0, 0, tw', mt, fun _ => .none, fun _ => 0, rho0 aw dw st hlA x wl D1⟩, ?st⟩, own := ?own, b := ?b, t := ?t, vars := ?vars }
    case st =>
      exact {
        iw := big' W.mw aw_dw, dw := big' W.md (Nat.le_refl _), st := big' W.ms st_dw, hl := big' W.mh hl_dw, fl := mLfl, wl := mLwl, ac := mLac
        cells := fun c hc => nomatch hc
        own := fun p hp => by
          simp only [List.mem_cons, List.not_mem_nil, or_false] at hp
          rcases hp with rfl | rfl | rfl | rfl | rfl | rfl
          · exact mLrl
          · exact mLcw
          · exact mLca
          · exact mLcn
          · exact mLcv
          · exact mLtb
        gst := W.gst, ghl := W.ghl, gmd := W.gmd, wz := W.wz
        lo := st_sys (Nat.lt_of_lt_of_le (fr0 _ (.tail _ (.tail _ (.tail _ (.tail _ (.tail _ (.tail _ (.head _)))))))) st_dw)
        so := W.iso
        knd := List.nodup_nil
        ksub := fun k hk => by simp at hk
        lks := fun c hc => nomatch hc
        lkin := fun c hc => nomatch hc
        vls := fun c hc => nomatch hc
        vars := fun k => rfl
        vin := fun k c h => by cases h
        aa := fun c hc => nomatch hc
        dd := fun c hc => nomatch hc
        vv := fun c hc => nomatch hc
        nn := fun c hc => nomatch hc
        hcl := Nat.zero_le _
        t0 := by show (0 : Int) ≤ 0 + 1; exact om283
        raw := p1
        rdw := p2
        rst := p3
        rhl := p4
        rfl' := p5
        rwl := p6
        rac := p7
        ra := fun c hc => nomatch hc
        rd := fun c hc => nomatch hc
        rv := fun c hc => nomatch hc
        rU := fun p hp => by
          simp only [List.mem_cons, List.not_mem_nil, or_false] at hp
          rcases hp with rfl | rfl | rfl | rfl | rfl | rfl
          · exact p8
          · exact p9 _ (l1 (L + 1, oW) (.tail _ (.tail _ (.tail _ (.head _)))))
          · exact p9 _ (l1 (L + 1 + 1, oA) (.tail _ (.tail _ (.head _))))
          · exact p9 _ (l1 _ (.tail _ (.head _)))
          · exact p9 _ (l1 _ (.head _))
          · exact p9 _ (l1 _ (.tail _ (.tail _ (.tail _ (.tail _ (.head _)))))) }
    case own =>
      exact {
        cw := ⟨oW', .tail _ (.head _), by assumption⟩
        ca := ⟨oA', .tail _ (.tail _ (.head _)), by assumption⟩
        cn := ⟨oN, _, .tail _ (.tail _ (.tail _ (.head _))), hvn⟩
        cv := ⟨oV, _, .tail _ (.tail _ (.tail _ (.tail _ (.head _)))), hvv⟩
        tab := .tail _ (.tail _ (.tail _ (.tail _ (.tail _ (.head _)))))
        hL := hL
        mr := .head _
        rL := Nat.lt_trans oc4 (Nat.lt_trans lw.1 (crl _ mwl))
        mt := fun p hp => nomatch hp
        tL := fun p hp => nomatch hp
        dat := DatAll.nil }
    case b =>
      exact { sub := fun c hc => (nomatch hc), all := fun c hc => (nomatch hc), nd := List.nodup_nil, made := rfl, asc := rfl, vi := fun c hc => (nomatch hc), len := Nat.zero_le _, hlen := Nat.zero_le _ }
    case t => show (0 : Int) + 1 ≤ 1 + 4 * ((0 : Nat) : Int); exact om284
    case vars => exact { v0 := fun _ => ⟨rfl, fun _ => rfl⟩, v1 := by omega, v2 := by omega }
  case rest =>
    intro m' nx h' tk' d' xs U' rl' vs' re' tl' u' J' F' N'
    have J'' := J'
    refine byC fun nG => ?_
    obtain ⟨o1, hcw, hcw'⟩ := J'.own.cw
    obtain ⟨o2, hca, hca'⟩ := J'.own.ca
    refine nG ?_
    refine law_mid hsc' ok B F' X N' T hE J' (fun m2 nx2 h2 tk2 d2 n2 t2 hm2 hn2 hne2 S2 M2 F2 N2 => ?_) hret
    cases xs with
    | nil => exact absurd rfl hne2
    | cons c0 r =>
      rw [hm2] at F2
      refine law_copy (m := fun _ => none) hsc' ok B F2 X N2 T hE S2 J''.own J''.b M2 hn2 (fun nx3 h3 tk3 d3 S3 M3 F3 N3 => ?_)
      refine law_due (m := fun _ => none) hcw hcw' hca hca' hsc' ok B F3 X N3 T hE S3 J''.own J''.b M3 hn2 C (fun nx4 h4 tk4 D4 out cc U4 xs4 hxs4 S4 u1 u2 u3 u4 u5 hd4 F4 N4 => ?_)
      refine law_cut (m := fun _ => none) (re := 0) u1 hcw' u2 hca' hsc' ok B F4 X N4 T hE S4 J''.b M3 hn2 hxs4 (fun nx5 h5 tk5 d5 lf lt ut hl1 hl2 S5 M5 F5 N5 => ?_)
      have hpx : xs4.Perm (c0 :: r) := by
        have := fold_perm (vi := vint d') (c0 :: r) []
        rw [← hxs4] at this; simpa using this
      exact law_end (m := fun _ => none) u1 hcw' u2 hca' hsc' ok B F5 X N5 T hE S5 J''.b M5 hpx hl2 hl1 u3 u4 u5 hd4 hret
end
section
set_option maxRecDepth 100000
set_option maxHeartbeats 8000000
theorem said : PySem.Challenge.rw_sa0599_01.wellSaid = true := by
  rw [Fast.te9446332074065402090]
  unfold Fast.tw9446332074065402090
  repeat' (with_reducible refine look_both ?_ ?_)
  unfold Fast.tw17960256430627541270
  repeat' (with_reducible refine look_both ?_ ?_)
  unfold Fast.tw2436336058641802641
  repeat' (with_reducible refine look_both ?_ ?_)
  unfold Fast.tw12908688711261696721
  repeat' (with_reducible refine look_both ?_ ?_)
  all_goals (as_aux_lemma => kernel_rfl)
theorem X : PySem.Challenge.rw_sa0599_01.Holds := by
  w_on
  refine holds_law said fun sd => ?_
  refine holds_open (q := QV) (loose := LS) (Xt := XtF) (XP := XL QV []) (Yf := Hook.obs HH) (Ya := Hook.val HH) (YP := Hook.says HH) (N := 7782) LEFT (Hook.of HH) (Hook.keeps HH) (fun s e => xl_of s (Bool.and_eq_true_iff.mp e).1) XL.keeps (by rfl) (by rfl) (by rfl) (fun s e => recFacts_of (Bool.and_eq_true_iff.mp e).2) (by rfl) (by first | assumption | decide +kernel) (by decide +kernel) ⟨rfl, rfl, rfl, rfl, rfl, by decide +kernel⟩ ?hw ?hc
  case hw => w_witness2
  case hc =>
    k_go0
    all_goals try k_fold
    dsimp only
    rename Below _ _ _ _ => KB
    rename Fr _ _ _ _ => FF
    rename News _ _ _ _ => NN
    rename (KK _).In (ghostOf _ _) => XX
    rename Top topProg _ _ _ _ _ => TT
    rename CodeHd _ _ _ => CC
    rename IntsAre _ _ => HI
    rename (ghostOf _ _).IsList _ _ => LL
    refine law_top (m := fun _ => none) rfl KB ?F XX NN TT ?pass CC ?c1 ?c2 ?c3 ?c4 ?l0 LL HI ?hlen ?ret
    case F => exact FF
    case pass => passes_own
    case c1 => exact ⟨_, by assumption⟩
    case c2 => exact ⟨_, by assumption⟩
    case c3 => exact ⟨_, by assumption⟩
    case c4 => exact ⟨_, by assumption⟩
    case l0 => assumption
    case hlen => omega
    case ret =>
      rintro h' tk' m' nx F9 N9 pP0
      refine byC fun nG => ?_
      obtain ⟨ps, hps⟩ := pP0
      refine nG ?_
      refine ⟨?_, GrownAt.of N9 hps, trivial⟩
      k_steps
end
end Mine
theorem PySem.Challenge.cw_sa0599_01_holds : PySem.Challenge.rw_sa0599_01.Holds :=
  Mine.X
