import PyProof.Rows.All
import Wide.All
import OpenK.AllK
import KE.KRevSl
import KE.KSortKey
import KE.KDictSum
import KE.KDictOf
import Wide.FinOn
import Lean
import PySem.Challenge.RW_pc0216_01
set_option Elab.async false
set_option autoImplicit false
set_option maxRecDepth 200000
set_option linter.all false
set_option genSizeOf false
section
open PySem PySem.W PySem.Calls PyProof.Rows
set_option maxHeartbeats 8000000
section
set_option autoImplicit true
namespace Mine.Head
noncomputable def tRun (st:SharedT→Thread→Option (SharedT×Thread)) (ok:Thread→Bool):Nat→SharedT→Thread→Option SharedT
 | 0,_,_=>none
 | n + 1,s,t=>match through t with
  | true=>some s
  | false=>match ok t with
   | false=>none
   | true=>match st s t with
    | some (s',t')=>tRun st ok n s' t'
    | none=>none
theorem tRun_ok {tb:String→Option Builtin} {p:Program} {w:World} {n₀:Nat} {ann:Option Value}:∀ {n:Nat} {s s':SharedT} {t:Thread},tRun (stepT (denote tb) p w) (stepOk n₀ ann) n s t = some s'→topRun tb p w n₀ ann n s.abs t = some s'.abs
 | 0,_,_,_,h=>by cases h
 | n + 1,s,s',t,h=>by
  unfold tRun at h
  unfold topRun
  cases he:through t with
  | true=>rw [he] at h; cases h; rfl
  | false=>
   rw [he] at h
   cases hk:stepOk n₀ ann t with
   | false=>rw [hk] at h; cases h
   | true=>
    rw [hk] at h
    cases hs:stepT (denote tb) p w s t with
    | none=>rw [hs] at h; cases h
    | some r=>obtain ⟨s₂,t₂⟩:=r; rw [hs] at h; rw [stepT_spec hs]; exact tRun_ok h
noncomputable def stepF (p:Program) (w:World):SharedT→Thread→Option (SharedT×Thread):=PySem.W.Fast.tw10156331382660048174 (PySem.W.Fast.tw11892475500146522536 PySem.W.Fast.tw14364793385576792824) p w
noncomputable def okF:Nat→Option Value→Thread→Bool:=PySem.W.Fast.tw6613529449190102663
theorem stepF_eq (p:Program) (w:World):stepT (denote treeTable) p w = stepF p w:=by
 unfold stepF
 rw [← PySem.W.Fast.te10156331382660048174,← PySem.W.Fast.te11892475500146522536,← PySem.W.Fast.te14364793385576792824]
theorem okF_eq:stepOk = okF:=PySem.W.Fast.te6613529449190102663
noncomputable def btOf:Nat→BT→List Obj→BT
 | _,t,[]=>t
 | n,t,o :: l=>btOf (n + 1) (t.ins n o) l
noncomputable abbrev pg:Program:=PySem.Challenge.pw_pc0216_01
theorem n0 (P:Params):(boot_heap P).objs.size = 11:=by kernel_rfl
theorem ann0 (P:Params):(boot_heap P).nsMap mainGlobals "__annotations__" = some (.ref 6):=by kernel_rfl
noncomputable def vn:Value:=.none
noncomputable def vt:Value:=.bool true
noncomputable def vf:Value:=.bool false
noncomputable def vi (n:Int) (t:Nat):Value:=.int n t
noncomputable def vs (s:String) (t:Nat):Value:=.str (Str.ofString s) t
noncomputable def vT (s:String):Value:=.type s
noncomputable def vb (s:String):Value:=.builtin s
noncomputable def vr (a:Nat):Value:=.ref a
noncomputable def v0:Nat→Value
 | 0=>.none
 | a + 1=>.ref (a + 1)
noncomputable def st (i:Nat):Option Stmt:=pg.main.body[i]?
noncomputable def sm (i j:Nat):Option Stmt:=match pg.main.body[i]? with
 | some (.ClassDef _ _ _ b _ _ _ _ _ _ _)=>b[j]?
 | _=>none
noncomputable def co (n q:String) (t l c r x y z u h:Nat):Obj:=
 { cls:=.type "code",data:=.fields #[vs n t,vs q (t + 1),vs "/claim/cut.py" (t + 2),vi l 0,vi c 0,vi 0 0,vi 0 0,vi 3 0,vr r,vt,vi 181 0,vr (r + 1),v0 x,v0 y,v0 z,v0 u,vi h 0,vi l 0,vs "/claim/cut.py" (h + 1)] }
noncomputable def fo (s:Option Stmt) (q:String) (d:Nat) (m:Value) (c:Nat):Obj:=match s with
 | some (.FunctionDef n a b _ _ _ sc _ _ _)=>{ cls:=.type "function",data:=.func { name:=n,qualname:=Str.ofString q,params:=a,body:=.stmts b,scope:=sc,globals:=3,closure:=[],defaults:=v0 d,kwdefaults:=.none,pyModule:=m,code:=.ref c } }
 | _=>default
noncomputable def cl (n:String) (b m:List Value) (ns:Nat) (s:List (Option Value)):Obj:=
 { cls:=.type "type",data:=.cls { name:=Str.ofString n,bases:=b,mro:=m,ns:=ns,qualname:=Str.ofString n },slots:=s.toArray }
noncomputable def sq (_:Value) (_:Bool) (_:Nat) (l:List Value) (n:Nat):Obj:={ cls:=.type "tuple",data:=.seq l.toArray n }
noncomputable def fl (c:Value) (_:Bool) (_:Nat) (l:List Value):Obj:={ cls:=c,data:=.fields l.toArray }
section
variable (P:Params)
noncomputable def en:List (String×Nat×Value)→List DictEntry
 | []=>[]
 | (k,t,v) :: l=>⟨PyData.keyHash P (Str.ofString k),.str (Str.ofString k) t,v⟩ :: en l
noncomputable def di (c:Value) (_:Bool) (_:Nat) (l:List (String×Nat×Value)) (n:Nat):Obj:={ cls:=c,data:=.dict (en P l).toArray n }
noncomputable def dj (l:List (String×Nat×Value)) (n:Nat):Obj:=di P (.type "dict") false 0 l n
end
noncomputable def KK (P:Params):Frag:=[
 (2,di P vn false 0 [("type.__subclasses__.Exception.0",750,(vi 415 0)),("type.__subclasses__.Exception.n",751,(vi 1 0))] 2),
 (3,dj P [("__name__",165,(vs "law_pc0216_01" 1016)),("__doc__",166,vn),("__package__",167,vn),("__loader__",168,(vb "__main__.__loader__#opaque")),("__spec__",169,vn),("__annotations__",170,(vr 6)),("__builtins__",171,(vr 4)),("__file__",173,(vs "/claim/cut.py" 172)),("__cached__",174,vn),("_wall",193,(vr 21)),("ANY",198,(vr 23)),("BOTTOM",200,(vr 24)),("named",208,(vr 33)),("tuple_of",216,(vr 41)),("union_of",226,(vr 48)),("parts_of_kind",234,(vr 55)),("rebuilt_kind",244,(vr 62)),("substituted",250,(vr 67)),("free_vars",256,(vr 72)),("binder_text",264,(vr 79)),("kind_text",270,(vr 84)),("MOST_CASES",274,(vi 64 273)),("Side",341,(vr 129)),("Sides",449,(vr 205)),("occurrences",455,(vr 214)),("bound_occurrences",465,(vr 221)),("is_diagonal",475,(vr 228)),("left_cases",481,(vr 233)),("tuple_cases",487,(vr 238)),("is_empty",493,(vr 243)),("tail_of",500,(vr 250)),("TYPE",505,(vr 252)),("FUNCTION",508,(vr 254)),("Search",663,(vr 352)),("narrowed",674,(vr 363)),("widened",684,(vr 370)),("has_within",692,(vr 377)),("tuple_ways",698,(vr 382)),("is_subtype",711,(vr 390)),("same_kind",720,(vr 397)),("RowsError",753,(vr 415)),("KindFault",769,(vr 428)),("SIGNED",777,(vr 431)),("UNSIGNED",782,(vr 432)),("PLAIN_ERRORS",787,(vr 433)),("TEXT_ERRORS",792,(vr 434)),("CALL_ERRORS",795,(vr 435)),("Decl",854,(vr 471)),("Kinds",973,(vr 558)),("nominal",983,(vr 570)),("start_kinds",992,(vr 577)),("start_errors",1001,(vr 584)),("start_rows",1015,(vr 591)),("_law_keg",1026,(vr 598)),("_law_sip",1035,(vr 605)),("_law_plain",1042,(vr 612)),("_law_list_of",1049,(vr 619)),("_law_member",1058,(vr 626)),("_law_kind",1064,(vr 631)),("_law_given",1074,(vr 638)),("_law_is_under",1083,(vr 645)),("_law_is_member",1091,(vr 652)),("_law_often",1097,(vr 657)),("_law_choices",1103,(vr 662)),("_law_due",1109,(vr 667)),("_law_bounds_right",1125,(vr 674)),("law",1131,(vr 679))] 67),
 (20,co "_wall" "_wall" 187 1 1 15 0 17 18 19 191),
 (21,fo (st 0) "_wall" 0 (vs "__main__" 164) 20),
 (22,sq (vT "tuple") false 0 [] 0),
 (23,sq (vT "tuple") false 0 [(vs "name" 196),(vs "Any" 197),(vr 22)] 0),
 (24,sq (vT "tuple") false 0 [(vs "bottom" 199)] 0),
 (25,sq (vT "tuple") false 0 [] 0),
 (26,sq (vT "tuple") false 0 [(vr 25)] 0),
 (32,co "named" "named" 201 7 2 27 0 29 30 31 206),
 (33,fo (st 4) "named" 26 (vs "methodrows.kind_terms" 194) 32),
 (34,sq (vT "tuple") false 0 [vn] 0),
 (40,co "tuple_of" "tuple_of" 209 9 2 35 0 37 38 39 214),
 (41,fo (st 5) "tuple_of" 34 (vs "methodrows.kind_terms" 194) 40),
 (47,co "union_of" "union_of" 217 11 1 42 0 44 45 46 224),
 (48,fo (st 6) "union_of" 0 (vs "methodrows.kind_terms" 194) 47),
 (54,co "parts_of_kind" "parts_of_kind" 227 24 1 49 0 51 52 53 232),
 (55,fo (st 7) "parts_of_kind" 0 (vs "methodrows.kind_terms" 194) 54),
 (61,co "rebuilt_kind" "rebuilt_kind" 235 35 2 56 0 58 59 60 242),
 (62,fo (st 8) "rebuilt_kind" 0 (vs "methodrows.kind_terms" 194) 61),
 (66,co "substituted" "substituted" 245 47 2 63 0 0 0 65 248),
 (67,fo (st 9) "substituted" 0 (vs "methodrows.kind_terms" 194) 66),
 (71,co "free_vars" "free_vars" 251 57 1 68 0 0 0 70 254),
 (72,fo (st 10) "free_vars" 0 (vs "methodrows.kind_terms" 194) 71),
 (78,co "binder_text" "binder_text" 257 70 1 73 0 75 76 77 262),
 (79,fo (st 11) "binder_text" 0 (vs "methodrows.kind_terms" 194) 78),
 (83,co "kind_text" "kind_text" 265 73 1 80 0 0 0 82 268),
 (84,fo (st 12) "kind_text" 0 (vs "methodrows.kind_terms" 194) 83),
 (97,co "__init__" "Side.__init__" 287 96 6 92 0 94 95 96 296),
 (98,fo (sm 15 0) "Side.__init__" 0 (vs "methodrows.subtype_sides" 271) 97),
 (104,co "with_lower" "Side.with_lower" 299 103 2 99 0 101 102 103 304),
 (105,fo (sm 15 1) "Side.with_lower" 0 (vs "methodrows.subtype_sides" 271) 104),
 (111,co "with_upper" "Side.with_upper" 307 106 2 106 0 108 109 110 312),
 (112,fo (sm 15 2) "Side.with_upper" 0 (vs "methodrows.subtype_sides" 271) 111),
 (118,co "lower" "Side.lower" 315 109 1 113 0 115 116 117 319),
 (119,fo (sm 15 3) "Side.lower" 0 (vs "methodrows.subtype_sides" 271) 118),
 (125,co "upper" "Side.upper" 322 112 1 120 0 122 123 124 326),
 (126,fo (sm 15 4) "Side.upper" 0 (vs "methodrows.subtype_sides" 271) 125),
 (128,dj P [("__module__",282,(vs "methodrows.subtype_sides" 271)),("__firstlineno__",286,(vi 94 285)),("__init__",298,(vr 98)),("with_lower",306,(vr 105)),("with_upper",314,(vr 112)),("lower",321,(vr 119)),("upper",328,(vr 126)),("__static_attributes__",334,(vr 127)),("__dict__",336,(vr 130)),("__weakref__",338,(vr 131)),("__doc__",339,vn)] 4),
 (129,cl "Side" [(vT "object")] [(vr 129),(vT "object")] 128 [none,none,some (vs "Side" 275),some (vs "Side" 283),some (vb "object.__new__"),some vt]),
 (130,fl (vT "getset_descriptor") false 0 [(vs "__dict__" 335),(vr 129),(vb "function.__dict__"),(vb "function.__dict__#set")]),
 (131,fl (vT "getset_descriptor") false 0 [(vs "__weakref__" 337),(vr 129),(vb "ExceptionGroup.__weakref__"),vn]),
 (141,sq (vT "tuple") false 0 [vn,(vi 0 354)] 0),
 (147,co "__init__" "Sides.__init__" 355 116 3 142 0 144 145 146 361),
 (148,fo (sm 16 0) "Sides.__init__" 141 (vs "methodrows.subtype_sides" 271) 147),
 (154,co "copied" "Sides.copied" 364 120 1 149 0 151 152 153 368),
 (155,fo (sm 16 1) "Sides.copied" 0 (vs "methodrows.subtype_sides" 271) 154),
 (161,co "opened" "Sides.opened" 371 123 3 156 0 158 159 160 385),
 (162,fo (sm 16 2) "Sides.opened" 0 (vs "methodrows.subtype_sides" 271) 161),
 (168,co "side" "Sides.side" 388 132 2 163 0 165 166 167 393),
 (169,fo (sm 16 3) "Sides.side" 0 (vs "methodrows.subtype_sides" 271) 168),
 (175,co "is_asked" "Sides.is_asked" 396 135 2 170 0 172 173 174 401),
 (176,fo (sm 16 4) "Sides.is_asked" 0 (vs "methodrows.subtype_sides" 271) 175),
 (180,co "has_asked" "Sides.has_asked" 404 138 2 177 0 0 0 179 407),
 (181,fo (sm 16 5) "Sides.has_asked" 0 (vs "methodrows.subtype_sides" 271) 180),
 (187,co "add_lower" "Sides.add_lower" 410 150 3 182 0 184 185 186 416),
 (188,fo (sm 16 6) "Sides.add_lower" 0 (vs "methodrows.subtype_sides" 271) 187),
 (194,co "add_upper" "Sides.add_upper" 419 153 3 189 0 191 192 193 425),
 (195,fo (sm 16 7) "Sides.add_upper" 0 (vs "methodrows.subtype_sides" 271) 194),
 (201,co "later_ones" "Sides.later_ones" 428 156 3 196 0 198 199 200 437),
 (202,fo (sm 16 8) "Sides.later_ones" 0 (vs "methodrows.subtype_sides" 271) 201),
 (204,dj P [("__module__",349,(vs "methodrows.subtype_sides" 271)),("__firstlineno__",353,(vi 114 352)),("__init__",363,(vr 148)),("copied",370,(vr 155)),("opened",387,(vr 162)),("side",395,(vr 169)),("is_asked",403,(vr 176)),("has_asked",409,(vr 181)),("add_lower",418,(vr 188)),("add_upper",427,(vr 195)),("later_ones",439,(vr 202)),("__static_attributes__",442,(vr 203)),("__dict__",444,(vr 206)),("__weakref__",446,(vr 207)),("__doc__",447,vn)] 4),
 (205,cl "Sides" [(vT "object")] [(vr 205),(vT "object")] 204 [none,none,some (vs "Sides" 342),some (vs "Sides" 350),some (vb "object.__new__"),some vt]),
 (206,fl (vT "getset_descriptor") false 0 [(vs "__dict__" 443),(vr 205),(vb "function.__dict__"),(vb "function.__dict__#set")]),
 (207,fl (vT "getset_descriptor") false 0 [(vs "__weakref__" 445),(vr 205),(vb "ExceptionGroup.__weakref__"),vn]),
 (213,co "occurrences" "occurrences" 450 163 2 210 0 0 0 212 453),
 (214,fo (st 17) "occurrences" 0 (vs "methodrows.subtype_sides" 271) 213),
 (220,co "bound_occurrences" "bound_occurrences" 456 178 2 215 0 217 218 219 463),
 (221,fo (st 18) "bound_occurrences" 0 (vs "methodrows.subtype_sides" 271) 220),
 (227,co "is_diagonal" "is_diagonal" 466 181 2 222 0 224 225 226 473),
 (228,fo (st 19) "is_diagonal" 0 (vs "methodrows.subtype_sides" 271) 227),
 (232,co "left_cases" "left_cases" 476 184 1 229 0 0 0 231 479),
 (233,fo (st 20) "left_cases" 0 (vs "methodrows.subtype_sides" 271) 232),
 (237,co "tuple_cases" "tuple_cases" 482 195 1 234 0 0 0 236 485),
 (238,fo (st 21) "tuple_cases" 0 (vs "methodrows.subtype_sides" 271) 237),
 (242,co "is_empty" "is_empty" 488 203 1 239 0 0 0 241 491),
 (243,fo (st 22) "is_empty" 0 (vs "methodrows.subtype_sides" 271) 242),
 (249,co "tail_of" "tail_of" 494 209 1 244 0 246 247 248 498),
 (250,fo (st 23) "tail_of" 0 (vs "methodrows.subtype_sides" 271) 249),
 (251,sq (vT "tuple") false 0 [] 0),
 (252,sq (vT "tuple") false 0 [(vs "name" 503),(vs "Type" 504),(vr 251)] 0),
 (253,sq (vT "tuple") false 0 [] 0),
 (254,sq (vT "tuple") false 0 [(vs "name" 506),(vs "Function" 507),(vr 253)] 0),
 (267,co "__init__" "Search.__init__" 521 216 3 262 0 264 265 266 527),
 (268,fo (sm 27 0) "Search.__init__" 0 (vs "methodrows.subtypes" 501) 267),
 (274,co "run" "Search.run" 530 221 3 269 0 271 272 273 540),
 (275,fo (sm 27 1) "Search.run" 0 (vs "methodrows.subtypes" 501) 274),
 (281,co "settled" "Search.settled" 543 230 4 276 0 278 279 280 553),
 (282,fo (sm 27 2) "Search.settled" 0 (vs "methodrows.subtypes" 501) 281),
 (288,co "holds" "Search.holds" 556 244 4 283 0 285 286 287 566),
 (289,fo (sm 27 3) "Search.holds" 0 (vs "methodrows.subtypes" 501) 288),
 (295,co "step" "Search.step" 569 254 3 290 0 292 293 294 578),
 (296,fo (sm 27 4) "Search.step" 0 (vs "methodrows.subtypes" 501) 295),
 (302,co "numbers" "Search.numbers" 581 270 5 297 0 299 300 301 589),
 (303,fo (sm 27 5) "Search.numbers" 0 (vs "methodrows.subtypes" 501) 302),
 (307,co "below" "Search.below" 592 279 4 304 0 0 0 306 595),
 (308,fo (sm 27 6) "Search.below" 0 (vs "methodrows.subtypes" 501) 307),
 (312,co "above" "Search.above" 598 286 4 309 0 0 0 311 601),
 (313,fo (sm 27 7) "Search.above" 0 (vs "methodrows.subtypes" 501) 312),
 (317,co "by_form" "Search.by_form" 604 293 4 314 0 0 0 316 607),
 (318,fo (sm 27 8) "Search.by_form" 0 (vs "methodrows.subtypes" 501) 317),
 (322,co "chosen" "Search.chosen" 610 312 4 319 0 0 0 321 613),
 (323,fo (sm 27 9) "Search.chosen" 0 (vs "methodrows.subtypes" 501) 322),
 (329,co "plain" "Search.plain" 616 317 3 324 0 326 327 328 623),
 (330,fo (sm 27 10) "Search.plain" 0 (vs "methodrows.subtypes" 501) 329),
 (334,co "nominal" "Search.nominal" 626 329 3 331 0 0 0 333 629),
 (335,fo (sm 27 11) "Search.nominal" 0 (vs "methodrows.subtypes" 501) 334),
 (341,co "are_concrete" "Search.are_concrete" 632 335 2 336 0 338 339 340 639),
 (342,fo (sm 27 12) "Search.are_concrete" 0 (vs "methodrows.subtypes" 501) 341),
 (348,co "is_one" "Search.is_one" 642 342 3 343 0 345 346 347 650),
 (349,fo (sm 27 13) "Search.is_one" 0 (vs "methodrows.subtypes" 501) 348),
 (351,dj P [("__module__",516,(vs "methodrows.subtypes" 501)),("__firstlineno__",520,(vi 214 519)),("__init__",529,(vr 268)),("run",542,(vr 275)),("settled",555,(vr 282)),("holds",568,(vr 289)),("step",580,(vr 296)),("numbers",591,(vr 303)),("below",597,(vr 308)),("above",603,(vr 313)),("by_form",609,(vr 318)),("chosen",615,(vr 323)),("plain",625,(vr 330)),("nominal",631,(vr 335)),("are_concrete",641,(vr 342)),("is_one",652,(vr 349)),("__static_attributes__",656,(vr 350)),("__dict__",658,(vr 353)),("__weakref__",660,(vr 354)),("__doc__",661,vn)] 4),
 (352,cl "Search" [(vT "object")] [(vr 352),(vT "object")] 351 [none,none,some (vs "Search" 509),some (vs "Search" 517),some (vb "object.__new__"),some vt]),
 (353,fl (vT "getset_descriptor") false 0 [(vs "__dict__" 657),(vr 352),(vb "function.__dict__"),(vb "function.__dict__#set")]),
 (354,fl (vT "getset_descriptor") false 0 [(vs "__weakref__" 659),(vr 352),(vb "ExceptionGroup.__weakref__"),vn]),
 (362,co "narrowed" "narrowed" 664 350 3 357 0 359 360 361 672),
 (363,fo (st 28) "narrowed" 0 (vs "methodrows.subtypes" 501) 362),
 (369,co "widened" "widened" 675 356 3 364 0 366 367 368 682),
 (370,fo (st 29) "widened" 0 (vs "methodrows.subtypes" 501) 369),
 (376,co "has_within" "has_within" 685 363 2 371 0 373 374 375 690),
 (377,fo (st 30) "has_within" 0 (vs "methodrows.subtypes" 501) 376),
 (381,co "tuple_ways" "tuple_ways" 693 365 2 378 0 0 0 380 696),
 (382,fo (st 31) "tuple_ways" 0 (vs "methodrows.subtypes" 501) 381),
 (383,sq (vT "tuple") false 0 [(vi 4000 699)] 0),
 (389,co "is_subtype" "is_subtype" 700 372 4 384 0 386 387 388 709),
 (390,fo (st 32) "is_subtype" 383 (vs "methodrows.subtypes" 501) 389),
 (396,co "same_kind" "same_kind" 712 380 3 391 0 393 394 395 718),
 (397,fo (st 33) "same_kind" 0 (vs "methodrows.subtypes" 501) 396),
 (405,sq (vT "tuple") false 0 [vn] 0),
 (411,co "__init__" "RowsError.__init__" 735 385 3 406 0 408 409 410 741),
 (412,fo (sm 35 0) "RowsError.__init__" 405 (vs "methodrows.errors" 721) 411),
 (414,dj P [("__module__",730,(vs "methodrows.errors" 721)),("__firstlineno__",734,(vi 383 733)),("__init__",743,(vr 412)),("__static_attributes__",746,(vr 413)),("__weakref__",748,(vr 416)),("__doc__",749,vn)] 3),
 (416,fl (vT "getset_descriptor") false 0 [(vs "__weakref__" 747),(vr 415),(vb "ExceptionGroup.__weakref__"),vn]),
 (427,dj P [("__module__",761,(vs "methodrows.errors" 721)),("__firstlineno__",765,(vi 389 764)),("__static_attributes__",766,(vr 426)),("__doc__",767,vn)] 2),
 (428,cl "KindFault" [(vr 415)] [(vr 428),(vr 415),(vT "Exception"),(vT "BaseException"),(vT "object")] 427 [some (vr 419),none,some (vs "KindFault" 754),some (vs "KindFault" 762),some (vb "Exception.__new__"),some vt]),
 (431,sq (vT "tuple") false 0 [(vs "Int8" 772),(vs "Int16" 773),(vs "Int32" 774),(vs "Int64" 775),(vs "BigInt" 776)] 0),
 (432,sq (vT "tuple") false 0 [(vs "UInt8" 778),(vs "UInt16" 779),(vs "UInt32" 780),(vs "UInt64" 781)] 0),
 (433,sq (vT "tuple") false 0 [(vs "DivideError" 783),(vs "InexactError" 784),(vs "TypeError" 785),(vs "StackOverflowError" 786)] 0),
 (434,sq (vT "tuple") false 0 [(vs "ArgumentError" 788),(vs "OverflowError" 789),(vs "DimensionMismatch" 790),(vs "ErrorException" 791)] 0),
 (435,sq (vT "tuple") false 0 [(vs "MethodError" 793),(vs "AmbiguousError" 794)] 0),
 (443,sq (vT "tuple") false 0 [] 0),
 (444,sq (vT "tuple") false 0 [vf,(vr 443)] 0),
 (450,co "__init__" "Decl.__init__" 808 399 7 445 0 447 448 449 818),
 (451,fo (sm 43 0) "Decl.__init__" 444 (vs "methodrows.kinds" 770) 450),
 (455,co "table_for" "Decl.table_for" 821 407 2 452 0 0 0 454 824),
 (456,fo (sm 43 1) "Decl.table_for" 0 (vs "methodrows.kinds" 770) 455),
 (460,co "whole" "Decl.whole" 827 410 1 457 0 0 0 459 830),
 (461,fo (sm 43 2) "Decl.whole" 0 (vs "methodrows.kinds" 770) 460),
 (467,co "field_kinds" "Decl.field_kinds" 833 413 2 462 0 464 465 466 838),
 (468,fo (sm 43 3) "Decl.field_kinds" 0 (vs "methodrows.kinds" 770) 467),
 (470,dj P [("__module__",803,(vs "methodrows.kinds" 770)),("__firstlineno__",807,(vi 397 806)),("__init__",820,(vr 451)),("table_for",826,(vr 456)),("whole",832,(vr 461)),("field_kinds",840,(vr 468)),("__static_attributes__",847,(vr 469)),("__dict__",849,(vr 472)),("__weakref__",851,(vr 473)),("__doc__",852,vn)] 4),
 (471,cl "Decl" [(vT "object")] [(vr 471),(vT "object")] 470 [none,none,some (vs "Decl" 796),some (vs "Decl" 804),some (vb "object.__new__"),some vt]),
 (472,fl (vT "getset_descriptor") false 0 [(vs "__dict__" 848),(vr 471),(vb "function.__dict__"),(vb "function.__dict__#set")]),
 (473,fl (vT "getset_descriptor") false 0 [(vs "__weakref__" 850),(vr 471),(vb "ExceptionGroup.__weakref__"),vn]),
 (488,co "__init__" "Kinds.__init__" 867 417 1 483 0 485 486 487 871),
 (489,fo (sm 44 0) "Kinds.__init__" 0 (vs "methodrows.kinds" 770) 488),
 (493,co "declare" "Kinds.declare" 874 420 2 490 0 0 0 492 877),
 (494,fo (sm 44 1) "Kinds.declare" 0 (vs "methodrows.kinds" 770) 493),
 (500,co "is_declared" "Kinds.is_declared" 880 436 2 495 0 497 498 499 885),
 (501,fo (sm 44 2) "Kinds.is_declared" 0 (vs "methodrows.kinds" 770) 500),
 (507,co "decl" "Kinds.decl" 888 439 2 502 0 504 505 506 893),
 (508,fo (sm 44 3) "Kinds.decl" 0 (vs "methodrows.kinds" 770) 507),
 (514,co "super_of" "Kinds.super_of" 896 444 2 509 0 511 512 513 902),
 (515,fo (sm 44 4) "Kinds.super_of" 0 (vs "methodrows.kinds" 770) 514),
 (521,co "supers" "Kinds.supers" 905 454 2 516 0 518 519 520 911),
 (522,fo (sm 44 5) "Kinds.supers" 0 (vs "methodrows.kinds" 770) 521),
 (528,co "under" "Kinds.under" 914 460 2 523 0 525 526 527 924),
 (529,fo (sm 44 6) "Kinds.under" 0 (vs "methodrows.kinds" 770) 528),
 (535,co "applied" "Kinds.applied" 927 471 3 530 0 532 533 534 933),
 (536,fo (sm 44 7) "Kinds.applied" 0 (vs "methodrows.kinds" 770) 535),
 (542,co "is_within" "Kinds.is_within" 936 474 4 537 0 539 540 541 943),
 (543,fo (sm 44 8) "Kinds.is_within" 0 (vs "methodrows.kinds" 770) 542),
 (549,co "whole" "Kinds.whole" 946 479 2 544 0 546 547 548 956),
 (550,fo (sm 44 9) "Kinds.whole" 0 (vs "methodrows.kinds" 770) 549),
 (554,co "is_concrete" "Kinds.is_concrete" 959 486 2 551 0 0 0 553 962),
 (555,fo (sm 44 10) "Kinds.is_concrete" 0 (vs "methodrows.kinds" 770) 554),
 (557,dj P [("__module__",862,(vs "methodrows.kinds" 770)),("__firstlineno__",866,(vi 415 865)),("__init__",873,(vr 489)),("declare",879,(vr 494)),("is_declared",887,(vr 501)),("decl",895,(vr 508)),("super_of",904,(vr 515)),("supers",913,(vr 522)),("under",926,(vr 529)),("applied",935,(vr 536)),("is_within",945,(vr 543)),("whole",958,(vr 550)),("is_concrete",964,(vr 555)),("__static_attributes__",966,(vr 556)),("__dict__",968,(vr 559)),("__weakref__",970,(vr 560)),("__doc__",971,vn)] 4),
 (558,cl "Kinds" [(vT "object")] [(vr 558),(vT "object")] 557 [none,none,some (vs "Kinds" 855),some (vs "Kinds" 863),some (vb "object.__new__"),some vt]),
 (559,fl (vT "getset_descriptor") false 0 [(vs "__dict__" 967),(vr 558),(vb "function.__dict__"),(vb "function.__dict__#set")]),
 (560,fl (vT "getset_descriptor") false 0 [(vs "__weakref__" 969),(vr 558),(vb "ExceptionGroup.__weakref__"),vn]),
 (563,sq (vT "tuple") false 0 [vf] 0),
 (569,co "nominal" "nominal" 974 492 4 564 0 566 567 568 981),
 (570,fo (st 45) "nominal" 563 (vs "methodrows.kinds" 770) 569),
 (576,co "start_kinds" "start_kinds" 984 494 0 571 0 573 574 575 990),
 (577,fo (st 46) "start_kinds" 0 (vs "methodrows.kinds" 770) 576),
 (583,co "start_errors" "start_errors" 993 514 1 578 0 580 581 582 999),
 (584,fo (st 47) "start_errors" 0 (vs "methodrows.kinds" 770) 583),
 (590,co "start_rows" "start_rows" 1002 524 1 585 0 587 588 589 1013),
 (591,fo (st 48) "start_rows" 0 (vs "methodrows.kinds" 770) 590),
 (597,co "_law_keg" "_law_keg" 1018 539 1 592 0 594 595 596 1024),
 (598,fo (st 50) "_law_keg" 0 (vs "law_pc0216_01" 1016) 597),
 (604,co "_law_sip" "_law_sip" 1027 543 2 599 0 601 602 603 1033),
 (605,fo (st 51) "_law_sip" 0 (vs "law_pc0216_01" 1016) 604),
 (611,co "_law_plain" "_law_plain" 1036 550 1 606 0 608 609 610 1040),
 (612,fo (st 52) "_law_plain" 0 (vs "law_pc0216_01" 1016) 611),
 (618,co "_law_list_of" "_law_list_of" 1043 552 1 613 0 615 616 617 1047),
 (619,fo (st 53) "_law_list_of" 0 (vs "law_pc0216_01" 1016) 618),
 (625,co "_law_member" "_law_member" 1050 554 2 620 0 622 623 624 1056),
 (626,fo (st 54) "_law_member" 0 (vs "law_pc0216_01" 1016) 625),
 (630,co "_law_kind" "_law_kind" 1059 557 3 627 0 0 0 629 1062),
 (631,fo (st 55) "_law_kind" 0 (vs "law_pc0216_01" 1016) 630),
 (637,co "_law_given" "_law_given" 1065 561 2 632 0 634 635 636 1072),
 (638,fo (st 56) "_law_given" 0 (vs "law_pc0216_01" 1016) 637),
 (644,co "_law_is_under" "_law_is_under" 1075 567 2 639 0 641 642 643 1081),
 (645,fo (st 57) "_law_is_under" 0 (vs "law_pc0216_01" 1016) 644),
 (651,co "_law_is_member" "_law_is_member" 1084 570 2 646 0 648 649 650 1089),
 (652,fo (st 58) "_law_is_member" 0 (vs "law_pc0216_01" 1016) 651),
 (656,co "_law_often" "_law_often" 1092 576 2 653 0 0 0 655 1095),
 (657,fo (st 59) "_law_often" 0 (vs "law_pc0216_01" 1016) 656),
 (661,co "_law_choices" "_law_choices" 1098 581 4 658 0 0 0 660 1101),
 (662,fo (st 60) "_law_choices" 0 (vs "law_pc0216_01" 1016) 661),
 (666,co "_law_due" "_law_due" 1104 588 4 663 0 0 0 665 1107),
 (667,fo (st 61) "_law_due" 0 (vs "law_pc0216_01" 1016) 666),
 (673,co "_law_bounds_right" "_law_bounds_right" 1110 597 4 668 0 670 671 672 1123),
 (674,fo (st 62) "_law_bounds_right" 0 (vs "law_pc0216_01" 1016) 673),
 (678,co "law" "law" 1126 607 1 675 0 0 0 677 1129),
 (679,fo (st 63) "law" 0 (vs "law_pc0216_01" 1016) 678)]
noncomputable def aa:List Addr:=[2,3,20,21,22,23,24,25,26,32,33,34,40,41,47,48,54,55,61,62,66,67,71,72,78,79,83,84,97,98,104,105,111,112,118,119,125,126,128,129,130,131,141,147,148,154,155,161,162,168,169,175,176,180,181,187,188,194,195,201,202,204,205,206,207,213,214,220,221,227,228,232,233,237,238,242,243,249,250,251,252,253,254,267,268,274,275,281,282,288,289,295,296,302,303,307,308,312,313,317,318,322,323,329,330,334,335,341,342,348,349,351,352,353,354,362,363,369,370,376,377,381,382,383,389,390,396,397,405,411,412,414,416,427,428,431,432,433,434,435,443,444,450,451,455,456,460,461,467,468,470,471,472,473,488,489,493,494,500,501,507,508,514,515,521,522,528,529,535,536,542,543,549,550,554,555,557,558,559,560,563,569,570,576,577,583,584,590,591,597,598,604,605,611,612,618,619,625,626,630,631,637,638,644,645,651,652,656,657,661,662,666,667,673,674,678,679]
theorem aa_eq (P:Params):aa = (KK P).map (·.1):=by kernel_rfl
noncomputable abbrev law:OpenLaw:=PySem.Challenge.rw_pc0216_01
noncomputable def loose:List Str:=["_wall","ANY","BOTTOM","named","tuple_of","union_of","parts_of_kind","rebuilt_kind","substituted","free_vars","binder_text","kind_text","MOST_CASES","Side","Sides","occurrences","bound_occurrences","is_diagonal","left_cases","tuple_cases","is_empty","tail_of","TYPE","FUNCTION","Search","narrowed","widened","has_within","tuple_ways","is_subtype","same_kind","RowsError","KindFault","SIGNED","UNSIGNED","PLAIN_ERRORS","TEXT_ERRORS","CALL_ERRORS","Decl","Kinds","nominal","start_kinds","start_errors","start_rows","_law_keg","_law_sip","_law_plain","_law_list_of","_law_member","_law_kind","_law_given","_law_is_under","_law_is_member","_law_often","_law_choices","_law_due","_law_bounds_right"].map Str.ofString
noncomputable def qv:Program:=view pg [63]
noncomputable abbrev hook:Hook:=kHook KK aa aa_eq
noncomputable def Xt (s:Shared):Bool:=xlAt qv [] s && recOk (RowW.records law.row.toRowW) s
noncomputable def seenF:=PySem.W.Fast.tw4187177175401517315
theorem seenF_eq:@openSeen = seenF:=PySem.W.Fast.te4187177175401517315
noncomputable def S0 (w:World) (os:OsState):SharedT:=⟨btOf 0 .nil (boot_heap w.params).objs.toList,11,(boot_heap w.params).life,Array.mk [],boot_drawn,boot_toks,os⟩
section
variable {p q:Program} {lo mods:List Str} {Xt:Shared→Bool} {α:Type} {Yf:Shared→α} {Ya:World→α}
noncomputable abbrev looks (H:Params→Heap) (p:Program) (sn:Shared→β) (Yf:Shared→α) (w:World) (s:Shared):Bool×β×α:=
 ((staticsOk (importedModules p.main.body) (H w.params) s.heap && namesBound p s.heap && gensDone s && laidKept (H w.params) s.heap),sn s,Yf s)
theorem left_of {N M k n₀:Nat} {ann:Option Value} {H:Params→Heap} {gs:Array GenState} {d:Drawn} {tk:Nat} {S:World→OsState→SharedT}
 (ho:∀ w:World,(fencedOpening treeTable p w N).map (λs=>(s.heap,s.gens,s.drawn,s.toks)) = some (H w.params,gs,d,tk))
 (hz:∀ w:World,((H w.params).isNs mainGlobals && gs.size == 0) = true) (hn:∀ P,(H P).objs.size = n₀) (ha:∀ P,(H P).nsMap mainGlobals "__annotations__" = ann)
 (hS:∀ w os,(S w os).abs = ⟨H w.params,gs,d,tk,os⟩) (hN:M + k = N)
 (hr:∀ w os,(tRun (stepT (denote treeTable) p w) (stepOk n₀ ann) M (S w os) (topStub p)).map (λs=>looks H p (openSeen q lo (importedModules p.main.body) Xt true) Yf w s.abs) = some (true,openGood q lo,Ya w)) :
 LeftO p q lo Xt Yf Ya N:=λw=>by
 obtain ⟨⟨h,gs,d,tk,os⟩,e,e'⟩:=Option.map_eq_some_iff.mp (ho w)
 simp only [Prod.mk.injEq] at e'
 obtain ⟨rfl,rfl,rfl,rfl⟩:=e'
 obtain ⟨s',r1,r2⟩:=Option.map_eq_some_iff.mp (hr w os)
 have t:=topRun_mono k _ _ _ _ (tRun_ok r1)
 rw [hS,hN] at t
 simp only [looks,Prod.mk.injEq] at r2
 unfold openEnds
 rw [e]
 show (topFrom treeTable p w N _).map _ = _
 unfold topFrom
 dsimp only
 rw [hz,hn,ha,t]
 dsimp only [Option.bind_some]
 rw [r2.1]
 exact congrArg some (Prod.ext r2.2.1 r2.2.2)
end
theorem ran (w:World) (os:OsState):(tRun (stepF pg w) (okF 11 (some (.ref 6))) 6000 (S0 w os) (topStub pg)).map (λs=>looks boot_heap pg (seenF qv loose (importedModules pg.main.body) Xt true) hook.obs w s.abs) = some (true,openGood qv loose,hook.val w):=by kernel_rfl
theorem ran' (w:World) (os:OsState):(tRun (stepT (denote treeTable) pg w) (stepOk 11 (some (.ref 6))) 6000 (S0 w os) (topStub pg)).map (λs=>looks boot_heap pg (openSeen qv loose (importedModules pg.main.body) Xt true) hook.obs w s.abs) = some (true,openGood qv loose,hook.val w):=by
 rw [stepF_eq,okF_eq,seenF_eq]
 exact ran w os
theorem S0_abs (w:World) (os:OsState):(S0 w os).abs = ⟨boot_heap w.params,Array.mk [],boot_drawn,boot_toks,os⟩:=by kernel_rfl
theorem zero (w:World):((boot_heap w.params).isNs mainGlobals && (Array.mk []:Array GenState).size == 0) = true:=by kernel_rfl
theorem opn:opening pg = plainProg pg.main.scope.names:=rfl
theorem fen (s:Shared):fenceModules? pg s = some s:=rfl
theorem left:LeftO law.row.toRowW.prog qv loose Xt hook.obs hook.val 8568:=left_of (k:=2568) (boot_open opn rfl fen) zero n0 ann0 S0_abs rfl ran'
noncomputable def saidF:OpenLaw→Bool:=PySem.W.Fast.tw9446332074065402090
theorem said:law.wellSaid = true:=by
 have e:@OpenLaw.wellSaid = saidF:=PySem.W.Fast.te9446332074065402090
 rw [e]
 kernel_rfl
end Mine.Head
end
end
namespace Mine
open PySem PySem.W PyProof.Rows
section
set_option autoImplicit true
inductive V where
 | none
 | bool (b:Bool)
 | int (i:Int)
 | str (s:Str)
 | tup (l:List V)
 | lst (l:List V)
 | dct (ks:List Str) (vs:List V)
 | ins (c:Nat) (l:List V)
 | ref (i:Nat)
 | obj (c:Nat) (i:Nat)
deriving Inhabited
inductive O where
 | list (l:List V)
 | dict (ks:List Str) (vs:List V)
 | recd (c:Nat) (l:List V)
deriving Inhabited
noncomputable abbrev H:=List O
inductive Slot where
 | v (x:V)
 | own (l:List V)
deriving Inhabited
noncomputable abbrev Rho:=List (Option Slot)
inductive Op where | add | sub | mul | fdiv | mod
inductive Cp where | eq | ne | lt | le | gt | ge | isIn | notIn
inductive Sl where | rev | from1 | revTo1 | upto
inductive Bi where | len | list | tuple | dict | int | str | max1 | max2 | min2 | sum | sorted
inductive Tg where
 | one (i:Nat)
 | two (i j:Nat)
mutual
inductive E where
 | bad
 | cst (v:V)
 | neg (i:Int)
 | pow (a b:Nat)
 | var (i:Nat)
 | glo (x:Str) (v:V)
 | tup (es:List E)
 | lst (es:List E)
 | dct (es:List E)
 | shr (e:E)
 | bin (op:Op) (a b:E)
 | cmp (c:Cp) (a b:E)
 | isN (yes:Bool) (a:E)
 | conj (es:List E)
 | disj (es:List E)
 | not (a:E)
 | ife (t a b:E)
 | idx (a i:E)
 | slc (k:Sl) (a n:E)
 | attr (a:E) (cl k:Nat) (x:Str)
 | callF (f:Nat) (args:List E)
 | callM (f cl:Nat) (a:E) (args:List E)
 | bi (b:Bi) (args:List E)
 | sortK (f:Nat) (a:E)
 | get2 (d k x:E)
 | join (s:Str) (a:E)
 | split (a:E) (s:Str)
 | comp (elt:E) (gs:List G)
inductive It where
 | plain (e:E)
 | range (a:E)
 | zip (a b:E)
inductive G where
 | mk (t:Tg) (it:It) (ifs:List E)
end
inductive S where
 | bad
 | asg (i:Nat) (e:E)
 | own (i:Nat) (e:E)
 | un (is:List Nat) (e:E)
 | un2 (i j:Nat) (oi oj:Bool) (a b:E)
 | pop (is:List Nat) (one:Bool) (l:Nat)
 | app (l:Nat) (e:E)
 | ext (l:Nat) (e:E)
 | seta (o:Nat) (cl k:Nat) (x:Str) (e:E)
 | seti (d k e:E)
 | expr (e:E)
 | ite (t:E) (a b:List S)
 | whl (t:E) (b:List S)
 | fr (t:Tg) (e:It) (b:List S)
 | ret (e:E)
 | retO (i:Nat)
theorem nn {α:Type} {a:α} {G:Prop} (h:none = some a):G:=nomatch h
theorem ff {p:Prop} (h:false = true):p:=nomatch h
section
variable {β:Type}
noncomputable def oBool (v:V) (k:Bool→Option β):Option β:=v.casesOn none k (λ_=>none) (λ_=>none) (λ_=>none) (λ_=>none) (λ_ _=>none) (λ_ _=>none) (λ_=>none) (λ_ _=>none)
@[simp] theorem oBool_bool (x:Bool) (k:Bool→Option β):oBool (.bool x) k = k x:=rfl
@[elab_as_elim] theorem oBool_is {M:V→Prop} {v:V} {k:Bool→Option β} {r:β} (h:oBool v k = some r) (c:∀ x,k x = some r→M (.bool x)):M v:=v.casesOn (motive_1:=λv=>oBool v k = some r→M v) nn c (λ_=>nn) (λ_=>nn) (λ_=>nn) (λ_=>nn) (λ_ _=>nn) (λ_ _=>nn) (λ_=>nn) (λ_ _=>nn) h
noncomputable def oInt (v:V) (k:Int→Option β):Option β:=v.casesOn none (λ_=>none) k (λ_=>none) (λ_=>none) (λ_=>none) (λ_ _=>none) (λ_ _=>none) (λ_=>none) (λ_ _=>none)
@[simp] theorem oInt_int (x:Int) (k:Int→Option β):oInt (.int x) k = k x:=rfl
@[elab_as_elim] theorem oInt_is {M:V→Prop} {v:V} {k:Int→Option β} {r:β} (h:oInt v k = some r) (c:∀ x,k x = some r→M (.int x)):M v:=v.casesOn (motive_1:=λv=>oInt v k = some r→M v) nn (λ_=>nn) c (λ_=>nn) (λ_=>nn) (λ_=>nn) (λ_ _=>nn) (λ_ _=>nn) (λ_=>nn) (λ_ _=>nn) h
noncomputable def oStr (v:V) (k:Str→Option β):Option β:=v.casesOn none (λ_=>none) (λ_=>none) k (λ_=>none) (λ_=>none) (λ_ _=>none) (λ_ _=>none) (λ_=>none) (λ_ _=>none)
@[simp] theorem oStr_str (x:Str) (k:Str→Option β):oStr (.str x) k = k x:=rfl
@[elab_as_elim] theorem oStr_is {M:V→Prop} {v:V} {k:Str→Option β} {r:β} (h:oStr v k = some r) (c:∀ x,k x = some r→M (.str x)):M v:=v.casesOn (motive_1:=λv=>oStr v k = some r→M v) nn (λ_=>nn) (λ_=>nn) c (λ_=>nn) (λ_=>nn) (λ_ _=>nn) (λ_ _=>nn) (λ_=>nn) (λ_ _=>nn) h
noncomputable def oTup (v:V) (k:List V→Option β):Option β:=v.casesOn none (λ_=>none) (λ_=>none) (λ_=>none) k (λ_=>none) (λ_ _=>none) (λ_ _=>none) (λ_=>none) (λ_ _=>none)
@[simp] theorem oTup_tup (x:List V) (k:List V→Option β):oTup (.tup x) k = k x:=rfl
@[elab_as_elim] theorem oTup_is {M:V→Prop} {v:V} {k:List V→Option β} {r:β} (h:oTup v k = some r) (c:∀ x,k x = some r→M (.tup x)):M v:=v.casesOn (motive_1:=λv=>oTup v k = some r→M v) nn (λ_=>nn) (λ_=>nn) (λ_=>nn) c (λ_=>nn) (λ_ _=>nn) (λ_ _=>nn) (λ_=>nn) (λ_ _=>nn) h
noncomputable def oLst (v:V) (k:List V→Option β):Option β:=v.casesOn none (λ_=>none) (λ_=>none) (λ_=>none) (λ_=>none) k (λ_ _=>none) (λ_ _=>none) (λ_=>none) (λ_ _=>none)
@[simp] theorem oLst_lst (x:List V) (k:List V→Option β):oLst (.lst x) k = k x:=rfl
@[elab_as_elim] theorem oLst_is {M:V→Prop} {v:V} {k:List V→Option β} {r:β} (h:oLst v k = some r) (c:∀ x,k x = some r→M (.lst x)):M v:=v.casesOn (motive_1:=λv=>oLst v k = some r→M v) nn (λ_=>nn) (λ_=>nn) (λ_=>nn) (λ_=>nn) c (λ_ _=>nn) (λ_ _=>nn) (λ_=>nn) (λ_ _=>nn) h
noncomputable def oDct (v:V) (k:List Str→List V→Option β):Option β:=v.casesOn none (λ_=>none) (λ_=>none) (λ_=>none) (λ_=>none) (λ_=>none) k (λ_ _=>none) (λ_=>none) (λ_ _=>none)
@[simp] theorem oDct_dct (x:List Str) (y:List V) (k:List Str→List V→Option β):oDct (.dct x y) k = k x y:=rfl
@[elab_as_elim] theorem oDct_is {M:V→Prop} {v:V} {k:List Str→List V→Option β} {r:β} (h:oDct v k = some r) (c:∀ x y,k x y = some r→M (.dct x y)):M v:=v.casesOn (motive_1:=λv=>oDct v k = some r→M v) nn (λ_=>nn) (λ_=>nn) (λ_=>nn) (λ_=>nn) (λ_=>nn) c (λ_ _=>nn) (λ_=>nn) (λ_ _=>nn) h
noncomputable def o1 {α:Type} (l:List α) (k:α→Option β):Option β:=l.casesOn none λa l=>l.casesOn (k a) λ_ _=>none
@[simp] theorem o1_1 {α:Type} (a:α) (k:α→Option β):o1 [a] k = k a:=rfl
@[elab_as_elim] theorem o1_is {α:Type} {M:List α→Prop} {l:List α} {k:α→Option β} {r:β} (h:o1 l k = some r) (c:∀ a,k a = some r→M [a]):M l:=
 l.casesOn (motive:=λl=>o1 l k = some r→M l) nn (λa l=>l.casesOn (motive:=λl=>o1 (a :: l) k = some r→M (a :: l)) (c a) λ_ _=>nn) h
noncomputable def o2 {α:Type} (l:List α) (k:α→α→Option β):Option β:=l.casesOn none λa l=>o1 l (k a)
@[simp] theorem o2_2 {α:Type} (a b:α) (k:α→α→Option β):o2 [a,b] k = k a b:=rfl
@[elab_as_elim] theorem o2_is {α:Type} {M:List α→Prop} {l:List α} {k:α→α→Option β} {r:β} (h:o2 l k = some r) (c:∀ a b,k a b = some r→M [a,b]):M l:=
 l.casesOn (motive:=λl=>o2 l k = some r→M l) nn (λa l h=>o1_is h (c a)) h
noncomputable def gd (c:Bool) (o:Option β):Option β:=cond c o none
@[simp] theorem gd_true (o:Option β):gd true o = o:=rfl
@[simp] theorem gd_false (o:Option β):gd false o = none:=rfl
theorem gd_is {G:Prop} {c:Bool} {o:Option β} {r:β} (h:gd c o = some r) (k:c = true→o = some r→G):G:=c.casesOn (motive:=λc'=>c = c'→gd c' o = some r→G) (λ_=>nn) k rfl h
noncomputable def b2 {α:Type} (o:Option (α×H)) (k:α→H→Option β):Option β:=o.casesOn none λp=>k p.1 p.2
@[simp] theorem b2_some {α:Type} (x:α) (σ:H) (k:α→H→Option β):b2 (some (x,σ)) k = k x σ:=rfl
@[simp] theorem b2_none {α:Type} (k:α→H→Option β):b2 none k = none:=rfl
theorem b2_is {α:Type} {o:Option (α×H)} {k:α→H→Option β} {r:β} {G:Prop} (h:b2 o k = some r) (c:∀ x σ,o = some (x,σ)→k x σ = some r→G):G:=
 o.casesOn (motive:=λo'=>o = o'→b2 o' k = some r→G) (λ_=>nn) (λp e h=>c p.1 p.2 e h) rfl h
noncomputable def b1 {α:Type} (o:Option α) (k:α→Option β):Option β:=o.casesOn none k
@[simp] theorem b1_some {α:Type} (x:α) (k:α→Option β):b1 (some x) k = k x:=rfl
@[simp] theorem b1_none {α:Type} (k:α→Option β):b1 none k = none:=rfl
theorem b1_is {α:Type} {o:Option α} {k:α→Option β} {r:β} {G:Prop} (h:b1 o k = some r) (c:∀ x,o = some x→k x = some r→G):G:=
 o.casesOn (motive:=λo'=>o = o'→b1 o' k = some r→G) (λ_=>nn) (λp e h=>c p e h) rfl h
end
@[elab_as_elim] theorem some_is {α:Type} {M:α→Prop} {a b:α} (h:some a = some b) (m:M a):M b:=Option.some.inj h ▸ m
theorem pr_is {α β:Type} {M:α→β→Prop} {a a':α} {b b':β} (h:some (a,b) = some (a',b')) (m:M a b):M a' b':=some_is (M:=λp=>M p.1 p.2) h m
noncomputable def wS {α:Type} (o:Option α) (σ:H):Option (α×H):=b1 o λv=>some (v,σ)
@[simp] theorem wS_some {α:Type} (v:α) (σ:H):wS (some v) σ = some (v,σ):=rfl
@[elab_as_elim] theorem wS_is {α:Type} {M:α→H→Prop} {o:Option α} {σ σ':H} {v:α} (h:wS o σ = some (v,σ')) (c:∀ v,o = some v→M v σ):M v σ':=b1_is h λx e h=>pr_is h (c x e)
noncomputable def bT {β:Type} (o:Option (V×H)) (t f:H→Option β):Option β:=b2 o λv σ=>oBool v λb=>cond b (t σ) (f σ)
@[simp] theorem bT_true {β:Type} (σ:H) (t f:H→Option β):bT (some (.bool true,σ)) t f = t σ:=rfl
@[simp] theorem bT_false {β:Type} (σ:H) (t f:H→Option β):bT (some (.bool false,σ)) t f = f σ:=rfl
@[simp] theorem bT_none {β:Type} (t f:H→Option β):bT none t f = none:=rfl
theorem bT_is {β:Type} {o:Option (V×H)} {t f:H→Option β} {r:β} {G:Prop} (h:bT o t f = some r) (c:∀ b σ,o = some (.bool b,σ)→cond b (t σ) (f σ) = some r→G):G:=
 b2_is h λv σ e h=>oBool_is (M:=λv=>o = some (v,σ)→G) h (λb h e=>c b σ e h) e
mutual
noncomputable def py:V→PyData
 | .none=>.none
 | .bool b=>.bool b
 | .int i=>.int i
 | .str s=>.str s
 | .tup l=>.tuple (pys l)
 | .lst l=>.list (pys l)
 | .dct _ _=>.dict []
 | .ins _ _=>.dict []
 | .ref _=>.dict []
 | .obj _ _=>.dict []
noncomputable def pys:List V→List PyData
 | []=>[]
 | v :: l=>py v :: pys l
end
noncomputable def okPair (a b:V):Bool:=(py a).canLay0 && ((py b).canLay0 && Nat.ble (min (py a).depth (py b).depth) 60)
noncomputable def eqOp1 (a b:V):Option Bool:=gd (okPair a b) (some (PyData.eqv (py a) (py b)))
noncomputable def isNil (b:V):Bool:=if h:b.ctorIdx = 5 then V.lst.elim b h λl=>l.isEmpty else false
noncomputable def eqOp (a b:V):Option Bool:=cond (isNil b) (if a.ctorIdx = 5 then oLst a λl=>some l.isEmpty else eqOp1 a b) (eqOp1 a b)
noncomputable def drO (v:V) (o:Option O):V:=o.casesOn v λo=>o.casesOn V.lst V.dct λ_ _=>v
noncomputable def dr (σ:H) (v:V):V:=if h:v.ctorIdx = 8 then V.ref.elim v h λi=>drO v σ[i]? else v
noncomputable def lk:List Str→List V→Str→Option V
 | [],_,_=>none
 | k :: ks,vs,x=>vs.casesOn none λv vs=>if x = k then some v else lk ks vs x
noncomputable def small (i:Int):Bool:=decide (-9223372036854775808 < i) && decide (i < 9223372036854775808)
noncomputable def seqOf (v:V):Option (List V):=v.casesOn none (λ_=>none) (λ_=>none) (λ_=>none) (λl=>some l) (λl=>some l) (λ_ _=>none) (λ_ _=>none) (λ_=>none) (λ_ _=>none)
noncomputable def inSeq (a:V) (l:List V):Option Bool:=gd (okPair (.lst l) a) (some ((pys l).any λy=>PyData.eqv y (py a)))
noncomputable def isInOp (a b:V):Option Bool:=V.casesOn b none (λ_=>none) (λ_=>none) (λ_=>none) (λl=>inSeq a l) (λl=>inSeq a l) (λks _=>oStr a λx=>some (ks.contains x)) (λ_ _=>none) (λ_=>none) (λ_ _=>none)
noncomputable def cmpOp (c:Cp) (a b:V):Option Bool:=match c with
 | .eq=>eqOp a b
 | .ne=>b1 (eqOp a b) λr=>some (!r)
 | .lt=>oInt a λa=>oInt b λb=>some (decide (a < b))
 | .le=>oInt a λa=>oInt b λb=>some (decide (a ≤ b))
 | .gt=>oInt a λa=>oInt b λb=>some (decide (b < a))
 | .ge=>oInt a λa=>oInt b λb=>some (decide (b ≤ a))
 | .isIn=>isInOp a b
 | .notIn=>b1 (isInOp a b) λr=>some (!r)
noncomputable def shortStr (s:Str):Bool:=Nat.ble s.length 4000
noncomputable def shortL (l:List V):Bool:=Nat.ble l.length 4000
noncomputable def addOp (a b:V):Option V:=V.casesOn a none (λ_=>none) (λi=>oInt b λj=>some (.int (i + j))) (λx=>oStr b λy=>gd (shortStr x && shortStr y) (some (.str (x ++ y)))) (λl=>oTup b λm=>gd (shortL l && shortL m) (some (.tup (l ++ m)))) (λl=>oLst b λm=>gd (shortL l && shortL m) (some (.lst (l ++ m)))) (λ_ _=>none) (λ_ _=>none) (λ_=>none) (λ_ _=>none)
noncomputable def mulOp (a b:V):Option V:=V.casesOn a none (λ_=>none) (λi=>oInt b λj=>gd (small i && small j) (some (.int (i * j)))) (λ_=>none) (λ_=>none) (λl=>oInt b λk=>gd (small k && Nat.ble (l.length * k.toNat) 4000) (some (.lst (List.replicate k.toNat l).flatten))) (λ_ _=>none) (λ_ _=>none) (λ_=>none) (λ_ _=>none)
noncomputable def binOp (o:Op) (a b:V):Option V:=match o with
 | .add=>addOp a b
 | .sub=>oInt a λa=>oInt b λb=>some (.int (a - b))
 | .mul=>mulOp a b
 | .fdiv=>oInt a λa=>oInt b λb=>gd (decide (0 < b) && decide (b < 1073741824)) (some (.int (Int.fdiv a b)))
 | .mod=>oInt a λa=>oInt b λb=>gd (decide (0 < b)) (some (.int (Int.fmod a b)))
noncomputable def place (l:List V) (k:Int):Option V:=gd (small k) (if 0 ≤ k then l[k.toNat]? else gd (decide (-(l.length:Int) ≤ k)) l[((l.length:Int) + k).toNat]?)
noncomputable def idxOp (a i:V):Option V:=V.casesOn i none (λ_=>none) (λk=>b1 (seqOf a) λl=>place l k) (λx=>oDct a λks vs=>lk ks vs x) (λ_=>none) (λ_=>none) (λ_ _=>none) (λ_ _=>none) (λ_=>none) (λ_ _=>none)
noncomputable def slcOp (k:Sl) (a n:V):Option V:=match k with
 | .rev=>oLst a λl=>gd (shortL l) (some (.lst l.reverse))
 | .from1=>oTup a λl=>l.casesOn none λ_ l=>gd (shortL l) (some (.tup l))
 | .revTo1=>oLst a λl=>gd (shortL l) (some (.lst (l.drop 1).reverse))
 | .upto=>oLst a λl=>oInt n λk=>gd (shortL l && (decide (0 ≤ k) && decide (k < 4000))) (some (.lst (l.take k.toNat)))
noncomputable def pairs?:List V→Option (List Str×List V)
 | []=>some ([],[])
 | p :: r=>oTup p λl=>o2 l λk v=>oStr k λk=>b1 (pairs? r) λq=>gd (!q.1.contains k) (some (k :: q.1,v :: q.2))
noncomputable def ints?:List V→Option (List Int)
 | []=>some []
 | i :: r=>oInt i λi=>b1 (ints? r) λq=>some (i :: q)
noncomputable def strs?:List V→Option (List Str)
 | []=>some []
 | i :: r=>oStr i λi=>b1 (strs? r) λq=>some (i :: q)
noncomputable def maxs:List Int→Option Int
 | []=>none
 | a :: r=>some (r.foldl max a)
noncomputable def sort2 (a b:Str):List Str:=if b.cps.toList < a.cps.toList then [b,a] else [a,b]
noncomputable def sortKs (l:List Str):Option (List Str):=l.casesOn (some []) λa l=>l.casesOn (some [a]) λb l=>l.casesOn (some (sort2 a b)) λ_ _=>none
noncomputable def lenOp (a:V):Option V:=V.casesOn a none (λ_=>none) (λ_=>none) (λ_=>none) (λl=>gd (shortL l) (some (.int l.length))) (λl=>gd (shortL l) (some (.int l.length))) (λks _=>gd (Nat.ble ks.length 4000) (some (.int ks.length))) (λ_ _=>none) (λ_=>none) (λ_ _=>none)
noncomputable def listOp (a:V):Option V:=V.casesOn a none (λ_=>none) (λ_=>none) (λ_=>none) (λl=>gd (shortL l) (some (.lst l))) (λl=>gd (shortL l) (some (.lst l))) (λ_ _=>none) (λ_ _=>none) (λ_=>none) (λ_ _=>none)
noncomputable def tupleOp (a:V):Option V:=V.casesOn a none (λ_=>none) (λ_=>none) (λ_=>none) (λl=>some (.tup l)) (λl=>gd (shortL l) (some (.tup l))) (λ_ _=>none) (λ_ _=>none) (λ_=>none) (λ_ _=>none)
noncomputable def dictOp (a:V):Option V:=V.casesOn a none (λ_=>none) (λ_=>none) (λ_=>none) (λ_=>none) (λl=>gd (shortL l) (b1 (pairs? l) λp=>some (.dct p.1 p.2))) (λks vs=>gd (Nat.ble ks.length 4000) (some (.dct ks vs))) (λ_ _=>none) (λ_=>none) (λ_ _=>none)
noncomputable def intOp (a:V):Option V:=V.casesOn a none (λb=>some (.int (cond b 1 0))) (λi=>some (.int i)) (λ_=>none) (λ_=>none) (λ_=>none) (λ_ _=>none) (λ_ _=>none) (λ_=>none) (λ_ _=>none)
noncomputable def biOp (b:Bi) (args:List V):Option V:=match b with
 | .len=>o1 args lenOp
 | .list=>o1 args listOp
 | .tuple=>o1 args tupleOp
 | .dict=>o1 args dictOp
 | .int=>o1 args intOp
 | .str=>o1 args λa=>oInt a λi=>gd (decide (0 ≤ i) && decide (i < 1000)) (some (.str (Str.ofString (toString i))))
 | .max1=>o1 args λa=>oLst a λl=>b1 (ints? l) λz=>b1 (maxs z) λm=>some (.int m)
 | .max2=>o2 args λa b=>oInt a λa=>oInt b λb=>some (.int (if b > a then b else a))
 | .min2=>o2 args λa b=>oInt a λa=>oInt b λb=>some (.int (if b < a then b else a))
 | .sum=>o1 args λa=>oLst a λl=>b1 (ints? l) λz=>gd (z.all (λi=>decide (0 ≤ i) && decide (i < 1000)) && Nat.ble z.length 4000) (some (.int z.sum))
 | .sorted=>o1 args λa=>oDct a λks _=>b1 (sortKs ks) λl=>some (.lst (l.map .str))
noncomputable def pairUp:List V→Option (List Str×List V)
 | []=>some ([],[])
 | [_]=>none
 | k :: v :: r=>oStr k λk=>b1 (pairUp r) λq=>some (k :: q.1,v :: q.2)
end
section
set_option autoImplicit true
noncomputable def getS (ρ:Rho) (i:Nat):Option Slot:=ρ[i]?.casesOn none id
noncomputable def gO {β:Type} (o:Option Slot) (k:List V→Option β):Option β:=o.casesOn none λs=>s.casesOn (λ_=>none) k
noncomputable def gV {β:Type} (o:Option Slot) (k:V→Option β):Option β:=o.casesOn none λs=>s.casesOn k λ_=>none
@[simp] theorem gV_v {β:Type} (v:V) (k:V→Option β):gV (some (.v v)) k = k v:=rfl
@[simp] theorem gO_own {β:Type} (l:List V) (k:List V→Option β):gO (some (.own l)) k = k l:=rfl
@[simp] theorem gO_v {β:Type} (v:V) (k:List V→Option β):gO (some (.v v)) k = none:=rfl
@[simp] theorem gO_none {β:Type} (k:List V→Option β):gO none k = none:=rfl
@[elab_as_elim] theorem gO_is {β:Type} {M:Option Slot→Prop} {o:Option Slot} {k:List V→Option β} {r:β} (h:gO o k = some r) (c:∀ l,k l = some r→M (some (.own l))):M o:=
 o.casesOn (motive:=λo=>gO o k = some r→M o) nn (λs=>s.casesOn (motive:=λs=>gO (some s) k = some r→M (some s)) (λ_=>nn) c) h
@[elab_as_elim] theorem gV_is {β:Type} {M:Option Slot→Prop} {o:Option Slot} {k:V→Option β} {r:β} (h:gV o k = some r) (c:∀ l,k l = some r→M (some (.v l))):M o:=
 o.casesOn (motive:=λo=>gV o k = some r→M o) nn (λs=>s.casesOn (motive:=λs=>gV (some s) k = some r→M (some s)) c λ_=>nn) h
noncomputable def brw (ρ:Rho) (e:E):Option (List V):=if h:e.ctorIdx = 4 then E.var.elim e h λi=>gO (getS ρ i) some else none
@[simp] theorem brw_var (ρ:Rho) (i:Nat):brw ρ (.var i) = gO (getS ρ i) some:=rfl
noncomputable def setV (ρ:Rho) (i:Nat) (x:V):Rho:=ρ.set i (some (.v x))
noncomputable def bindT (t:Tg) (ρ:Rho) (x:V):Option Rho:=t.casesOn (λi=>some (setV ρ i x)) λi j=>oTup x λl=>o2 l λa b=>some (setV (setV ρ i a) j b)
noncomputable def loopL (f:V→H→List V→Option (List V×H)):List V→H→List V→Option (List V×H)
 | [],σ,acc=>some (acc,σ)
 | x :: r,σ,acc=>b2 (f x σ acc) λacc σ=>loopL f r σ acc
noncomputable abbrev items (v:V):Option (List V):=seqOf v
noncomputable def upTo (n:Nat):List V:=(List.range n).map λ(i:Nat)=>V.int (i:Int)
noncomputable def zipV:List V→List V→List V
 | [],_=>[]
 | a :: l,m=>m.casesOn [] λb m=>.tup [a,b] :: zipV l m
noncomputable def keyed2 (f:V→H→Option (V×H)) (l:List V) (σ:H):Option (List V×H):=o2 l λa b=>b2 (f a σ) λx σ=>oStr x λka=>b2 (f b σ) λy σ=>oStr y λkb=>
 if kb.cps.toList < ka.cps.toList then some ([b,a],σ) else gd (decide (ka.cps.toList < kb.cps.toList)) (some ([a,b],σ))
noncomputable def allocs (v:V) (σ:H):Option (V×H):=v.casesOn none (λ_=>none) (λ_=>none) (λ_=>none) (λ_=>none) (λl=>some (.ref σ.length,σ ++ [.list l])) (λks vs=>some (.ref σ.length,σ ++ [.dict ks vs])) (λ_ _=>none) (λ_=>none) (λ_ _=>none)
noncomputable def recd {β:Type} (o:Option O) (k:Nat→List V→Option β):Option β:=o.casesOn none λo=>o.casesOn (λ_=>none) (λ_ _=>none) k
@[simp] theorem recd_recd {β:Type} (c:Nat) (l:List V) (k:Nat→List V→Option β):recd (some (.recd c l)) k = k c l:=rfl
theorem recd_is {β:Type} {G:Prop} {o:Option O} {k:Nat→List V→Option β} {r:β} (h:recd o k = some r) (c:∀ n l,o = some (.recd n l)→k n l = some r→G):G:=
 o.casesOn (motive:=λo'=>o = o'→recd o' k = some r→G) (λ_=>nn) (λs=>s.casesOn (motive:=λs=>o = some s→recd (some s) k = some r→G) (λ_ _=>nn) (λ_ _ _=>nn) λn l e h=>c n l e h) rfl h
noncomputable def clsF (σ:H) (v:V) (cl:Nat):Option (List V):=v.casesOn none (λ_=>none) (λ_=>none) (λ_=>none) (λ_=>none) (λ_=>none) (λ_ _=>none) (λc l=>gd (c == cl) (some l)) (λ_=>none)
 (λc i=>gd (c == cl) (recd σ[i]? λc' l=>gd (c' == cl) (some l)))
noncomputable def fieldOf (σ:H) (v:V) (cl k:Nat):Option V:=b1 (clsF σ v cl) λl=>l[k]?
noncomputable def isCls (σ:H) (cl:Nat) (v:V):Bool:=(clsF σ v cl).isSome
noncomputable def isDct (v:V):Bool:=decide (v.ctorIdx = 6)
noncomputable def noOwn (ρ:Rho):Rho:=ρ.map λs=>gV s λx=>some (.v x)
noncomputable def isFree (ρ:Rho) (i:Nat):Bool:=(getS ρ i).isNone
noncomputable def freeT (ρ:Rho) (t:Tg):Bool:=t.casesOn (isFree ρ) λi j=>isFree ρ i && (isFree ρ j && i != j)
noncomputable def freeGs (ρ:Rho):List G→Bool
 | []=>true
 | .mk t _ _ :: r=>freeT ρ t && freeGs ρ r
abbrev Orc:=Nat→List V→H→Option (V×H)
noncomputable def orB (b:Option (List V)) (σ:H) (k:Option (V×H)):Option (V×H):=b.casesOn k λl=>some (.lst l,σ)
@[simp] theorem orB_none (σ:H) (k:Option (V×H)):orB none σ k = k:=rfl
@[simp] theorem orB_some (l:List V) (σ:H) (k:Option (V×H)):orB (some l) σ k = some (.lst l,σ):=rfl
mutual
noncomputable def evE (C:Orc):E→Rho→H→Option (V×H)
 | .bad,_,_=>none
 | .cst v,_,σ=>some (v,σ)
 | .neg i,_,σ=>some (.int i,σ)
 | .pow a b,_,σ=>some (.int ((a:Int) ^ b),σ)
 | .var i,ρ,σ=>gV (getS ρ i) λx=>some (x,σ)
 | .glo _ v,_,σ=>some (v,σ)
 | .tup es,ρ,σ=>b2 (evEs C es ρ σ) λl σ=>some (.tup l,σ)
 | .lst es,ρ,σ=>b2 (evEs C es ρ σ) λl σ=>some (.lst l,σ)
 | .dct es,ρ,σ=>b2 (evEs C es ρ σ) λl σ=>b1 (pairUp l) λp=>gd (decide p.1.Nodup) (some (.dct p.1 p.2,σ))
 | .shr e,ρ,σ=>b2 (evE C e ρ σ) allocs
 | .bin op a b,ρ,σ=>b2 (orB (brw ρ a) σ (evE C a ρ σ)) λx σ=>b2 (orB (brw ρ b) σ (evE C b ρ σ)) λy σ=>wS (binOp op (dr σ x) (dr σ y)) σ
 | .cmp c a b,ρ,σ=>b2 (orB (brw ρ a) σ (evE C a ρ σ)) λx σ=>b2 (orB (brw ρ b) σ (evE C b ρ σ)) λy σ=>b1 (cmpOp c (dr σ x) (dr σ y)) λr=>some (.bool r,σ)
 | .isN yes a,ρ,σ=>b2 (evE C a ρ σ) λx σ=>some (.bool (cond (decide (x.ctorIdx = 0)) yes !yes),σ)
 | .conj es,ρ,σ=>evAnd C es ρ σ
 | .disj es,ρ,σ=>evOr C es ρ σ
 | .not a,ρ,σ=>b2 (evE C a ρ σ) λx σ=>oBool x λb=>some (.bool (!b),σ)
 | .ife t a b,ρ,σ=>bT (evE C t ρ σ) (evE C a ρ) (evE C b ρ)
 | .idx a i,ρ,σ=>b2 (orB (brw ρ a) σ (evE C a ρ σ)) λx σ=>b2 (evE C i ρ σ) λy σ=>wS (idxOp (dr σ x) y) σ
 | .slc k a n,ρ,σ=>b2 (orB (brw ρ a) σ (evE C a ρ σ)) λx σ=>if k.ctorIdx = 3 then b2 (evE C n ρ σ) λy σ=>wS (slcOp k (dr σ x) y) σ else wS (slcOp k (dr σ x) .none) σ
 | .attr a cl k _,ρ,σ=>b2 (evE C a ρ σ) λx σ=>wS (fieldOf σ x cl k) σ
 | .callF f es,ρ,σ=>b2 (evEs C es ρ σ) (C f)
 | .callM f cl a es,ρ,σ=>b2 (evE C a ρ σ) λx σ=>gd (isCls σ cl x) (b2 (evEs C es ρ σ) λl σ=>C f (x :: l) σ)
 | .bi b es,ρ,σ=>b2 (evXs C es ρ σ) λl σ=>wS (biOp b (l.map (dr σ))) σ
 | .sortK f a,ρ,σ=>b2 (orB (brw ρ a) σ (evE C a ρ σ)) λx σ=>oLst (dr σ x) λl=>b2 (keyed2 (λv σ=>C f [v] σ) l σ) λl σ=>some (.lst l,σ)
 | .get2 d k x,ρ,σ=>b2 (evE C d ρ σ) λdv σ=>gd (isDct (dr σ dv)) (b2 (evE C k ρ σ) λkv σ=>b2 (evE C x ρ σ) λxv σ=>oDct (dr σ dv) λks vs=>oStr kv λs=>some ((lk ks vs s).getD xv,σ))
 | .join s a,ρ,σ=>b2 (evE C a ρ σ) λx σ=>oLst x λl=>b1 (strs? l) λz=>gd (decide (JoinOk s z)) (some (.str (Txt.join s z),σ))
 | .split a s,ρ,σ=>b2 (evE C a ρ σ) λx σ=>oStr x λx=>gd (shortStr x && !(s.length == 0)) (some (.lst ((Txt.split x s).map .str),σ))
 | .comp elt gs,ρ,σ=>gd (freeGs (noOwn ρ) gs) (b2 (evG C (λρ σ=>evE C elt ρ σ) gs (noOwn ρ) σ []) λl σ=>some (.lst l,σ))
noncomputable def evXs (C:Orc):List E→Rho→H→Option (List V×H)
 | [],_,σ=>some ([],σ)
 | e :: es,ρ,σ=>b2 (orB (brw ρ e) σ (evE C e ρ σ)) λx σ=>b2 (evXs C es ρ σ) λl σ=>some (x :: l,σ)
noncomputable def evEs (C:Orc):List E→Rho→H→Option (List V×H)
 | [],_,σ=>some ([],σ)
 | e :: es,ρ,σ=>b2 (evE C e ρ σ) λx σ=>b2 (evEs C es ρ σ) λl σ=>some (x :: l,σ)
noncomputable def evAnd (C:Orc):List E→Rho→H→Option (V×H)
 | [],_,_=>none
 | e :: es,ρ,σ=>cond es.isEmpty (evE C e ρ σ) (bT (evE C e ρ σ) (evAnd C es ρ) λσ=>some (.bool false,σ))
noncomputable def evOr (C:Orc):List E→Rho→H→Option (V×H)
 | [],_,_=>none
 | e :: es,ρ,σ=>cond es.isEmpty (evE C e ρ σ) (bT (evE C e ρ σ) (λσ=>some (.bool true,σ)) (evOr C es ρ))
noncomputable def evI (C:Orc):It→Rho→H→Option (List V×H)
 | .range a,ρ,σ=>b2 (evE C a ρ σ) λx σ=>oInt x λn=>gd (decide (0 ≤ n) && decide (n < 4000)) (some (upTo n.toNat,σ))
 | .zip a b,ρ,σ=>b2 (evE C a ρ σ) λx σ=>b2 (evE C b ρ σ) λy σ=>b1 (items x) λl=>b1 (items y) λm=>some (zipV l m,σ)
 | .plain e,ρ,σ=>b2 (evE C e ρ σ) λx σ=>wS (items x) σ
noncomputable def evIfs (C:Orc):List E→Rho→H→Option (Bool×H)
 | [],_,σ=>some (true,σ)
 | e :: es,ρ,σ=>bT (evE C e ρ σ) (evIfs C es ρ) λσ=>some (false,σ)
noncomputable def evG (C:Orc) (fe:Rho→H→Option (V×H)):List G→Rho→H→List V→Option (List V×H)
 | [],ρ,σ,acc=>b2 (fe ρ σ) λx σ=>gd (shortL acc) (some (acc ++ [x],σ))
 | g :: gs,ρ,σ,acc=>evG1 C (λρ σ acc=>evG C fe gs ρ σ acc) g ρ σ acc
noncomputable def evG1 (C:Orc) (k:Rho→H→List V→Option (List V×H)):G→Rho→H→List V→Option (List V×H)
 | .mk t it ifs,ρ,σ,acc=>gd (freeT ρ t) (b2 (evI C it ρ σ) λl σ=>loopL (λx σ acc=>b1 (bindT t ρ x) λρ'=>b2 (evIfs C ifs ρ' σ) λb σ=>cond b (k ρ' σ acc) (some (acc,σ))) l σ acc)
end
inductive Fl where | next | ret (v:V)
noncomputable def setO (ρ:Rho) (i:Nat) (l:List V):Rho:=ρ.set i (some (.own l))
noncomputable def setTo (ρ:Rho) (i:Nat) (o:Bool) (x:V):Option Rho:=o.casesOn (some (setV ρ i x)) (oLst x λl=>some (setO ρ i l))
noncomputable def setVs:Rho→List Nat→List V→Option Rho
 | ρ,[],l=>l.casesOn (some ρ) λ_ _=>none
 | ρ,i :: is,l=>l.casesOn none λv vs=>setVs (setV ρ i v) is vs
noncomputable def olist {β:Type} (o:Option O) (k:List V→Option β):Option β:=o.casesOn none λo=>o.casesOn k (λ_ _=>none) λ_ _=>none
@[simp] theorem olist_list {β:Type} (l:List V) (k:List V→Option β):olist (some (.list l)) k = k l:=rfl
theorem olist_is {β:Type} {G:Prop} {o:Option O} {k:List V→Option β} {r:β} (h:olist o k = some r) (c:∀ l,o = some (.list l)→k l = some r→G):G:=
 o.casesOn (motive:=λo'=>o = o'→olist o' k = some r→G) (λ_=>nn) (λs=>s.casesOn (motive:=λs=>o = some s→olist (some s) k = some r→G) (λl e h=>c l e h) (λ_ _ _=>nn) λ_ _ _=>nn) rfl h
noncomputable def oRef {β:Type} (v:V) (k:Nat→Option β):Option β:=v.casesOn none (λ_=>none) (λ_=>none) (λ_=>none) (λ_=>none) (λ_=>none) (λ_ _=>none) (λ_ _=>none) k (λ_ _=>none)
@[simp] theorem oRef_ref {β:Type} (i:Nat) (k:Nat→Option β):oRef (.ref i) k = k i:=rfl
@[elab_as_elim] theorem oRef_is {β:Type} {M:V→Prop} {v:V} {k:Nat→Option β} {r:β} (h:oRef v k = some r) (c:∀ x,k x = some r→M (.ref x)):M v:=
 v.casesOn (motive_1:=λv=>oRef v k = some r→M v) nn (λ_=>nn) (λ_=>nn) (λ_=>nn) (λ_=>nn) (λ_=>nn) (λ_ _=>nn) (λ_ _=>nn) c (λ_ _=>nn) h
noncomputable def oObj {β:Type} (v:V) (k:Nat→Nat→Option β):Option β:=v.casesOn none (λ_=>none) (λ_=>none) (λ_=>none) (λ_=>none) (λ_=>none) (λ_ _=>none) (λ_ _=>none) (λ_=>none) k
@[simp] theorem oObj_obj {β:Type} (c i:Nat) (k:Nat→Nat→Option β):oObj (.obj c i) k = k c i:=rfl
@[elab_as_elim] theorem oObj_is {β:Type} {M:V→Prop} {v:V} {k:Nat→Nat→Option β} {r:β} (h:oObj v k = some r) (c:∀ x y,k x y = some r→M (.obj x y)):M v:=
 v.casesOn (motive_1:=λv=>oObj v k = some r→M v) nn (λ_=>nn) (λ_=>nn) (λ_=>nn) (λ_=>nn) (λ_=>nn) (λ_ _=>nn) (λ_ _=>nn) (λ_=>nn) c h
noncomputable def listAt (ρ:Rho) (σ:H) (i:Nat):Option (List V×(List V→Rho×H)):=(getS ρ i).casesOn none λs=>s.casesOn (λv=>oRef v λr=>olist σ[r]? λl=>some (l,λl'=>(ρ,σ.set r (.list l')))) λl=>some (l,λl'=>(setO ρ i l',σ))
noncomputable def putAt:List Str→List V→Str→V→List Str×List V
 | [],_,x,y=>([x],[y])
 | k :: ks,vs,x,y=>vs.casesOn ([x],[y]) λv vs=>if x = k then (k :: ks,y :: vs) else (k :: (putAt ks vs x y).1,v :: (putAt ks vs x y).2)
noncomputable def storedO (σ:H) (r:Nat) (kv ev:V) (o:Option O):Option H:=o.casesOn none λo=>o.casesOn (λl=>oInt kv λk=>gd (shortL l && (decide (0 ≤ k) && decide (k < l.length))) (some (σ.set r (.list (l.set k.toNat ev)))))
 (λks vs=>oStr kv λx=>gd (shortL vs) (some (σ.set r (.dict (putAt ks vs x ev).1 (putAt ks vs x ev).2)))) λ_ _=>none
noncomputable def stored (σ:H) (dv kv ev:V):Option H:=oRef dv λr=>storedO σ r kv ev σ[r]?
abbrev R3:=Option (Fl×Rho×H)
noncomputable def b3 (o:R3) (k:Rho→H→R3):R3:=o.casesOn none λp=>p.1.casesOn (k p.2.1 p.2.2) λv=>some (.ret v,p.2)
@[simp] theorem b3_next (ρ:Rho) (σ:H) (k:Rho→H→R3):b3 (some (.next,ρ,σ)) k = k ρ σ:=rfl
@[simp] theorem b3_ret (v:V) (p:Rho×H) (k:Rho→H→R3):b3 (some (.ret v,p)) k = some (.ret v,p):=rfl
@[simp] theorem b3_none (k:Rho→H→R3):b3 none k = none:=rfl
theorem b3_is {G:Prop} {o:R3} {k:Rho→H→R3} {r:Fl×Rho×H} (h:b3 o k = some r) (c:∀ ρ σ,o = some (.next,ρ,σ)→k ρ σ = some r→G) (c':∀ v ρ σ,o = some (.ret v,ρ,σ)→some (Fl.ret v,ρ,σ) = some r→G):G:=
 o.casesOn (motive:=λo'=>o = o'→b3 o' k = some r→G) (λ_=>nn) (λ(f,ρ,σ)=>f.casesOn (motive:=λf=>o = some (f,ρ,σ)→b3 (some (f,ρ,σ)) k = some r→G) (c ρ σ) λv=>c' v ρ σ) rfl h
noncomputable def go3 (o:Option Rho) (σ:H):R3:=b1 o λρ=>some (.next,ρ,σ)
noncomputable def loopS (f:V→Rho→H→R3):List V→Rho→H→R3
 | [],ρ,σ=>some (.next,ρ,σ)
 | x :: r,ρ,σ=>b3 (f x ρ σ) (loopS f r)
noncomputable def loopW (t:Rho→H→Option (V×H)) (b:Rho→H→R3):Nat→Rho→H→R3
 | 0,_,_=>none
 | n + 1,ρ,σ=>bT (t ρ σ) (λσ=>b3 (b ρ σ) (loopW t b n)) λσ=>some (.next,ρ,σ)
noncomputable def popS (is:List Nat) (one:Bool) (l:List V) (put:List V→Rho×H):R3:=l.casesOn none λx r=>gd (shortL (x :: r)) (b1 (x :: r).getLast? λz=>
 one.casesOn (b1 (b1 (oTup z some) λvs=>setVs (put (x :: r).dropLast).1 is vs) λρ=>some (.next,ρ,(put (x :: r).dropLast).2)) (o1 is λi=>some (.next,setV (put (x :: r).dropLast).1 i z,(put (x :: r).dropLast).2)))
noncomputable def addS (o:Option (List V×(List V→Rho×H))) (ys:List V):R3:=b1 o λp=>gd (shortL p.1 && shortL ys) (some (.next,(p.2 (p.1 ++ ys)).1,(p.2 (p.1 ++ ys)).2))
mutual
noncomputable def evS (C:Orc) (N:Nat):S→Rho→H→R3
 | .bad,_,_=>none
 | .asg i e,ρ,σ=>b2 (evE C e ρ σ) λx σ=>some (.next,setV ρ i x,σ)
 | .own i e,ρ,σ=>b2 (evE C e ρ σ) λx σ=>oLst x λl=>some (.next,setO ρ i l,σ)
 | .un is e,ρ,σ=>b2 (evE C e ρ σ) λx σ=>oTup x λl=>go3 (setVs ρ is l) σ
 | .un2 i j oi oj a b,ρ,σ=>b2 (evE C a ρ σ) λx σ=>b2 (evE C b ρ σ) λy σ=>b1 (setTo ρ i oi x) λρ=>go3 (setTo ρ j oj y) σ
 | .pop is one l,ρ,σ=>b1 (listAt ρ σ l) λp=>popS is one p.1 p.2
 | .app l e,ρ,σ=>gd (listAt ρ σ l).isSome (b2 (evE C e ρ σ) λx σ=>addS (listAt ρ σ l) [x])
 | .ext l e,ρ,σ=>gd (listAt ρ σ l).isSome (b2 (evE C e ρ σ) λx σ=>oLst x λys=>addS (listAt ρ σ l) ys)
 | .seta o cl k _ e,ρ,σ=>b2 (evE C e ρ σ) λx σ=>gV (getS ρ o) λv=>oObj v λc0 i=>recd σ[i]? λc l=>gd ((c0 == cl && c == cl) && decide (k < l.length)) (some (.next,ρ,σ.set i (.recd c (l.set k x))))
 | .seti d k e,ρ,σ=>b2 (evE C e ρ σ) λx σ=>b2 (evE C d ρ σ) λdv σ=>b2 (evE C k ρ σ) λkv σ=>b1 (stored σ dv kv x) λσ=>some (.next,ρ,σ)
 | .expr e,ρ,σ=>b2 (evE C e ρ σ) λx σ=>gd (decide (x.ctorIdx = 0)) (some (.next,ρ,σ))
 | .ite t a b,ρ,σ=>bT (evE C t ρ σ) (evSs C N a ρ) (evSs C N b ρ)
 | .whl t b,ρ,σ=>loopW (evE C t) (evSs C N b) N ρ σ
 | .fr t it b,ρ,σ=>b2 (evI C it ρ σ) λl σ=>loopS (λx ρ σ=>b1 (bindT t ρ x) λρ=>evSs C N b ρ σ) l ρ σ
 | .ret e,ρ,σ=>b2 (evE C e ρ σ) λx σ=>some (.ret x,ρ,σ)
 | .retO i,ρ,σ=>gO (getS ρ i) λl=>some (.ret (.lst l),ρ,σ)
noncomputable def evSs (C:Orc) (N:Nat):List S→Rho→H→R3
 | [],ρ,σ=>some (.next,ρ,σ)
 | s :: ss,ρ,σ=>b3 (evS C N s ρ σ) (evSs C N ss)
end
abbrev Tab:=List (Nat×Str)
inductive D where
 | fn (np ns:Nat) (dfl:List V) (body:List S)
 | cls (c np ns:Nat) (dfl:List V) (sets:List (Nat×Str×E)) (frozen:Bool)
noncomputable def argsIn (np:Nat) (dfl args:List V):Option (List V):=gd (decide (args.length ≤ np) && decide (np ≤ args.length + dfl.length)) (some (args ++ dfl.drop (args.length + dfl.length - np)))
noncomputable def rho0 (args:List V) (ns:Nat):Rho:=args.map (λv=>some (.v v)) ++ List.replicate (ns - args.length) none
noncomputable def evSets (C:Orc):List (Nat×Str×E)→Rho→H→List V→Option (List V×H)
 | [],_,σ,acc=>some (acc,σ)
 | (_,_,e) :: r,ρ,σ,acc=>b2 (evE C e ρ σ) λv σ=>evSets C r ρ σ (acc ++ [v])
noncomputable def retV (f:Fl):V:=f.casesOn .none id
noncomputable def born0 (frozen:Bool) (c:Nat) (l:List V) (σ:H):V×H:=cond frozen (.ins c l,σ) (.obj c σ.length,σ ++ [.recd c l])
noncomputable def evD (C:Orc) (N:Nat) (d:D) (args:List V) (σ:H):Option (V×H):=match d with
 | .fn np ns dfl body=>b1 (argsIn np dfl args) λas=>b1 (evSs C N body (rho0 as ns) σ) λp=>some (retV p.1,p.2.2)
 | .cls c np ns dfl sets frozen=>b1 (argsIn np dfl args) λas=>b2 (evSets C sets (none :: rho0 as ns) σ []) λl σ=>some (born0 frozen c l σ)
noncomputable def evCall (P:Nat→Option D) (N:Nat):Nat→Orc
 | 0=>λ_ _ _=>none
 | d + 1=>λf args σ=>b1 (P f) λdf=>evD (evCall P N d) N df args σ
end
section
set_option autoImplicit true
noncomputable def d_named:D:=.fn 2 2 [(.tup [])] [(.ret (.tup [(.cst (.str "name")),(.var 0),(.bi .tuple [(.var 1)])]))]
noncomputable def d_tuple_of:D:=.fn 2 2 [.none] [(.ret (.tup [(.cst (.str "tuple")),(.bi .tuple [(.var 0)]),(.var 1)]))]
noncomputable def d_union_of:D:=.fn 1 4 [] [(.un2 1 2 true true (.slc .rev (.bi .list [(.var 0)]) .bad) (.lst [])),
 (.whl (.cmp .ne (.var 1) (.lst []))
 [(.pop [3] true 1),
 (.ite (.cmp .eq (.idx (.var 3) (.cst (.int 0))) (.cst (.str "union")))
 [.bad]
 [(.ite (.conj [(.cmp .ne (.var 3) (.glo "BOTTOM" (.tup [(.str "bottom")]))),(.cmp .notIn (.var 3) (.var 2))])
 [(.app 2 (.var 3))]
 [])])]),
 (.ite (.cmp .isIn (.glo "ANY" (.tup [(.str "name"),(.str "Any"),(.tup [])])) (.var 2))
 [.bad]
 []),
 (.ite (.cmp .eq (.var 2) (.lst []))
 [.bad]
 []),
 (.ret (.ife (.cmp .eq (.bi .len [(.var 2)]) (.cst (.int 1))) (.idx (.var 2) (.cst (.int 0))) (.tup [(.cst (.str "union")),(.bi .tuple [(.sortK 7 (.var 2))])])))]
noncomputable def d_parts_of_kind:D:=.fn 1 2 [] [(.asg 1 (.idx (.var 0) (.cst (.int 0)))),
 (.ite (.cmp .eq (.var 1) (.cst (.str "name")))
 [(.ret (.bi .list [(.idx (.var 0) (.cst (.int 2)))]))]
 []),
 (.ite (.cmp .eq (.var 1) (.cst (.str "tuple")))
 [(.ret (.bin .add (.bi .list [(.idx (.var 0) (.cst (.int 1)))]) (.ife (.isN true (.idx (.var 0) (.cst (.int 2)))) (.lst []) (.lst [(.idx (.var 0) (.cst (.int 2)))]))))]
 []),
 (.ite (.cmp .eq (.var 1) (.cst (.str "union")))
 [(.ret (.bi .list [(.idx (.var 0) (.cst (.int 1)))]))]
 []),
 (.ite (.cmp .eq (.var 1) (.cst (.str "all")))
 [.bad]
 []),
 (.ret (.ife (.cmp .eq (.var 1) (.cst (.str "typeof"))) (.lst [(.idx (.var 0) (.cst (.int 1)))]) (.lst [])))]
noncomputable def d_rebuilt_kind:D:=.fn 2 4 [] [(.asg 2 (.idx (.var 0) (.cst (.int 0)))),
 (.ite (.cmp .eq (.var 2) (.cst (.str "name")))
 [(.ret (.tup [(.cst (.str "name")),(.idx (.var 0) (.cst (.int 1))),(.bi .tuple [(.var 1)])]))]
 []),
 (.ite (.cmp .eq (.var 2) (.cst (.str "tuple")))
 [(.asg 3 (.bi .len [(.idx (.var 0) (.cst (.int 1)))])),
 (.ret (.tup [(.cst (.str "tuple")),(.bi .tuple [(.slc .upto (.var 1) (.var 3))]),(.ife (.isN true (.idx (.var 0) (.cst (.int 2)))) (.cst .none) (.idx (.var 1) (.var 3)))]))]
 []),
 (.ite (.cmp .eq (.var 2) (.cst (.str "union")))
 [(.ret (.callF 2 [(.var 1)]))]
 []),
 .bad,
 .bad]
noncomputable def c_sub:E:=.comp (.callF 5 [(.var 5),(.var 1)]) [(.mk (.one 5) (.plain (.var 4)) [])]
noncomputable def d_substituted:D:=.fn 2 6 [] [(.ite (.cmp .eq (.idx (.var 0) (.cst (.int 0))) (.cst (.str "var")))
 [(.ret (.get2 (.var 1) (.idx (.var 0) (.cst (.int 1))) (.var 0)))]
 []),
 (.ite (.cmp .eq (.idx (.var 0) (.cst (.int 0))) (.cst (.str "all")))
 [.bad,
 .bad,
 .bad,
 .bad]
 []),
 (.asg 4 (.callF 3 [(.var 0)])),
 (.ret (.ife (.cmp .eq (.var 4) (.lst [])) (.var 0) (.callF 4 [(.var 0),c_sub])))]
noncomputable def d_free_vars:D:=.fn 1 6 [] [(.un2 1 2 true true (.lst []) (.lst [(.tup [(.var 0),(.tup [])])])),
 (.whl (.cmp .ne (.var 2) (.lst []))
 [(.pop [3,4] false 2),
 (.ite (.cmp .eq (.idx (.var 3) (.cst (.int 0))) (.cst (.str "var")))
 [(.ite (.conj [(.cmp .notIn (.idx (.var 3) (.cst (.int 1))) (.var 4)),(.cmp .notIn (.idx (.var 3) (.cst (.int 1))) (.var 1))])
 [(.app 1 (.idx (.var 3) (.cst (.int 1))))]
 [])]
 [(.ite (.cmp .eq (.idx (.var 3) (.cst (.int 0))) (.cst (.str "all")))
 [.bad,
 .bad]
 [(.ext 2 (.comp (.tup [(.var 5),(.var 4)]) [(.mk (.one 5) (.plain (.slc .rev (.callF 3 [(.var 3)]) .bad)) [])]))])])]),
 (.retO 1)]
noncomputable def d_kind_text:D:=.fn 1 6 [] [(.asg 1 (.idx (.var 0) (.cst (.int 0)))),
 (.ite (.cmp .eq (.var 1) (.cst (.str "name")))
 [(.asg 2 (.join ", " (.comp (.callF 7 [(.var 4)]) [(.mk (.one 4) (.plain (.idx (.var 0) (.cst (.int 2)))) [])]))),
 (.ret (.bin .add (.idx (.var 0) (.cst (.int 1))) (.ife (.cmp .ne (.idx (.var 0) (.cst (.int 2))) (.tup [])) (.bin .add (.bin .add (.cst (.str "{")) (.var 2)) (.cst (.str "}"))) (.cst (.str "")))))]
 []),
 (.ite (.cmp .eq (.var 1) (.cst (.str "tuple")))
 [(.asg 3 (.bin .add (.comp (.callF 7 [(.var 5)]) [(.mk (.one 5) (.plain (.idx (.var 0) (.cst (.int 1)))) [])]) (.ife (.isN true (.idx (.var 0) (.cst (.int 2)))) (.lst []) (.lst [(.bin .add (.bin .add (.cst (.str "Vararg{")) (.callF 7 [(.idx (.var 0) (.cst (.int 2)))])) (.cst (.str "}")))])))),
 (.ret (.bin .add (.bin .add (.cst (.str "Tuple{")) (.join ", " (.var 3))) (.cst (.str "}"))))]
 []),
 (.ite (.cmp .eq (.var 1) (.cst (.str "union")))
 [.bad]
 []),
 (.ite (.cmp .eq (.var 1) (.cst (.str "all")))
 [.bad]
 []),
 (.ite (.cmp .eq (.var 1) (.cst (.str "typeof")))
 [.bad]
 []),
 (.ite (.cmp .eq (.var 1) (.cst (.str "fn")))
 [.bad]
 []),
 (.ite (.cmp .eq (.var 1) (.cst (.str "n")))
 [(.ret (.bi .str [(.idx (.var 0) (.cst (.int 1)))]))]
 []),
 (.ret (.ife (.cmp .eq (.var 1) (.cst (.str "var"))) (.idx (.var 0) (.cst (.int 1))) (.cst (.str "Union{}"))))]
noncomputable def d_Side:D:=.cls 0 5 5 [] [(0,"is_asked",(.var 1)),
 (1,"order",(.var 2)),
 (2,"lowers",(.var 3)),
 (3,"uppers",(.var 4)),
 (4,"is_diagonal",(.var 5))] true
noncomputable def d_Side_with_lower:D:=.fn 2 2 [] [(.ret (.callF 8 [(.attr (.var 0) 0 0 "is_asked"),(.attr (.var 0) 0 1 "order"),(.bin .add (.attr (.var 0) 0 2 "lowers") (.tup [(.var 1)])),(.attr (.var 0) 0 3 "uppers"),(.attr (.var 0) 0 4 "is_diagonal")]))]
noncomputable def d_Side_with_upper:D:=.fn 2 2 [] [(.ret (.callF 8 [(.attr (.var 0) 0 0 "is_asked"),(.attr (.var 0) 0 1 "order"),(.attr (.var 0) 0 2 "lowers"),(.bin .add (.attr (.var 0) 0 3 "uppers") (.tup [(.var 1)])),(.attr (.var 0) 0 4 "is_diagonal")]))]
noncomputable def d_Side_lower:D:=.fn 1 1 [] [.bad]
noncomputable def d_Side_upper:D:=.fn 1 1 [] [(.ret (.ife (.cmp .ne (.attr (.var 0) 0 3 "uppers") (.tup [])) (.idx (.attr (.var 0) 0 3 "uppers") (.cst (.int 0))) (.glo "ANY" (.tup [(.str "name"),(.str "Any"),(.tup [])]))))]
noncomputable def d_Sides:D:=.cls 1 2 2 [.none,(.int 0)] [(0,"rows",(.ife (.isN true (.var 1)) (.shr (.dct [])) (.var 1))),
 (1,"many",(.var 2))] false
noncomputable def d_Sides_copied:D:=.fn 1 1 [] [(.ret (.callF 13 [(.shr (.bi .dict [(.attr (.var 0) 1 0 "rows")])),(.attr (.var 0) 1 1 "many")]))]
noncomputable def d_Sides_opened:D:=.fn 3 11 [] [(.un [3,4,5,6,7] (.var 1)),
 (.seta 0 1 1 "many" (.bin .add (.attr (.var 0) 1 1 "many") (.cst (.int 1)))),
 (.asg 8 (.bin .add (.bin .add (.idx (.split (.var 4) "!") (.cst (.int 0))) (.cst (.str "!"))) (.bi .str [(.attr (.var 0) 1 1 "many")]))),
 (.asg 9 (.ife (.cmp .eq (.var 5) (.glo "BOTTOM" (.tup [(.str "bottom")]))) (.tup []) (.tup [(.var 5)]))),
 (.asg 10 (.ife (.cmp .eq (.var 6) (.glo "ANY" (.tup [(.str "name"),(.str "Any"),(.tup [])]))) (.tup []) (.tup [(.var 6)]))),
 (.seti (.attr (.var 0) 1 0 "rows") (.var 8) (.callF 8 [(.var 2),(.attr (.var 0) 1 1 "many"),(.var 9),(.var 10),(.callF 23 [(.var 7),(.var 4)])])),
 (.ret (.tup [(.var 8),(.callF 5 [(.var 7),(.dct [(.var 4),(.tup [(.cst (.str "var")),(.var 8)])])])]))]
noncomputable def d_Sides_side:D:=.fn 2 2 [] [(.ret (.get2 (.attr (.var 0) 1 0 "rows") (.var 1) (.callF 8 [(.cst (.bool false)),(.cst (.int 0)),(.tup []),(.tup []),(.cst (.bool false))])))]
noncomputable def d_Sides_is_asked:D:=.fn 2 2 [] [(.ret (.conj [(.cmp .eq (.idx (.var 1) (.cst (.int 0))) (.cst (.str "var"))),(.attr (.callM 16 1 (.var 0) [(.idx (.var 1) (.cst (.int 1)))]) 0 0 "is_asked")]))]
noncomputable def d_Sides_has_asked:D:=.fn 2 8 [] [(.un2 2 3 true true (.comp (.var 7) [(.mk (.one 6) (.plain (.var 1)) []),(.mk (.one 7) (.plain (.callF 6 [(.var 6)])) [])]) (.lst [])),
 (.whl (.cmp .ne (.var 2) (.lst []))
 [(.pop [4] true 2),
 (.asg 5 (.callM 16 1 (.var 0) [(.var 4)])),
 (.ite (.attr (.var 5) 0 0 "is_asked")
 [(.ret (.cst (.bool true)))]
 []),
 .bad]),
 .bad]
noncomputable def d_Sides_add_lower:D:=.fn 3 3 [] [(.seti (.attr (.var 0) 1 0 "rows") (.var 1) (.callM 9 0 (.idx (.attr (.var 0) 1 0 "rows") (.var 1)) [(.var 2)]))]
noncomputable def d_Sides_add_upper:D:=.fn 3 3 [] [(.seti (.attr (.var 0) 1 0 "rows") (.var 1) (.callM 10 0 (.idx (.attr (.var 0) 1 0 "rows") (.var 1)) [(.var 2)]))]
noncomputable def d_Sides_later_ones:D:=.fn 3 6 [] [(.asg 3 (.attr (.callM 16 1 (.var 0) [(.var 2)]) 0 1 "order")),
 (.own 4 (.lst [])),
 (.fr (.one 5) (.plain (.callF 6 [(.var 1)]))
 [(.ite (.conj [(.not (.attr (.callM 16 1 (.var 0) [(.var 5)]) 0 0 "is_asked")),(.cmp .gt (.attr (.callM 16 1 (.var 0) [(.var 5)]) 0 1 "order") (.var 3))])
 [.bad]
 [])]),
 (.retO 4)]
noncomputable def c_oc9:E:=.comp (.idx (.var 9) (.cst (.int 1))) [(.mk (.one 9) (.plain (.var 3)) [])]
noncomputable def c_oc8:E:=.comp (.idx (.var 8) (.cst (.int 0))) [(.mk (.one 8) (.plain (.var 3)) [])]
noncomputable def c_ocT:E:=.comp (.callF 22 [(.var 7),(.var 1)]) [(.mk (.one 7) (.plain (.idx (.var 0) (.cst (.int 1)))) [])]
noncomputable def d_occurrences:D:=.fn 2 10 [] [(.asg 2 (.idx (.var 0) (.cst (.int 0)))),
 (.ite (.cmp .eq (.var 2) (.cst (.str "var")))
 [(.ret (.tup [(.ife (.cmp .eq (.idx (.var 0) (.cst (.int 1))) (.var 1)) (.cst (.int 1)) (.cst (.int 0))),(.cst (.bool false))]))]
 []),
 (.ite (.cmp .eq (.var 2) (.cst (.str "union")))
 [(.asg 3 (.comp (.callF 22 [(.var 4),(.var 1)]) [(.mk (.one 4) (.plain (.idx (.var 0) (.cst (.int 1)))) [])])),
 (.ret (.tup [(.bi .max1 [(.comp (.idx (.var 5) (.cst (.int 0))) [(.mk (.one 5) (.plain (.var 3)) [])])]),(.cmp .isIn (.cst (.bool true)) (.comp (.idx (.var 6) (.cst (.int 1))) [(.mk (.one 6) (.plain (.var 3)) [])]))]))]
 []),
 (.ite (.cmp .eq (.var 2) (.cst (.str "tuple")))
 [(.asg 3 c_ocT),
 (.ite (.isN false (.idx (.var 0) (.cst (.int 2))))
 [(.asg 3 (.bin .add (.var 3) (.bin .mul (.lst [(.callF 22 [(.idx (.var 0) (.cst (.int 2))),(.var 1)])]) (.cst (.int 2)))))]
 []),
 (.ret (.tup [(.bi .min2 [(.cst (.int 2)),(.bi .sum [c_oc8])]),(.cmp .isIn (.cst (.bool true)) c_oc9)]))]
 []),
 (.ite (.cmp .eq (.var 2) (.cst (.str "all")))
 [.bad]
 []),
 (.ret (.tup [(.cst (.int 0)),(.cmp .isIn (.var 1) (.callF 6 [(.var 0)]))]))]
noncomputable def d_is_diagonal:D:=.fn 2 4 [] [(.un [2,3] (.callF 22 [(.var 0),(.var 1)])),
 (.ret (.conj [(.cmp .gt (.var 2) (.cst (.int 1))),(.not (.var 3))]))]
noncomputable def c_lcA:E:=.comp (.tup [(.cst (.str "all")),(.idx (.var 0) (.cst (.int 1))),(.idx (.var 0) (.cst (.int 2))),(.idx (.var 0) (.cst (.int 3))),(.var 5)]) [(.mk (.one 5) (.plain (.callF 24 [(.idx (.var 0) (.cst (.int 4)))])) [])]
noncomputable def d_left_cases:D:=.fn 1 6 [] [(.asg 1 (.idx (.var 0) (.cst (.int 0)))),
 (.ite (.cmp .eq (.var 1) (.cst (.str "union")))
 [(.asg 2 (.comp (.var 4) [(.mk (.one 3) (.plain (.idx (.var 0) (.cst (.int 1)))) []),(.mk (.one 4) (.plain (.callF 24 [(.var 3)])) [])]))]
 [(.ite (.conj [(.cmp .eq (.var 1) (.cst (.str "all"))),(.not (.callF 23 [(.idx (.var 0) (.cst (.int 4))),(.idx (.var 0) (.cst (.int 1)))]))])
 [(.asg 2 c_lcA)]
 [(.ite (.cmp .eq (.var 1) (.cst (.str "tuple")))
 [(.asg 2 (.callF 25 [(.var 0)]))]
 [(.asg 2 (.lst [(.var 0)]))])])]),
 (.ret (.ife (.cmp .le (.bi .len [(.var 2)]) (.glo "MOST_CASES" (.int 64))) (.var 2) (.lst [(.var 0)])))]
noncomputable def c_tcR:E:=.comp (.callF 1 [(.var 6),(.idx (.var 0) (.cst (.int 2)))]) [(.mk (.one 6) (.plain (.var 1)) [])]
noncomputable def c_tcG:E:=.comp (.bin .add (.var 4) (.tup [(.var 5)])) [(.mk (.one 4) (.plain (.var 1)) []),(.mk (.one 5) (.plain (.var 3)) [])]
noncomputable def b_tc:List S:=[(.asg 3 (.callF 24 [(.var 2)])),(.ite (.cmp .gt (.bin .mul (.bi .len [(.var 1)]) (.bi .len [(.var 3)])) (.glo "MOST_CASES" (.int 64))) [.bad] []),(.asg 1 c_tcG)]
noncomputable def w_tc:S:=.fr (.one 2) (.plain (.idx (.var 0) (.cst (.int 1)))) b_tc
noncomputable def d_tuple_cases:D:=.fn 1 7 [] [(.asg 1 (.lst [(.tup [])])),
 w_tc,
 (.ret c_tcR)]
noncomputable def c_emp:E:=.comp (.callF 26 [(.var 1)]) [(.mk (.one 1) (.plain (.idx (.var 0) (.cst (.int 1)))) [])]
noncomputable def d_is_empty:D:=.fn 1 2 [] [(.ite (.cmp .eq (.idx (.var 0) (.cst (.int 0))) (.cst (.str "tuple")))
 [(.ret (.cmp .isIn (.cst (.bool true)) c_emp))]
 []),
 (.ite (.cmp .eq (.idx (.var 0) (.cst (.int 0))) (.cst (.str "all")))
 [(.ret (.callF 26 [(.idx (.var 0) (.cst (.int 4)))]))]
 []),
 (.ret (.cmp .eq (.var 0) (.glo "BOTTOM" (.tup [(.str "bottom")]))))]
noncomputable def d_tail_of:D:=.fn 1 1 [] [(.ret (.ife (.conj [(.isN false (.idx (.var 0) (.cst (.int 2)))),(.callF 26 [(.idx (.var 0) (.cst (.int 2)))])]) (.cst .none) (.idx (.var 0) (.cst (.int 2)))))]
noncomputable def d_Search:D:=.cls 2 2 2 [] [(0,"kinds",(.var 1)),
 (1,"fuel",(.var 2)),
 (2,"known",(.shr (.dct [])))] false
noncomputable def b_run:List S:=[(.pop [4,5] false 3),(.asg 6 (.callM 30 2 (.var 0) [(.var 4),(.var 5),(.var 3)])),(.ite (.isN false (.var 6)) [(.ret (.var 6))] [])]
noncomputable def t_run:E:=(.conj [(.cmp .ne (.var 3) (.lst [])),(.cmp .gt (.attr (.var 0) 2 1 "fuel") (.cst (.int 0)))])
noncomputable def w_run:S:=.whl t_run b_run
noncomputable def d_Search_run:D:=.fn 3 7 [] [(.asg 3 (.shr (.lst [(.tup [(.shr (.bi .list [(.var 1)])),(.var 2)])]))),
 w_run,
 (.ret (.cst .none))]
noncomputable def b_push:List S:=[(.app 3 (.tup [(.shr (.bin .add (.var 1) (.var 6))),(.callM 14 1 (.var 2) [])]))]
noncomputable def w_push:S:=.fr (.one 6) (.plain (.slc .revTo1 (.var 5) .bad)) b_push
noncomputable def b_set:List S:=[(.seta 0 2 1 "fuel" (.bin .sub (.attr (.var 0) 2 1 "fuel") (.cst (.int 1)))),(.pop [4] true 1),(.asg 5 (.ife (.cmp .ge (.attr (.var 0) 2 1 "fuel") (.cst (.int 0))) (.callM 31 2 (.var 0) [(.var 4),(.var 2)]) (.lst []))),(.ite (.conj [(.cmp .gt (.bi .len [(.var 5)]) (.cst (.int 1))),(.not (.callM 18 1 (.var 2) [(.slc .from1 (.var 4) .bad)]))]) [.bad] []),(.ite (.cmp .eq (.var 5) (.lst [])) [(.ret (.cst .none))] []),w_push,(.ext 1 (.idx (.var 5) (.cst (.int 0))))]
noncomputable def t_set:E:=(.cmp .ne (.var 1) (.lst []))
noncomputable def w_set:S:=.whl t_set b_set
noncomputable def d_Search_settled:D:=.fn 4 7 [] [w_set,
 (.ret (.ife (.callM 38 2 (.var 0) [(.var 2)]) (.var 2) (.cst .none)))]
noncomputable def d_Search_step:D:=.fn 3 6 [] [(.un [3,4,5] (.var 1)),
 (.ite (.cmp .eq (.var 4) (.var 5))
 [(.ret (.lst [(.lst [])]))]
 []),
 (.ite (.cmp .isIn (.cst (.str "n")) (.tup [(.idx (.var 4) (.cst (.int 0))),(.idx (.var 5) (.cst (.int 0)))]))
 [.bad]
 []),
 (.ite (.cmp .eq (.var 3) (.cst (.str "same")))
 [(.ret (.lst [(.lst [(.tup [(.cst (.str "sub")),(.var 4),(.var 5)]),(.tup [(.cst (.str "sub")),(.var 5),(.var 4)])])]))]
 []),
 (.ite (.disj [(.callF 26 [(.var 4)]),(.cmp .eq (.var 5) (.glo "ANY" (.tup [(.str "name"),(.str "Any"),(.tup [])])))])
 [.bad]
 []),
 (.ite (.callM 17 1 (.var 2) [(.var 4)])
 [(.ret (.callM 32 2 (.var 0) [(.idx (.var 4) (.cst (.int 1))),(.var 5),(.var 2)]))]
 []),
 (.ite (.callM 17 1 (.var 2) [(.var 5)])
 [(.ret (.callM 33 2 (.var 0) [(.idx (.var 5) (.cst (.int 1))),(.var 4),(.var 2)]))]
 []),
 (.ret (.callM 34 2 (.var 0) [(.var 4),(.var 5),(.var 2)]))]
noncomputable def c_bel:E:=.comp (.tup [(.cst (.str "sub")),(.var 4),(.var 2)]) [(.mk (.one 4) (.plain (.attr (.callM 16 1 (.var 3) [(.var 1)]) 0 2 "lowers")) [])]
noncomputable def d_Search_below:D:=.fn 4 5 [] [(.asg 2 (.callF 40 [(.var 1),(.var 2),(.var 3)])),
 (.ite (.disj [(.isN true (.var 2)),(.cmp .isIn (.var 2) (.attr (.callM 16 1 (.var 3) [(.var 1)]) 0 3 "uppers"))])
 [(.ret (.ife (.isN true (.var 2)) (.lst []) (.lst [(.lst [])])))]
 []),
 (.expr (.callM 20 1 (.var 3) [(.var 1),(.var 2)])),
 (.ret (.lst [c_bel]))]
noncomputable def c_abv:E:=.comp (.tup [(.cst (.str "sub")),(.var 2),(.var 4)]) [(.mk (.one 4) (.plain (.attr (.callM 16 1 (.var 3) [(.var 1)]) 0 3 "uppers")) [])]
noncomputable def d_Search_above:D:=.fn 4 5 [] [(.asg 2 (.callF 41 [(.var 1),(.var 2),(.var 3)])),
 (.ite (.disj [(.isN true (.var 2)),(.cmp .isIn (.var 2) (.attr (.callM 16 1 (.var 3) [(.var 1)]) 0 2 "lowers"))])
 [(.ret (.ife (.isN true (.var 2)) (.lst []) (.lst [(.lst [])])))]
 []),
 (.expr (.callM 19 1 (.var 3) [(.var 1),(.var 2)])),
 (.ret (.lst [c_abv]))]
noncomputable def d_Search_by_form:D:=.fn 4 9 [] [(.ite (.cmp .eq (.idx (.var 1) (.cst (.int 0))) (.cst (.str "union")))
 [(.ret (.lst [(.comp (.tup [(.cst (.str "sub")),(.var 7),(.var 2)]) [(.mk (.one 7) (.plain (.idx (.var 1) (.cst (.int 1)))) [])])]))]
 []),
 (.ite (.cmp .eq (.idx (.var 1) (.cst (.int 0))) (.cst (.str "all")))
 [(.ret (.lst [(.lst [(.tup [(.cst (.str "sub")),(.idx (.callM 15 1 (.var 3) [(.var 1),(.cst (.bool false))]) (.cst (.int 1))),(.var 2)])])]))]
 []),
 (.ite (.cmp .eq (.idx (.var 2) (.cst (.int 0))) (.cst (.str "union")))
 [(.asg 4 (.comp (.lst [(.tup [(.cst (.str "sub")),(.var 1),(.var 8)])]) [(.mk (.one 8) (.plain (.idx (.var 2) (.cst (.int 1)))) [])])),
 (.ret (.bin .add (.var 4) (.ife (.cmp .eq (.idx (.var 1) (.cst (.int 0))) (.cst (.str "var"))) (.lst [(.lst [(.tup [(.cst (.str "sub")),(.callM 12 0 (.callM 16 1 (.var 3) [(.idx (.var 1) (.cst (.int 1)))]) []),(.var 2)])])]) (.lst []))))]
 []),
 (.ite (.cmp .eq (.idx (.var 2) (.cst (.int 0))) (.cst (.str "all")))
 [(.ret (.lst [(.callM 35 2 (.var 0) [(.var 1),(.var 2),(.var 3)])]))]
 []),
 (.ite (.cmp .eq (.idx (.var 1) (.cst (.int 0))) (.cst (.str "var")))
 [(.asg 5 (.callM 12 0 (.callM 16 1 (.var 3) [(.idx (.var 1) (.cst (.int 1)))]) [])),
 (.asg 4 (.ife (.cmp .eq (.var 5) (.glo "ANY" (.tup [(.str "name"),(.str "Any"),(.tup [])]))) (.lst []) (.lst [(.lst [(.tup [(.cst (.str "sub")),(.var 5),(.var 2)])])]))),
 (.ret (.bin .add (.var 4) (.ife (.cmp .eq (.idx (.var 2) (.cst (.int 0))) (.cst (.str "var"))) (.lst [(.lst [(.tup [(.cst (.str "sub")),(.var 1),(.callM 11 0 (.callM 16 1 (.var 3) [(.idx (.var 2) (.cst (.int 1)))]) [])])])]) (.lst []))))]
 []),
 (.ite (.cmp .eq (.idx (.var 2) (.cst (.int 0))) (.cst (.str "var")))
 [.bad,
 .bad]
 []),
 (.ret (.callM 36 2 (.var 0) [(.var 1),(.var 2)]))]
noncomputable def d_Search_chosen:D:=.fn 4 9 [] [(.un [4,5] (.callM 15 1 (.var 3) [(.var 2),(.cst (.bool true))])),
 (.asg 6 (.callM 16 1 (.var 3) [(.var 4)])),
 (.ret (.bin .add (.comp (.tup [(.cst (.str "sub")),(.var 7),(.var 8)]) [(.mk (.one 7) (.plain (.attr (.var 6) 0 2 "lowers")) []),(.mk (.one 8) (.plain (.attr (.var 6) 0 3 "uppers")) [])]) (.lst [(.tup [(.cst (.str "sub")),(.var 1),(.var 5)])])))]
noncomputable def d_Search_plain:D:=.fn 3 4 [] [(.asg 3 (.tup [(.idx (.var 1) (.cst (.int 0))),(.idx (.var 2) (.cst (.int 0)))])),
 (.ite (.cmp .eq (.var 3) (.tup [(.cst (.str "name")),(.cst (.str "name"))]))
 [(.ret (.callM 37 2 (.var 0) [(.var 1),(.var 2)]))]
 []),
 (.ite (.cmp .eq (.var 3) (.tup [(.cst (.str "tuple")),(.cst (.str "tuple"))]))
 [(.ret (.callF 43 [(.var 1),(.var 2)]))]
 []),
 (.ite (.cmp .eq (.var 3) (.tup [(.cst (.str "typeof")),(.cst (.str "typeof"))]))
 [.bad]
 []),
 (.ite (.disj [(.conj [(.cmp .eq (.idx (.var 1) (.cst (.int 0))) (.cst (.str "typeof"))),(.cmp .eq (.var 2) (.glo "TYPE" (.tup [(.str "name"),(.str "Type"),(.tup [])])))]),(.conj [(.cmp .eq (.idx (.var 1) (.cst (.int 0))) (.cst (.str "fn"))),(.cmp .eq (.var 2) (.glo "FUNCTION" (.tup [(.str "name"),(.str "Function"),(.tup [])])))])])
 [.bad]
 []),
 (.ret (.lst []))]
noncomputable def d_Search_nominal:D:=.fn 3 6 [] [(.fr (.one 3) (.plain (.callM 52 4 (.attr (.var 0) 2 0 "kinds") [(.var 1)]))
 [(.ite (.cmp .eq (.idx (.var 3) (.cst (.int 1))) (.idx (.var 2) (.cst (.int 1))))
 [(.ret (.lst [(.comp (.tup [(.cst (.str "same")),(.var 4),(.var 5)]) [(.mk (.two 4 5) (.zip (.idx (.var 3) (.cst (.int 2))) (.idx (.var 2) (.cst (.int 2)))) [])])]))]
 [])]),
 (.ret (.lst []))]
noncomputable def b_ac:List S:=[(.asg 3 (.idx (.attr (.var 1) 1 0 "rows") (.var 2))),(.ite (.conj [(.attr (.var 3) 0 0 "is_asked"),(.attr (.var 3) 0 4 "is_diagonal"),(.not (.callM 39 2 (.var 0) [(.var 3),(.var 1)]))]) [(.ret (.cst (.bool false)))] [])]
noncomputable def w_ac:S:=.fr (.one 2) (.plain (.bi .sorted [(.attr (.var 1) 1 0 "rows")])) b_ac
noncomputable def d_Search_are_concrete:D:=.fn 2 4 [] [w_ac,
 (.ret (.cst (.bool true)))]
noncomputable def b_one:List S:=[(.ite (.conj [(.cmp .ne (.var 4) (.var 3)),(.disj [(.cmp .isIn (.cst (.str "var")) (.tup [(.idx (.var 3) (.cst (.int 0))),(.idx (.var 4) (.cst (.int 0)))])),(.not (.callF 45 [(.attr (.var 0) 2 0 "kinds"),(.var 3),(.var 4)]))])]) [(.ret (.cst (.bool false)))] [])]
noncomputable def w_one:S:=.fr (.one 4) (.plain (.slc .from1 (.attr (.var 1) 0 2 "lowers") .bad)) b_one
noncomputable def d_Search_is_one:D:=.fn 3 5 [] [(.ite (.cmp .eq (.attr (.var 1) 0 2 "lowers") (.tup []))
 [(.ret (.cst (.bool true)))]
 []),
 (.asg 3 (.idx (.attr (.var 1) 0 2 "lowers") (.cst (.int 0)))),
 w_one,
 (.ret (.ife (.cmp .eq (.idx (.var 3) (.cst (.int 0))) (.cst (.str "var"))) (.attr (.callM 16 1 (.var 2) [(.idx (.var 3) (.cst (.int 1)))]) 0 4 "is_diagonal") (.callM 53 4 (.attr (.var 0) 2 0 "kinds") [(.var 3)])))]
noncomputable def d_narrowed:D:=.fn 3 5 [] [(.asg 3 (.callM 21 1 (.var 2) [(.var 1),(.var 0)])),
 (.ite (.cmp .eq (.var 3) (.lst []))
 [(.ret (.ife (.callF 42 [(.var 0),(.var 1)]) (.cst .none) (.var 1)))]
 []),
 .bad,
 .bad]
noncomputable def d_widened:D:=.fn 3 4 [] [(.asg 3 (.callM 21 1 (.var 2) [(.var 1),(.var 0)])),
 (.ite (.cmp .eq (.var 3) (.lst []))
 [(.ret (.ife (.callF 42 [(.var 0),(.var 1)]) (.cst .none) (.var 1)))]
 []),
 .bad,
 .bad]
noncomputable def d_has_within:D:=.fn 2 2 [] [(.ret (.conj [(.cmp .ne (.var 1) (.tup [(.cst (.str "var")),(.var 0)])),(.cmp .isIn (.var 0) (.callF 6 [(.var 1)]))]))]
noncomputable def c_tw:E:=.comp (.tup [(.cst (.str "sub")),(.idx (.var 2) (.var 7)),(.ife (.cmp .lt (.var 7) (.bi .len [(.var 4)])) (.idx (.var 4) (.var 7)) (.var 5))]) [(.mk (.one 7) (.range (.bi .len [(.var 2)])) [])]
noncomputable def d_tuple_ways:D:=.fn 2 8 [] [(.un2 2 3 false false (.idx (.var 0) (.cst (.int 1))) (.callF 27 [(.var 0)])),
 (.un2 4 5 false false (.idx (.var 1) (.cst (.int 1))) (.callF 27 [(.var 1)])),
 (.ite (.disj [(.cmp .lt (.bi .len [(.var 2)]) (.bi .len [(.var 4)])),(.conj [(.isN true (.var 5)),(.disj [(.isN false (.var 3)),(.cmp .gt (.bi .len [(.var 2)]) (.bi .len [(.var 4)]))])])])
 [(.ret (.lst []))]
 []),
 (.asg 6 c_tw),
 (.ret (.lst [(.bin .add (.var 6) (.ife (.isN true (.var 3)) (.lst []) (.lst [(.tup [(.cst (.str "sub")),(.var 3),(.var 5)])])))]))]
noncomputable def b_is:List S:=[(.asg 5 (.callF 28 [(.var 0),(.var 3)])),(.ite (.isN true (.callM 29 2 (.var 5) [(.lst [(.tup [(.cst (.str "sub")),(.var 4),(.var 2)])]),(.callF 13 [])])) [(.ret (.cst (.bool false)))] [])]
noncomputable def w_is:S:=.fr (.one 4) (.plain (.callF 24 [(.var 1)])) b_is
noncomputable def d_is_subtype:D:=.fn 4 6 [(.int 4000)] [(.ite (.cmp .eq (.var 1) (.var 2))
 [(.ret (.cst (.bool true)))]
 []),
 w_is,
 (.ret (.cst (.bool true)))]
noncomputable def d_same_kind:D:=.fn 3 3 [] [(.ret (.disj [(.cmp .eq (.var 1) (.var 2)),(.conj [(.callF 44 [(.var 0),(.var 1),(.var 2)]),(.callF 44 [(.var 0),(.var 2),(.var 1)])])]))]
noncomputable def d_Decl:D:=.cls 3 6 6 [(.bool false),(.tup [])] [(0,"name",(.var 1)),
 (1,"params",(.bi .list [(.var 2)])),
 (2,"super",(.var 3)),
 (3,"is_abstract",(.var 4)),
 (4,"is_mutable",(.var 5)),
 (5,"fields",(.bi .list [(.var 6)]))] true
noncomputable def d_Decl_table_for:D:=.fn 2 4 [] [(.ret (.bi .dict [(.comp (.tup [(.idx (.var 2) (.cst (.int 0))),(.var 3)]) [(.mk (.two 2 3) (.zip (.attr (.var 0) 3 1 "params") (.var 1)) [])])]))]
noncomputable def d_Kinds:D:=.cls 4 0 0 [] [(0,"decls",(.shr (.dct [(.cst (.str "Any")),(.callF 46 [(.cst (.str "Any")),(.lst []),(.cst .none),(.cst (.bool true))])])))] false
noncomputable def d_Kinds_declare:D:=.fn 2 10 [] [(.ite (.cmp .isIn (.attr (.var 1) 3 0 "name") (.attr (.var 0) 4 0 "decls"))
 [.bad]
 []),
 (.asg 2 (.attr (.var 1) 3 2 "super")),
 (.ite (.disj [(.cmp .ne (.idx (.var 2) (.cst (.int 0))) (.cst (.str "name"))),(.cmp .notIn (.idx (.var 2) (.cst (.int 1))) (.attr (.var 0) 4 0 "decls")),(.not (.attr (.idx (.attr (.var 0) 4 0 "decls") (.idx (.var 2) (.cst (.int 1)))) 3 3 "is_abstract"))])
 [.bad]
 []),
 (.ite (.disj [(.cmp .eq (.var 2) (.glo "TYPE" (.tup [(.str "name"),(.str "Type"),(.tup [])]))),(.cmp .ne (.bi .len [(.idx (.var 2) (.cst (.int 2)))]) (.bi .len [(.attr (.idx (.attr (.var 0) 4 0 "decls") (.idx (.var 2) (.cst (.int 1)))) 3 1 "params")]))])
 [.bad]
 []),
 (.asg 3 (.comp (.idx (.var 7) (.cst (.int 0))) [(.mk (.one 7) (.plain (.attr (.var 1) 3 1 "params")) [])])),
 (.asg 4 (.comp (.var 8) [(.mk (.one 8) (.plain (.callF 6 [(.var 2)])) [(.cmp .notIn (.var 8) (.var 3))])])),
 (.fr (.two 5 6) (.plain (.attr (.var 1) 3 5 "fields"))
 [(.asg 4 (.bin .add (.var 4) (.comp (.var 9) [(.mk (.one 9) (.plain (.callF 6 [(.var 6)])) [(.cmp .notIn (.var 9) (.var 3))])])))]),
 (.ite (.disj [(.cmp .ne (.var 4) (.lst [])),(.cmp .ne (.bi .len [(.bi .dict [(.attr (.var 1) 3 5 "fields")])]) (.bi .len [(.attr (.var 1) 3 5 "fields")]))])
 [.bad]
 []),
 (.seti (.attr (.var 0) 4 0 "decls") (.attr (.var 1) 3 0 "name") (.var 1))]
noncomputable def d_Kinds_decl:D:=.fn 2 2 [] [(.ite (.cmp .notIn (.var 1) (.attr (.var 0) 4 0 "decls"))
 [.bad]
 []),
 (.ret (.idx (.attr (.var 0) 4 0 "decls") (.var 1)))]
noncomputable def d_Kinds_super_of:D:=.fn 2 3 [] [(.ite (.cmp .eq (.idx (.var 1) (.cst (.int 0))) (.cst (.str "typeof")))
 [.bad]
 []),
 (.ite (.cmp .eq (.idx (.var 1) (.cst (.int 0))) (.cst (.str "fn")))
 [.bad]
 []),
 (.ite (.disj [(.cmp .ne (.idx (.var 1) (.cst (.int 0))) (.cst (.str "name"))),(.cmp .eq (.var 1) (.glo "ANY" (.tup [(.str "name"),(.str "Any"),(.tup [])])))])
 [.bad]
 []),
 (.asg 2 (.callM 50 4 (.var 0) [(.idx (.var 1) (.cst (.int 1)))])),
 (.ret (.callF 5 [(.attr (.var 2) 3 2 "super"),(.callM 47 3 (.var 2) [(.idx (.var 1) (.cst (.int 2)))])]))]
noncomputable def d_Kinds_supers:D:=.fn 2 3 [] [(.own 2 (.lst [(.var 1)])),
 (.whl (.cmp .ne (.idx (.var 2) (.neg (-1))) (.glo "ANY" (.tup [(.str "name"),(.str "Any"),(.tup [])])))
 [(.app 2 (.callM 51 4 (.var 0) [(.idx (.var 2) (.neg (-1)))]))]),
 (.retO 2)]
noncomputable def c_conc:E:=.comp (.callM 53 4 (.var 0) [(.var 2)]) [(.mk (.one 2) (.plain (.idx (.var 1) (.cst (.int 1)))) [])]
noncomputable def d_Kinds_is_concrete:D:=.fn 2 3 [] [(.ite (.cmp .eq (.idx (.var 1) (.cst (.int 0))) (.cst (.str "tuple")))
 [(.ret (.conj [(.isN true (.idx (.var 1) (.cst (.int 2)))),(.cmp .notIn (.cst (.bool false)) c_conc)]))]
 []),
 (.ite (.cmp .eq (.idx (.var 1) (.cst (.int 0))) (.cst (.str "name")))
 [(.ret (.conj [(.not (.attr (.callM 50 4 (.var 0) [(.idx (.var 1) (.cst (.int 1)))]) 3 3 "is_abstract")),(.cmp .eq (.callF 6 [(.var 1)]) (.lst []))]))]
 []),
 .bad]
noncomputable def d_nominal:D:=.fn 4 4 [(.bool false)] [(.expr (.callM 49 4 (.var 0) [(.callF 46 [(.var 1),(.lst []),(.var 2),(.var 3)])]))]
noncomputable def d_start_kinds:D:=.fn 0 3 [] [(.asg 0 (.callF 48 [])),
 (.fr (.one 1) (.plain (.tup [(.cst (.str "Type")),(.cst (.str "Function")),(.cst (.str "Number")),(.cst (.str "AbstractChar")),(.cst (.str "AbstractString")),(.cst (.str "Exception"))]))
 [(.expr (.callF 54 [(.var 0),(.var 1),(.glo "ANY" (.tup [(.str "name"),(.str "Any"),(.tup [])])),(.cst (.bool true))]))]),
 (.expr (.callF 54 [(.var 0),(.cst (.str "Real")),(.callF 0 [(.cst (.str "Number"))]),(.cst (.bool true))])),
 (.expr (.callF 54 [(.var 0),(.cst (.str "Integer")),(.callF 0 [(.cst (.str "Real"))]),(.cst (.bool true))])),
 (.expr (.callF 54 [(.var 0),(.cst (.str "Signed")),(.callF 0 [(.cst (.str "Integer"))]),(.cst (.bool true))])),
 (.expr (.callF 54 [(.var 0),(.cst (.str "Unsigned")),(.callF 0 [(.cst (.str "Integer"))]),(.cst (.bool true))])),
 (.fr (.one 1) (.plain (.glo "SIGNED" (.tup [(.str "Int8"),(.str "Int16"),(.str "Int32"),(.str "Int64"),(.str "BigInt")])))
 [(.expr (.callF 54 [(.var 0),(.var 1),(.callF 0 [(.cst (.str "Signed"))])]))]),
 (.fr (.one 1) (.plain (.glo "UNSIGNED" (.tup [(.str "UInt8"),(.str "UInt16"),(.str "UInt32"),(.str "UInt64")])))
 [(.expr (.callF 54 [(.var 0),(.var 1),(.callF 0 [(.cst (.str "Unsigned"))])]))]),
 (.fr (.two 1 2) (.plain (.tup [(.tup [(.cst (.str "Bool")),(.cst (.str "Integer"))]),(.tup [(.cst (.str "Char")),(.cst (.str "AbstractChar"))]),(.tup [(.cst (.str "String")),(.cst (.str "AbstractString"))])]))
 [(.expr (.callF 54 [(.var 0),(.var 1),(.callF 0 [(.var 2)])]))]),
 (.expr (.callF 54 [(.var 0),(.cst (.str "Symbol")),(.glo "ANY" (.tup [(.str "name"),(.str "Any"),(.tup [])]))])),
 (.expr (.callF 54 [(.var 0),(.cst (.str "Nothing")),(.glo "ANY" (.tup [(.str "name"),(.str "Any"),(.tup [])]))])),
 (.expr (.callM 49 4 (.var 0) [(.callF 46 [(.cst (.str "Expr")),(.lst []),(.glo "ANY" (.tup [(.str "name"),(.str "Any"),(.tup [])])),(.cst (.bool false)),(.cst (.bool true)),(.lst [(.tup [(.cst (.str "head")),(.callF 0 [(.cst (.str "Symbol"))])]),(.tup [(.cst (.str "args")),(.glo "ANY" (.tup [(.str "name"),(.str "Any"),(.tup [])]))])])])])),
 (.expr (.callF 56 [(.var 0)])),
 (.expr (.callF 57 [(.var 0)])),
 (.ret (.var 0))]
noncomputable def d_start_errors:D:=.fn 1 3 [] [(.asg 1 (.callF 0 [(.cst (.str "Exception"))])),
 (.fr (.one 2) (.plain (.glo "PLAIN_ERRORS" (.tup [(.str "DivideError"),(.str "InexactError"),(.str "TypeError"),(.str "StackOverflowError")])))
 [(.expr (.callF 54 [(.var 0),(.var 2),(.var 1)]))]),
 (.fr (.one 2) (.plain (.glo "TEXT_ERRORS" (.tup [(.str "ArgumentError"),(.str "OverflowError"),(.str "DimensionMismatch"),(.str "ErrorException")])))
 [(.expr (.callM 49 4 (.var 0) [(.callF 46 [(.var 2),(.lst []),(.var 1),(.cst (.bool false)),(.cst (.bool false)),(.lst [(.tup [(.cst (.str "msg")),(.glo "ANY" (.tup [(.str "name"),(.str "Any"),(.tup [])]))])])])]))]),
 (.fr (.one 2) (.plain (.glo "CALL_ERRORS" (.tup [(.str "MethodError"),(.str "AmbiguousError")])))
 [(.expr (.callM 49 4 (.var 0) [(.callF 46 [(.var 2),(.lst []),(.var 1),(.cst (.bool false)),(.cst (.bool false)),(.lst [(.tup [(.cst (.str "f")),(.glo "ANY" (.tup [(.str "name"),(.str "Any"),(.tup [])]))]),(.tup [(.cst (.str "args")),(.glo "ANY" (.tup [(.str "name"),(.str "Any"),(.tup [])]))])])])]))]),
 (.expr (.callM 49 4 (.var 0) [(.callF 46 [(.cst (.str "UndefVarError")),(.lst []),(.var 1),(.cst (.bool false)),(.cst (.bool false)),(.lst [(.tup [(.cst (.str "var")),(.glo "ANY" (.tup [(.str "name"),(.str "Any"),(.tup [])]))])])])])),
 (.expr (.callM 49 4 (.var 0) [(.callF 46 [(.cst (.str "BoundsError")),(.lst []),(.var 1),(.cst (.bool false)),(.cst (.bool false)),(.lst [(.tup [(.cst (.str "a")),(.glo "ANY" (.tup [(.str "name"),(.str "Any"),(.tup [])]))]),(.tup [(.cst (.str "i")),(.glo "ANY" (.tup [(.str "name"),(.str "Any"),(.tup [])]))])])])]))]
noncomputable def d_start_rows:D:=.fn 1 8 [] [(.asg 1 (.lst [(.tup [(.cst (.str "T.0")),(.glo "BOTTOM" (.tup [(.str "bottom")])),(.glo "ANY" (.tup [(.str "name"),(.str "Any"),(.tup [])]))]),(.tup [(.cst (.str "N.0")),(.glo "BOTTOM" (.tup [(.str "bottom")])),(.glo "ANY" (.tup [(.str "name"),(.str "Any"),(.tup [])]))])])),
 (.un2 2 3 false false (.tup [(.cst (.str "var")),(.cst (.str "T.0"))]) (.tup [(.cst (.str "var")),(.cst (.str "N.0"))])),
 (.expr (.callM 49 4 (.var 0) [(.callF 46 [(.cst (.str "AbstractArray")),(.var 1),(.glo "ANY" (.tup [(.str "name"),(.str "Any"),(.tup [])])),(.cst (.bool true))])])),
 (.fr (.one 4) (.plain (.tup [(.cst (.str "Array")),(.cst (.str "SubArray"))]))
 [(.expr (.callM 49 4 (.var 0) [(.callF 46 [(.var 4),(.var 1),(.callF 0 [(.cst (.str "AbstractArray")),(.tup [(.var 2),(.var 3)])]),(.cst (.bool false)),(.cst (.bool true))])]))]),
 (.asg 5 (.lst [(.tup [(.cst (.str "T.0")),(.glo "BOTTOM" (.tup [(.str "bottom")])),(.glo "ANY" (.tup [(.str "name"),(.str "Any"),(.tup [])]))])])),
 (.expr (.callM 49 4 (.var 0) [(.callF 46 [(.cst (.str "AbstractRange")),(.var 5),(.callF 0 [(.cst (.str "AbstractArray")),(.tup [(.var 2),(.tup [(.cst (.str "n")),(.cst (.int 1))])])]),(.cst (.bool true))])])),
 (.asg 6 (.callF 0 [(.cst (.str "AbstractRange")),(.tup [(.var 2)])])),
 (.expr (.callM 49 4 (.var 0) [(.callF 46 [(.cst (.str "UnitRange")),(.var 5),(.var 6),(.cst (.bool false)),(.cst (.bool false)),(.lst [(.tup [(.cst (.str "start")),(.var 2)]),(.tup [(.cst (.str "stop")),(.var 2)])])])])),
 (.expr (.callM 49 4 (.var 0) [(.callF 46 [(.cst (.str "StepRange")),(.var 5),(.var 6),(.cst (.bool false)),(.cst (.bool false)),(.lst [(.tup [(.cst (.str "start")),(.var 2)]),(.tup [(.cst (.str "step")),(.var 2)]),(.tup [(.cst (.str "stop")),(.var 2)])])])])),
 (.expr (.callM 49 4 (.var 0) [(.callF 46 [(.cst (.str "Ref")),(.var 5),(.glo "ANY" (.tup [(.str "name"),(.str "Any"),(.tup [])])),(.cst (.bool false)),(.cst (.bool true)),(.lst [(.tup [(.cst (.str "x")),(.var 2)])])])])),
 (.asg 7 (.lst [(.tup [(.cst (.str "T.0")),(.glo "BOTTOM" (.tup [(.str "bottom")])),(.callF 0 [(.cst (.str "Integer"))])])])),
 (.expr (.callM 49 4 (.var 0) [(.callF 46 [(.cst (.str "Rational")),(.var 7),(.callF 0 [(.cst (.str "Real"))]),(.cst (.bool false)),(.cst (.bool false)),(.lst [(.tup [(.cst (.str "num")),(.var 2)]),(.tup [(.cst (.str "den")),(.var 2)])])])]))]
noncomputable def d__law_keg:D:=.fn 1 3 [] [(.asg 1 (.ife (.cmp .ne (.var 0) (.lst [])) (.bi .int [(.idx (.var 0) (.cst (.int 0)))]) (.cst (.int 1)))),
 (.asg 2 (.ife (.cmp .ge (.var 1) (.cst (.int 0))) (.var 1) (.bin .sub (.cst (.int 6)) (.var 1)))),
 (.ret (.shr (.lst [(.ife (.cmp .ge (.var 2) (.pow 10 18)) (.var 2) (.cst (.int 0))),(.bin .add (.bin .mod (.var 2) (.cst (.int 1000000093))) (.cst (.int 37)))])))]
noncomputable def d__law_sip:D:=.fn 2 3 [] [(.ite (.cmp .gt (.idx (.var 0) (.cst (.int 0))) (.cst (.int 0)))
 [(.asg 2 (.bin .mod (.idx (.var 0) (.cst (.int 0))) (.var 1))),
 (.seti (.var 0) (.cst (.int 0)) (.bin .fdiv (.idx (.var 0) (.cst (.int 0))) (.var 1))),
 (.ret (.var 2))]
 []),
 (.seti (.var 0) (.cst (.int 1)) (.bin .mod (.bin .add (.bin .mul (.idx (.var 0) (.cst (.int 1))) (.cst (.int 51749))) (.cst (.int 331))) (.cst (.int 2147483647)))),
 (.ret (.bin .mod (.bin .fdiv (.idx (.var 0) (.cst (.int 1))) (.cst (.int 7))) (.var 1)))]
noncomputable def d__law_plain:D:=.fn 1 1 [] [(.ret (.tup [(.cst (.str "name")),(.var 0),(.tup [])]))]
noncomputable def d__law_list_of:D:=.fn 1 1 [] [(.ret (.tup [(.cst (.str "name")),(.cst (.str "Array")),(.tup [(.var 0),(.tup [(.cst (.str "n")),(.cst (.int 1))])])]))]
noncomputable def d__law_member:D:=.fn 2 3 [] [(.asg 2 (.lst [(.lst [(.var 1)]),(.lst [(.callF 60 [(.cst (.str "Integer"))])]),(.lst [(.callF 61 [(.var 1)])]),(.lst [(.var 1),(.callF 60 [(.cst (.str "String"))])]),(.lst [(.var 1),(.callF 61 [(.var 1)])])])),
 (.ret (.idx (.bin .add (.var 2) (.lst [(.lst [(.callF 60 [(.cst (.str "Integer"))]),(.callF 1 [(.lst [(.var 1)])])])])) (.var 0)))]
noncomputable def c_kind:E:=.comp (.callF 2 [(.callF 62 [(.var 5),(.var 3)])]) [(.mk (.one 5) (.plain (.var 0)) [])]
noncomputable def d__law_kind:D:=.fn 3 6 [] [(.asg 3 (.tup [(.cst (.str "var")),(.cst (.str "T.8"))])),
 (.asg 4 (.ife (.cmp .lt (.var 1) (.cst (.int 0))) (.cst .none) (.callF 2 [(.callF 62 [(.var 1),(.var 3)])]))),
 (.ret (.tup [(.cst (.str "all")),(.cst (.str "T.8")),(.tup [(.cst (.str "bottom"))]),(.var 2),(.callF 1 [c_kind,(.var 4)])]))]
noncomputable def d__law_given:D:=.fn 2 4 [] [(.own 2 (.lst [(.callF 60 [(.idx (.lst [(.cst (.str "Int64")),(.cst (.str "Bool")),(.cst (.str "String")),(.cst (.str "Int64"))]) (.callF 59 [(.var 0),(.cst (.int 4))]))])])),
 (.app 2 (.callF 61 [(.callF 60 [(.idx (.lst [(.cst (.str "Int64")),(.cst (.str "Integer")),(.cst (.str "String"))]) (.callF 59 [(.var 0),(.cst (.int 3))]))])])),
 (.app 2 (.callF 1 [(.lst [(.callF 60 [(.idx (.lst [(.cst (.str "Int64")),(.cst (.str "Bool"))]) (.callF 59 [(.var 0),(.cst (.int 2))]))])])])),
 (.asg 3 (.idx (.lst [(.lst [(.cst (.int 0)),(.cst (.int 0)),(.cst (.int 0))]),(.lst [(.cst (.int 0)),(.cst (.int 0)),(.cst (.int 0))]),(.lst [(.cst (.int 1)),(.cst (.int 1)),(.cst (.int 0))]),(.lst [(.cst (.int 0)),(.cst (.int 0)),(.cst (.int 0))]),(.lst [(.cst (.int 0)),(.cst (.int 1)),(.cst (.int 1))]),(.lst [(.cst (.int 0)),(.cst (.int 2)),(.cst (.int 2))])]) (.var 1))),
 (.ret (.idx (.var 2) (.ife (.cmp .gt (.callF 59 [(.var 0),(.cst (.int 6))]) (.cst (.int 0))) (.idx (.var 3) (.callF 59 [(.var 0),(.cst (.int 3))])) (.callF 59 [(.var 0),(.cst (.int 3))]))))]
noncomputable def d__law_is_under:D:=.fn 2 3 [] [(.asg 2 (.dct [(.cst (.str "Int64")),(.lst [(.cst (.str "Integer")),(.cst (.str "Real"))]),(.cst (.str "Bool")),(.lst [(.cst (.str "Integer")),(.cst (.str "Real"))]),(.cst (.str "Integer")),(.lst [(.cst (.str "Real"))])])),
 (.ret (.disj [(.cmp .eq (.var 0) (.var 1)),(.cmp .eq (.var 1) (.callF 60 [(.cst (.str "Any"))])),(.conj [(.cmp .eq (.idx (.var 0) (.cst (.int 0))) (.cst (.str "name"))),(.cmp .eq (.idx (.var 1) (.cst (.int 0))) (.cst (.str "name"))),(.cmp .isIn (.idx (.var 1) (.cst (.int 1))) (.get2 (.var 2) (.idx (.var 0) (.cst (.int 1))) (.lst [])))])]))]
noncomputable def d__law_is_member:D:=.fn 2 2 [] [(.ite (.cmp .eq (.idx (.var 1) (.cst (.int 0))) (.cst (.str "tuple")))
 [(.ret (.conj [(.cmp .eq (.idx (.var 0) (.cst (.int 0))) (.cst (.str "tuple"))),(.cmp .eq (.bi .len [(.idx (.var 0) (.cst (.int 1)))]) (.cst (.int 1))),(.callF 65 [(.idx (.idx (.var 0) (.cst (.int 1))) (.cst (.int 0))),(.idx (.idx (.var 1) (.cst (.int 1))) (.cst (.int 0)))])]))]
 []),
 (.ite (.conj [(.cmp .eq (.idx (.var 1) (.cst (.int 0))) (.cst (.str "name"))),(.cmp .eq (.idx (.var 1) (.cst (.int 1))) (.cst (.str "Array")))])
 [(.ret (.cmp .eq (.var 0) (.var 1)))]
 []),
 (.ret (.callF 65 [(.var 0),(.var 1)]))]
noncomputable def c_oft:E:=.comp (.var 4) [(.mk (.one 4) (.plain (.bin .add (.bi .list [(.var 0)]) (.lst [(.var 1)]))) [(.cmp .isIn (.var 4) (.tup [(.cst (.int 2)),(.cst (.int 4))]))])]
noncomputable def b_oft:List S:=[(.asg 2 (.bin .add (.var 2) (.bi .int [(.cmp .isIn (.var 3) (.tup [(.cst (.int 0)),(.cst (.int 3)),(.cst (.int 4)),(.cst (.int 5))]))])))]
noncomputable def w_oft:S:=.fr (.one 3) (.plain (.var 0)) b_oft
noncomputable def d__law_often:D:=.fn 2 5 [] [(.asg 2 (.bin .mul (.cst (.int 2)) (.bi .int [(.cmp .isIn (.var 1) (.tup [(.cst (.int 0)),(.cst (.int 3)),(.cst (.int 4)),(.cst (.int 5))]))]))),
 w_oft,
 (.ret (.tup [(.var 2),(.cmp .ne c_oft (.lst []))]))]
noncomputable def c_ch3:E:=.comp (.var 9) [(.mk (.one 9) (.plain (.var 6)) [(.callF 65 [(.var 9),(.var 3)])])]
noncomputable def c_ch2:E:=.comp (.idx (.idx (.var 8) (.cst (.int 2))) (.cst (.int 0))) [(.mk (.one 8) (.plain (.var 0)) [(.conj [(.cmp .eq (.idx (.var 8) (.cst (.int 0))) (.cst (.str "name"))),(.cmp .ne (.idx (.var 8) (.cst (.int 2))) (.tup [])),(.var 5)])])]
noncomputable def c_ch1:E:=.comp (.idx (.idx (.var 7) (.cst (.int 1))) (.cst (.int 0))) [(.mk (.one 7) (.plain (.var 0)) [(.cmp .eq (.idx (.var 7) (.cst (.int 0))) (.cst (.str "tuple")))])]
noncomputable def d__law_choices:D:=.fn 4 10 [] [(.un [4,5] (.callF 67 [(.var 1),(.var 2)])),
 (.asg 6 (.lst [(.var 3)])),
 (.ite (.conj [(.cmp .gt (.var 4) (.cst (.int 1))),(.not (.var 5))])
 [(.asg 6 (.bin .add (.bin .add (.lst [(.callF 60 [(.cst (.str "Int64"))]),(.callF 60 [(.cst (.str "Bool"))]),(.callF 60 [(.cst (.str "String"))])]) c_ch1) (.var 0)))]
 []),
 (.asg 6 (.bin .add (.var 6) c_ch2)),
 (.ret c_ch3)]
noncomputable def c_due2:E:=.comp (.callF 66 [(.idx (.var 0) (.var 7)),(.var 8)]) [(.mk (.one 8) (.plain (.callF 62 [(.idx (.var 4) (.var 7)),(.var 5)])) [])]
noncomputable def c_due1:E:=.comp (.cmp .isIn (.cst (.bool true)) c_due2) [(.mk (.one 7) (.range (.bi .len [(.var 4)])) [])]
noncomputable def b_due:List S:=[(.asg 6 c_due1),(.ite (.cmp .notIn (.cst (.bool false)) (.var 6)) [(.ret (.cst (.bool true)))] [])]
noncomputable def w_due:S:=.fr (.one 5) (.plain (.callF 68 [(.var 0),(.var 1),(.var 2),(.var 3)])) b_due
noncomputable def d__law_due:D:=.fn 4 9 [] [(.ite (.disj [(.cmp .lt (.bi .len [(.var 0)]) (.bi .len [(.var 1)])),(.conj [(.cmp .lt (.var 2) (.cst (.int 0))),(.cmp .gt (.bi .len [(.var 0)]) (.bi .len [(.var 1)]))])])
 [(.ret (.cst (.bool false)))]
 []),
 (.asg 4 (.bin .add (.bi .list [(.var 1)]) (.bin .mul (.lst [(.var 2)]) (.bin .sub (.bi .len [(.var 0)]) (.bi .len [(.var 1)]))))),
 w_due,
 (.ret (.cst (.bool false)))]
noncomputable def s_bn0:S:=(.un2 4 5 false false (.callF 63 [(.var 1),(.var 2),(.var 3)]) (.callF 63 [(.var 1),(.var 2),(.callF 60 [(.cst (.str "Any"))])]))
noncomputable def s_bn1:S:=(.ite (.disj [(.not (.callF 44 [(.var 0),(.var 4),(.var 5)])),(.callF 44 [(.var 0),(.callF 60 [(.cst (.str "Int64"))]),(.var 4)])]) [.bad] [])
noncomputable def s_bn2:S:=(.un2 6 7 false false (.callF 67 [(.var 1),(.neg (-1))]) (.callF 67 [(.var 1),(.var 2)]))
noncomputable def s_bn3:S:=(.ite (.conj [(.cmp .eq (.conj [(.cmp .gt (.idx (.var 6) (.cst (.int 0))) (.cst (.int 1))),(.not (.idx (.var 6) (.cst (.int 1))))]) (.conj [(.cmp .gt (.idx (.var 7) (.cst (.int 0))) (.cst (.int 1))),(.not (.idx (.var 7) (.cst (.int 1))))])),(.not (.callF 44 [(.var 0),(.callF 63 [(.var 1),(.neg (-1)),(.var 3)]),(.var 4)]))]) [.bad] [])
noncomputable def l_bn:List S:=[(.asg 8 (.callF 1 [(.lst [(.callF 60 [(.cst (.str "String"))])])])),(.asg 9 (.callF 63 [(.lst [(.cst (.int 0))]),(.neg (-1)),(.callF 60 [(.cst (.str "Integer"))])])),(.ret (.conj [(.callF 44 [(.var 0),(.var 8),(.callF 63 [(.lst [(.cst (.int 0))]),(.neg (-1)),(.callF 60 [(.cst (.str "Any"))])])]),(.not (.callF 44 [(.var 0),(.var 8),(.var 9)]))]))]
noncomputable def d__law_bounds_right:D:=.fn 4 10 [] (s_bn0 :: s_bn1 :: s_bn2 :: s_bn3 :: l_bn)
noncomputable def c_law2:E:=.comp (.callF 64 [(.var 1),(.var 14)]) [(.mk (.one 14) (.plain (.var 11)) [])]
noncomputable def b_law:List S:=[(.asg 10 (.bi .max2 [(.cst (.int 0)),(.bin .add (.bi .len [(.var 6)]) (.idx (.lst [(.cst (.int 0)),(.cst (.int 0)),(.cst (.int 1)),(.cst (.int 2)),(.neg (-1))]) (.callF 59 [(.var 1),(.cst (.int 5))])))])),(.asg 11 (.slc .upto (.bin .add (.bi .list [(.var 6)]) (.bin .mul (.lst [(.bi .max2 [(.cst (.int 0)),(.var 7)])]) (.cst (.int 2)))) (.var 10))),(.asg 12 c_law2),(.ite (.cmp .ne (.callF 44 [(.var 2),(.callF 1 [(.var 12)]),(.callF 63 [(.var 6),(.var 7),(.var 8)])]) (.callF 69 [(.var 12),(.var 6),(.var 7),(.var 8)])) [.bad] [])]
noncomputable def w_law:S:=.fr (.one 9) (.range (.cst (.int 4))) b_law
noncomputable def c_law1:E:=.comp (.callF 59 [(.var 1),(.cst (.int 6))]) [(.mk (.one 13) (.range (.callF 59 [(.var 1),(.cst (.int 3))])) [])]
noncomputable def d_law:D:=.fn 1 15 [] [(.un2 1 2 false false (.callF 58 [(.var 0)]) (.callF 55 [])),
 (.asg 3 (.callF 63 [(.lst [(.cst (.int 4)),(.cst (.int 0))]),(.neg (-1)),(.callF 60 [(.cst (.str "Any"))])])),
 (.asg 4 (.callF 1 [(.lst [(.callF 61 [(.callF 60 [(.cst (.str "Integer"))])]),(.callF 60 [(.cst (.str "Int64"))])])])),
 (.asg 5 (.callF 1 [(.lst [(.callF 61 [(.callF 60 [(.cst (.str "Integer"))])]),(.callF 61 [(.callF 60 [(.cst (.str "String"))])])])])),
 (.ite (.disj [(.not (.callF 44 [(.var 2),(.var 4),(.var 3)])),(.not (.callF 44 [(.var 2),(.var 5),(.var 3)]))])
 [.bad]
 []),
 (.ite (.not (.callF 44 [(.var 2),(.callF 1 [(.lst [(.callF 60 [(.cst (.str "String"))]),(.callF 60 [(.cst (.str "Int64"))])])]),(.callF 63 [(.lst [(.cst (.int 3)),(.cst (.int 0))]),(.neg (-1)),(.callF 60 [(.cst (.str "Integer"))])])]))
 [.bad]
 []),
 (.ite (.not (.callF 44 [(.var 2),(.callF 1 [(.lst [(.callF 60 [(.cst (.str "Bool"))])])]),(.callF 63 [(.lst [(.cst (.int 3))]),(.neg (-1)),(.callF 60 [(.cst (.str "Integer"))])])]))
 [.bad]
 []),
 (.asg 6 c_law1),
 (.asg 7 (.ife (.cmp .eq (.callF 59 [(.var 1),(.cst (.int 2))]) (.cst (.int 0))) (.callF 59 [(.var 1),(.cst (.int 6))]) (.neg (-1)))),
 (.asg 8 (.callF 60 [(.idx (.lst [(.cst (.str "Any")),(.cst (.str "Real")),(.cst (.str "Integer"))]) (.callF 59 [(.var 1),(.cst (.int 3))]))])),
 w_law,
 (.ret (.callF 70 [(.var 2),(.var 6),(.var 7),(.var 8)]))]
noncomputable def defs:List D:=[d_named,d_tuple_of,d_union_of,d_parts_of_kind,d_rebuilt_kind,d_substituted,d_free_vars,d_kind_text,d_Side,d_Side_with_lower,d_Side_with_upper,d_Side_lower,d_Side_upper,d_Sides,d_Sides_copied,d_Sides_opened,d_Sides_side,d_Sides_is_asked,d_Sides_has_asked,d_Sides_add_lower,d_Sides_add_upper,d_Sides_later_ones,d_occurrences,d_is_diagonal,d_left_cases,d_tuple_cases,d_is_empty,d_tail_of,d_Search,d_Search_run,d_Search_settled,d_Search_step,d_Search_below,d_Search_above,d_Search_by_form,d_Search_chosen,d_Search_plain,d_Search_nominal,d_Search_are_concrete,d_Search_is_one,d_narrowed,d_widened,d_has_within,d_tuple_ways,d_is_subtype,d_same_kind,d_Decl,d_Decl_table_for,d_Kinds,d_Kinds_declare,d_Kinds_decl,d_Kinds_super_of,d_Kinds_supers,d_Kinds_is_concrete,d_nominal,d_start_kinds,d_start_errors,d_start_rows,d__law_keg,d__law_sip,d__law_plain,d__law_list_of,d__law_member,d__law_kind,d__law_given,d__law_is_under,d__law_is_member,d__law_often,d__law_choices,d__law_due,d__law_bounds_right,d_law]
noncomputable def tabs:List Tab:=[(0,"name"),(1,"params")] ::
 [(0,"kinds"),(1,"rest")] ::
 [(0,"kinds"),(1,"left"),(2,"found"),(3,"here")] ::
 [(0,"kind"),(1,"word")] ::
 [(0,"kind"),(1,"parts"),(2,"word"),(3,"many")] ::
 [(0,"kind"),(1,"table"),(2,"inner"),(3,"bounds"),(4,"parts")] ::
 [(0,"kind"),(1,"found"),(2,"left"),(3,"here"),(4,"bound")] ::
 [(0,"kind"),(1,"word"),(2,"inside"),(3,"some")] ::
 [(1,"is_asked"),(2,"order"),(3,"lowers"),(4,"uppers"),(5,"is_diagonal")] ::
 [(0,"self"),(1,"kind")] ::
 [(0,"self"),(1,"kind")] ::
 [(0,"self")] ::
 [(0,"self")] ::
 [(1,"rows"),(2,"many")] ::
 [(0,"self")] ::
 [(0,"self"),(1,"kind"),(2,"is_asked"),(3,"word"),(4,"name"),(5,"lower"),(6,"upper"),(7,"body"),(8,"fresh"),(9,"lowers"),(10,"uppers")] ::
 [(0,"self"),(1,"name")] ::
 [(0,"self"),(1,"kind")] ::
 [(0,"self"),(1,"kinds"),(2,"left"),(3,"met"),(4,"name"),(5,"side")] ::
 [(0,"self"),(1,"name"),(2,"kind")] ::
 [(0,"self"),(1,"name"),(2,"kind")] ::
 [(0,"self"),(1,"kind"),(2,"name"),(3,"order"),(4,"found"),(5,"other")] ::
 [(0,"kind"),(1,"name"),(2,"word"),(3,"rows")] ::
 [(0,"body"),(1,"name"),(2,"many"),(3,"is_within")] ::
 [(0,"kind"),(1,"word"),(2,"found")] ::
 [(0,"kind"),(1,"rows"),(2,"part"),(3,"cases")] ::
 [(0,"kind")] ::
 [(0,"kind")] ::
 [(1,"kinds"),(2,"fuel")] ::
 [(0,"self"),(1,"goals"),(2,"sides"),(3,"waiting"),(4,"left"),(5,"here"),(6,"found")] ::
 [(0,"self"),(1,"left"),(2,"sides"),(3,"waiting"),(4,"goal"),(5,"ways"),(6,"way")] ::
 [(0,"self"),(1,"goal"),(2,"sides"),(3,"word"),(4,"one"),(5,"other")] ::
 [(0,"self"),(1,"name"),(2,"kind"),(3,"sides")] ::
 [(0,"self"),(1,"name"),(2,"kind"),(3,"sides")] ::
 [(0,"self"),(1,"one"),(2,"other"),(3,"sides"),(4,"ways"),(5,"upper"),(6,"lower")] ::
 [(0,"self"),(1,"one"),(2,"other"),(3,"sides"),(4,"fresh"),(5,"body"),(6,"side")] ::
 [(0,"self"),(1,"one"),(2,"other"),(3,"words")] ::
 [(0,"self"),(1,"one"),(2,"other"),(3,"above")] ::
 [(0,"self"),(1,"sides"),(2,"name"),(3,"side")] ::
 [(0,"self"),(1,"side"),(2,"sides"),(3,"kind"),(4,"other")] ::
 [(0,"name"),(1,"kind"),(2,"sides"),(3,"later"),(4,"lower")] ::
 [(0,"name"),(1,"kind"),(2,"sides"),(3,"later")] ::
 [(0,"name"),(1,"kind")] ::
 [(0,"one"),(1,"other"),(2,"some"),(3,"tail"),(4,"wanted"),(5,"rest"),(6,"goals")] ::
 [(0,"kinds"),(1,"one"),(2,"other"),(3,"fuel"),(4,"case"),(5,"search")] ::
 [(0,"kinds"),(1,"one"),(2,"other")] ::
 [(1,"name"),(2,"params"),(3,"above"),(4,"is_abstract"),(5,"is_mutable"),(6,"fields")] ::
 [(0,"self"),(1,"params")] ::
 [] ::
 [(0,"self"),(1,"decl"),(2,"above"),(3,"own"),(4,"wild"),(5,"name"),(6,"kind")] ::
 [(0,"self"),(1,"name")] ::
 [(0,"self"),(1,"kind"),(2,"decl")] ::
 [(0,"self"),(1,"kind"),(2,"found")] ::
 [(0,"self"),(1,"kind")] ::
 [(0,"kinds"),(1,"name"),(2,"above"),(3,"is_abstract")] ::
 [(0,"kinds"),(1,"name"),(2,"above")] ::
 [(0,"kinds"),(1,"above"),(2,"name")] ::
 [(0,"kinds"),(1,"anything"),(2,"item"),(3,"rank"),(4,"name"),(5,"one"),(6,"above"),(7,"whole")] ::
 [(0,"script"),(1,"start"),(2,"bulk")] ::
 [(0,"keg"),(1,"top"),(2,"digit")] ::
 [(0,"name")] ::
 [(0,"item")] ::
 [(0,"way"),(1,"item"),(2,"rows")] ::
 [(0,"ways"),(1,"tail"),(2,"upper"),(3,"item"),(4,"rest")] ::
 [(0,"keg"),(1,"way"),(2,"some"),(3,"fit")] ::
 [(0,"one"),(1,"other"),(2,"above")] ::
 [(0,"one"),(1,"kind")] ::
 [(0,"ways"),(1,"tail"),(2,"many"),(3,"way")] ::
 [(0,"parts"),(1,"ways"),(2,"tail"),(3,"upper"),(4,"many"),(5,"has_array"),(6,"found")] ::
 [(0,"parts"),(1,"ways"),(2,"tail"),(3,"upper"),(4,"rows"),(5,"choice"),(6,"lie")] ::
 [(0,"kinds"),(1,"ways"),(2,"tail"),(3,"upper"),(4,"whole"),(5,"wide"),(6,"some"),(7,"more"),(8,"text"),(9,"small")] ::
 [(0,"script"),(1,"keg"),(2,"kinds"),(3,"fixed"),(4,"pair"),(5,"text"),(6,"ways"),(7,"tail"),(8,"upper"),(9,"turn"),(10,"size"),(11,"rows"),(12,"parts")] :: []
noncomputable def names:List Str:="named" :: "tuple_of" :: "union_of" :: "parts_of_kind" :: "rebuilt_kind" :: "substituted" :: "free_vars" :: "kind_text" :: "Side" :: "with_lower" :: "with_upper" :: "lower" :: "upper" :: "Sides" :: "copied" :: "opened" :: "side" :: "is_asked" :: "has_asked" :: "add_lower" :: "add_upper" :: "later_ones" :: "occurrences" :: "is_diagonal" :: "left_cases" :: "tuple_cases" :: "is_empty" :: "tail_of" :: "Search" :: "run" :: "settled" :: "step" :: "below" :: "above" :: "by_form" :: "chosen" :: "plain" :: "nominal" :: "are_concrete" :: "is_one" :: "narrowed" :: "widened" :: "has_within" :: "tuple_ways" :: "is_subtype" :: "same_kind" :: "Decl" :: "table_for" :: "Kinds" :: "declare" :: "decl" :: "super_of" :: "supers" :: "is_concrete" :: "nominal" :: "start_kinds" :: "start_errors" :: "start_rows" :: "_law_keg" :: "_law_sip" :: "_law_plain" :: "_law_list_of" :: "_law_member" :: "_law_kind" :: "_law_given" :: "_law_is_under" :: "_law_is_member" :: "_law_often" :: "_law_choices" :: "_law_due" :: "_law_bounds_right" :: "law" :: []
noncomputable def fldss:List (List Str):=[["is_asked","order","lowers","uppers","is_diagonal"],["rows","many"],["kinds","fuel","known"],["name","params","super","is_abstract","is_mutable","fields"],["decls"]]
noncomputable def glos:List (Str×V):=[("ANY",(.tup [(.str "name"),(.str "Any"),(.tup [])])),("BOTTOM",(.tup [(.str "bottom")])),("MOST_CASES",(.int 64)),("TYPE",(.tup [(.str "name"),(.str "Type"),(.tup [])])),("FUNCTION",(.tup [(.str "name"),(.str "Function"),(.tup [])])),("SIGNED",(.tup [(.str "Int8"),(.str "Int16"),(.str "Int32"),(.str "Int64"),(.str "BigInt")])),("UNSIGNED",(.tup [(.str "UInt8"),(.str "UInt16"),(.str "UInt32"),(.str "UInt64")])),("PLAIN_ERRORS",(.tup [(.str "DivideError"),(.str "InexactError"),(.str "TypeError"),(.str "StackOverflowError")])),("TEXT_ERRORS",(.tup [(.str "ArgumentError"),(.str "OverflowError"),(.str "DimensionMismatch"),(.str "ErrorException")])),("CALL_ERRORS",(.tup [(.str "MethodError"),(.str "AmbiguousError")]))]
noncomputable def P (i:Nat):Option D:=defs[i]?
end
namespace Q
section
inductive Qy where
 | v (q:Option V)
 | b (q:Option Bool)
 | c (q:Option (V×H))
 | o (q:Option O)
 | s (q:R3)
 | t (q:Bool)
 | h (q:Option H)
 | p (q:Option (List V×V))
structure Fct where
 l:Qy
 r:Qy
 h:l = r
inductive As where
 | e
 | c (n:Nat) (f:Fct) (as:As)
abbrev Log:=List (Qy×Qy)
noncomputable def As.log:As→Log
 | .e=>[]
 | .c _ f as=>(f.l,f.l) :: as.log
noncomputable def LogOK:Log→Prop
 | []=>True
 | p :: l=>p.1 = p.2∧LogOK l
theorem LogOK.app:∀ {l m:Log},LogOK (l ++ m)→LogOK l∧LogOK m
 | [],_,h=>⟨trivial,h⟩
 | _ :: _,_,h=>⟨⟨h.1,(LogOK.app h.2).1⟩,(LogOK.app h.2).2⟩
theorem As.ok:∀ as:As,LogOK as.log
 | .e=>trivial
 | .c _ _ as=>⟨rfl,as.ok⟩
abbrev RM (α:Type):=As→Option (α×As×Log)
structure Kd (γ:Type) where
 inj:γ→Qy
 prj:Qy→Option γ
 ok:∀ q,prj (inj q) = some q
noncomputable def Rpure {α:Type} (x:α):RM α:=λas=>some (x,as,[])
noncomputable def Rof {α:Type} (o:Option α):RM α:=λas=>o.casesOn none λx=>some (x,as,[])
noncomputable def Rbind {α β:Type} (m:RM α) (k:α→RM β):RM β:=λas=>(m as).casesOn none λp=>(k p.1 p.2.1).casesOn none λq=>some (q.1,q.2.1,p.2.2 ++ q.2.2)
noncomputable def useF {γ α:Type} (K:Kd γ) (w:γ→Option α) (q:γ) (f:Fct) (as:As):Option (α×As×Log):=(K.prj f.r).casesOn none λr=>(w r).casesOn none λx=>some (x,as,[(K.inj q,f.l)])
noncomputable def rt {γ α:Type} (K:Kd γ) (w:γ→Option α) (q:γ) (m:RM α):RM α:=λas=>as.casesOn (m .e) λn f as=>n.casesOn (useF K w q f as) λn=>m (.c n f as)
noncomputable def Sound {α:Type} (m:RM α) (o:Option α):Prop:=∀ as x as' l,m as = some (x,as',l)→LogOK l→o = some x
theorem Sound.run {α:Type} {m:RM α} {o:Option α} (s:Sound m o) (as:As) (x:α) (h:m as = some (x,.e,as.log)):o = some x:=s as x _ _ h as.ok
theorem Sound.pure {α:Type} (x:α):Sound (Rpure x) (some x):=λas y as' l e _=>congrArg some (congrArg (·.1) (Option.some.inj e))
theorem Sound.of {α:Type} (o:Option α):Sound (Rof o) o:=λas x as' l e _=>match o,e with
 | none,e=>nn e
 | some y,e=>congrArg some (congrArg (·.1) (Option.some.inj e))
theorem Sound.bind {α β:Type} {m:RM α} {o:Option α} {k:α→RM β} {k':α→Option β} (h:Sound m o) (hk:∀ x,Sound (k x) (k' x)):Sound (Rbind m k) (b1 o k'):=λas y as' l e hl=>by
 unfold Rbind at e
 cases h1:m as with
 | none=>rw [h1] at e; exact nn e
 | some p=>
  rw [h1] at e
  obtain ⟨x,as1,l1⟩:=p
  dsimp only at e
  cases h2:k x as1 with
  | none=>rw [h2] at e; exact nn e
  | some q=>
   rw [h2] at e
   obtain ⟨z,as2,l2⟩:=q
   cases Option.some.inj e
   rw [h as x as1 l1 h1 (LogOK.app hl).1]
   exact hk x as1 _ _ l2 h2 (LogOK.app hl).2
theorem Sound.rt {γ α:Type} (K:Kd γ) {w:γ→Option α} {q:γ} {m:RM α} (h:Sound m (w q)):Sound (rt K w q m) (w q):=λas x as' l e hl=>by
 unfold Mine.Q.rt at e
 cases as with
 | e=>exact h _ _ _ _ e hl
 | c n f as=>
  cases n with
  | succ n=>exact h _ _ _ _ e hl
  | zero=>
   dsimp only [useF] at e
   cases h1:K.prj f.r with
   | none=>rw [h1] at e; exact nn e
   | some r=>
    rw [h1] at e
    dsimp only at e
    cases h2:w r with
    | none=>rw [h2] at e; exact nn e
    | some y=>
     rw [h2] at e
     cases Option.some.inj e
     have h3:some q = some r:=(K.ok q).symm.trans ((congrArg K.prj (hl.1.trans f.h)).trans h1)
     rw [Option.some.inj h3]
     exact h2
theorem Sound.eq {α:Type} {m:RM α} {o o':Option α} (h:o = o') (s:Sound m o'):Sound m o:=h ▸ s
noncomputable def kV:Kd (Option V):=⟨.v,λb=>b.casesOn (motive:=λ_=>Option (Option V)) some (λ_=>none) (λ_=>none) (λ_=>none) (λ_=>none) (λ_=>none) (λ_=>none) (λ_=>none),λ_=>rfl⟩
noncomputable def fV {a b:Option V} (h:a = b):Fct:=⟨.v a,.v b,congrArg _ h⟩
noncomputable def kB:Kd (Option Bool):=⟨.b,λb=>b.casesOn (motive:=λ_=>Option (Option Bool)) (λ_=>none) some (λ_=>none) (λ_=>none) (λ_=>none) (λ_=>none) (λ_=>none) (λ_=>none),λ_=>rfl⟩
noncomputable def fB {a b:Option Bool} (h:a = b):Fct:=⟨.b a,.b b,congrArg _ h⟩
noncomputable def kC:Kd (Option (V×H)):=⟨.c,λb=>b.casesOn (motive:=λ_=>Option (Option (V×H))) (λ_=>none) (λ_=>none) some (λ_=>none) (λ_=>none) (λ_=>none) (λ_=>none) (λ_=>none),λ_=>rfl⟩
noncomputable def fC {a b:Option (V×H)} (h:a = b):Fct:=⟨.c a,.c b,congrArg _ h⟩
noncomputable def kO:Kd (Option O):=⟨.o,λb=>b.casesOn (motive:=λ_=>Option (Option O)) (λ_=>none) (λ_=>none) (λ_=>none) some (λ_=>none) (λ_=>none) (λ_=>none) (λ_=>none),λ_=>rfl⟩
noncomputable def fO {a b:Option O} (h:a = b):Fct:=⟨.o a,.o b,congrArg _ h⟩
noncomputable def kS:Kd (R3):=⟨.s,λb=>b.casesOn (motive:=λ_=>Option (R3)) (λ_=>none) (λ_=>none) (λ_=>none) (λ_=>none) some (λ_=>none) (λ_=>none) (λ_=>none),λ_=>rfl⟩
noncomputable def fS {a b:R3} (h:a = b):Fct:=⟨.s a,.s b,congrArg _ h⟩
noncomputable def kT:Kd (Bool):=⟨.t,λb=>b.casesOn (motive:=λ_=>Option (Bool)) (λ_=>none) (λ_=>none) (λ_=>none) (λ_=>none) (λ_=>none) some (λ_=>none) (λ_=>none),λ_=>rfl⟩
noncomputable def fT {a b:Bool} (h:a = b):Fct:=⟨.t a,.t b,congrArg _ h⟩
noncomputable def kH:Kd (Option H):=⟨.h,λb=>b.casesOn (motive:=λ_=>Option (Option H)) (λ_=>none) (λ_=>none) (λ_=>none) (λ_=>none) (λ_=>none) (λ_=>none) some (λ_=>none),λ_=>rfl⟩
noncomputable def fH {a b:Option H} (h:a = b):Fct:=⟨.h a,.h b,congrArg _ h⟩
noncomputable def kP:Kd (Option (List V×V)):=⟨.p,λb=>b.casesOn (motive:=λ_=>Option (Option (List V×V))) (λ_=>none) (λ_=>none) (λ_=>none) (λ_=>none) (λ_=>none) (λ_=>none) (λ_=>none) some,λ_=>rfl⟩
noncomputable def fP {a b:Option (List V×V)} (h:a = b):Fct:=⟨.p a,.p b,congrArg _ h⟩
noncomputable def rq {α:Type} (K:Kd (Option α)) (q:Option α):RM α:=rt K (λq=>q) q (Rof q)
theorem Sound.q {α:Type} (K:Kd (Option α)) (q:Option α):Sound (rq K q) q:=Sound.rt K (Sound.of q)
noncomputable def rT (b:Bool):RM Bool:=rt kT some b (Rpure b)
theorem Sound.t (b:Bool):Sound (rT b) (some b):=Sound.rt kT (Sound.pure b)
noncomputable def rO (σ:H) (i:Nat):RM (Option O):=rt kO some σ[i]? (Rpure σ[i]?)
theorem Sound.o (σ:H) (i:Nat):Sound (rO σ i) (some σ[i]?):=Sound.rt kO (Sound.pure _)
noncomputable def rb {α β:Type} (m:RM (α×H)) (k:α→H→RM β):RM β:=Rbind m λp=>k p.1 p.2
theorem Sound.b2 {α β:Type} {m:RM (α×H)} {o:Option (α×H)} {k:α→H→RM β} {k':α→H→Option β} (h:Sound m o) (hk:∀ x σ,Sound (k x σ) (k' x σ)):Sound (rb m k) (Mine.b2 o k'):=Sound.bind (k:=λp:α×H=>k p.1 p.2) (k':=λp:α×H=>k' p.1 p.2) h λp=>hk p.1 p.2
noncomputable def rV (q:Option V) (σ:H):RM (V×H):=Rbind (rq kV q) λv=>Rpure (v,σ)
theorem Sound.v (q:Option V) (σ:H):Sound (rV q σ) (wS q σ):=Sound.bind (Sound.q kV q) λv=>Sound.pure (v,σ)
noncomputable def rc {β:Type} (b:Bool) (t f:RM β):RM β:=Rbind (rT b) λb=>cond b t f
theorem Sound.cond {β:Type} {b:Bool} {t f:RM β} {t' f':Option β} (h1:Sound t t') (h2:Sound f f'):Sound (rc b t f) (cond b t' f'):=Sound.bind (o:=some b) (k':=λb=>_root_.cond b t' f') (Sound.t b) λb=>match b with
 | true=>h1
 | false=>h2
noncomputable def rg {β:Type} (b:Bool) (m:RM β):RM β:=rc b m (Rof none)
theorem Sound.gd {β:Type} {b:Bool} {m:RM β} {o:Option β} (h:Sound m o):Sound (rg b m) (Mine.gd b o):=Sound.cond h (Sound.of none)
noncomputable def rg0 {β:Type} (b:Bool) (m:RM β):RM β:=cond b m (Rof none)
theorem Sound.gd0 {β:Type} {b:Bool} {m:RM β} {o:Option β} (h:Sound m o):Sound (rg0 b m) (Mine.gd b o):=match b with
 | true=>h
 | false=>Sound.of none
noncomputable def rbT {β:Type} (m:RM (V×H)) (t f:H→RM β):RM β:=rb m λv σ=>Rbind (Rof (oBool v some)) λb=>rc b (t σ) (f σ)
theorem oBool_b1 {β:Type} (v:V) (k:Bool→Option β):oBool v k = b1 (oBool v some) k:=by cases v <;> rfl
theorem oInt_b1 {β:Type} (v:V) (k:Int→Option β):oInt v k = b1 (oInt v some) k:=by cases v <;> rfl
theorem oLst_b1 {β:Type} (v:V) (k:List V→Option β):oLst v k = b1 (oLst v some) k:=by cases v <;> rfl
theorem b1_b1 {α β γ:Type} (o:Option α) (f:α→Option β) (g:β→Option γ):b1 (b1 o f) g = b1 o λx=>b1 (f x) g:=by cases o <;> rfl
theorem gd_some {α β:Type} (o:Option α) (m:Option β):gd o.isSome m = b1 o λ_=>m:=by cases o <;> rfl
theorem Sound.bT {β:Type} {m:RM (V×H)} {o:Option (V×H)} {t f:H→RM β} {t' f':H→Option β} (h:Sound m o) (h1:∀ σ,Sound (t σ) (t' σ)) (h2:∀ σ,Sound (f σ) (f' σ)):Sound (rbT m t f) (Mine.bT o t' f'):=
 Sound.b2 h λv σ=>Sound.eq (oBool_b1 v _) (Sound.bind (Sound.of _) λb=>Sound.cond (h1 σ) (h2 σ))
noncomputable def rdr (σ:H) (v:V):RM V:=if h:v.ctorIdx = 8 then V.ref.elim v h λi=>Rbind (rO σ i) λo=>Rpure (drO v o) else Rpure v
theorem Sound.dr (σ:H) (v:V):Sound (rdr σ v) (some (Mine.dr σ v)):=by
 cases v
 case ref i=>exact Sound.bind (o:=some _) (k':=λo=>some (drO (.ref i) o)) (Sound.o σ i) λo=>Sound.pure _
 all_goals exact Sound.pure _
noncomputable def rdrs (σ:H):List V→RM (List V)
 | []=>Rpure []
 | v :: l=>Rbind (rdr σ v) λv=>Rbind (rdrs σ l) λl=>Rpure (v :: l)
theorem Sound.drs (σ:H):∀ l,Sound (rdrs σ l) (some (l.map (Mine.dr σ)))
 | []=>Sound.pure _
 | v :: l=>Sound.bind (o:=some _) (k':=λv=>some (v :: l.map (Mine.dr σ))) (Sound.dr σ v) λv=>Sound.bind (o:=some _) (k':=λl=>some (v :: l)) (Sound.drs σ l) λl=>Sound.pure _
noncomputable def rcls (σ:H) (v:V) (cl:Nat):RM (List V):=v.casesOn (Rof none) (λ_=>Rof none) (λ_=>Rof none) (λ_=>Rof none) (λ_=>Rof none) (λ_=>Rof none) (λ_ _=>Rof none) (λc l=>Rof (gd (c == cl) (some l))) (λ_=>Rof none)
 (λc i=>rg0 (c == cl) (Rbind (rO σ i) λo=>Rof (recd o λc' l=>gd (c' == cl) (some l))))
theorem Sound.cls (σ:H) (v:V) (cl:Nat):Sound (rcls σ v cl) (clsF σ v cl):=by
 cases v
 case obj c i=>exact Sound.gd0 (Sound.bind (o:=some _) (k':=λo=>recd o λc' l=>Mine.gd (c' == cl) (some l)) (Sound.o σ i) λo=>Sound.of _)
 case ins c l=>exact Sound.of (Mine.gd (c == cl) (some l))
 all_goals exact Sound.of none
noncomputable def rcmp (c:Cp) (x y:V):RM Bool:=match c with
 | .eq=>rq kB (eqOp x y)
 | .ne=>Rbind (rq kB (eqOp x y)) λr=>Rpure (!r)
 | .isIn=>rq kB (isInOp x y)
 | .notIn=>Rbind (rq kB (isInOp x y)) λr=>Rpure (!r)
 | c=>Rof (cmpOp c x y)
theorem Sound.cmp (c:Cp) (x y:V):Sound (rcmp c x y) (cmpOp c x y):=by
 cases c
 case eq=>exact Sound.q _ _
 case isIn=>exact Sound.q _ _
 case ne=>exact Sound.bind (Sound.q _ _) λr=>Sound.pure _
 case notIn=>exact Sound.bind (Sound.q _ _) λr=>Sound.pure _
 all_goals exact Sound.of _
noncomputable def rorB (b:Option (List V)) (σ:H) (k:RM (V×H)):RM (V×H):=b.casesOn k λl=>Rpure (.lst l,σ)
theorem Sound.orB {b:Option (List V)} {σ:H} {k:RM (V×H)} {k':Option (V×H)} (h:Sound k k'):Sound (rorB b σ k) (Mine.orB b σ k'):=match b with
 | none=>h
 | some l=>Sound.pure _
noncomputable def rcall (C:Orc) (f:Nat) (l:List V) (σ:H):RM (V×H):=rq kC (C f l σ)
noncomputable def rloopL (f:V→H→List V→RM (List V×H)):List V→H→List V→RM (List V×H)
 | [],σ,acc=>Rpure (acc,σ)
 | x :: r,σ,acc=>rb (f x σ acc) λacc σ=>rloopL f r σ acc
theorem Sound.loopL {f:V→H→List V→RM (List V×H)} {f':V→H→List V→Option (List V×H)} (h:∀ x σ acc,Sound (f x σ acc) (f' x σ acc)):∀ l σ acc,Sound (rloopL f l σ acc) (Mine.loopL f' l σ acc)
 | [],_,_=>Sound.pure _
 | x :: r,σ,acc=>Sound.b2 (h x σ acc) λacc σ=>Sound.loopL h r σ acc
noncomputable def popL (l:List V):Option (List V×V):=l.casesOn none λx r=>gd (shortL (x :: r)) (b1 (x :: r).getLast? λz=>some ((x :: r).dropLast,z))
noncomputable def popK (is:List Nat) (one:Bool) (q:List V×V) (put:List V→Rho×H):R3:=
 one.casesOn (b1 (b1 (oTup q.2 some) λvs=>setVs (put q.1).1 is vs) λρ=>some (.next,ρ,(put q.1).2)) (o1 is λi=>some (.next,setV (put q.1).1 i q.2,(put q.1).2))
theorem pop_split (is:List Nat) (one:Bool) (l:List V) (put:List V→Rho×H):popS is one l put = b1 (popL l) λq=>popK is one q put:=by
 cases l with
 | nil=>rfl
 | cons x r=>
  show gd _ _ = b1 (gd _ _) _
  cases h:shortL (x :: r)
  · rfl
  · cases h2:(x :: r).getLast? <;> simp only [gd_true,b1_some,b1_none,popK]
noncomputable def rlistAt (ρ:Rho) (σ:H) (i:Nat):RM (List V×(List V→Rho×H)):=(getS ρ i).casesOn (Rof none) λs=>s.casesOn (λv=>Rbind (Rof (oRef v some)) λr=>Rbind (rO σ r) λo=>Rof (olist o λl=>some (l,λl'=>(ρ,σ.set r (.list l'))))) λl=>Rpure (l,λl'=>(setO ρ i l',σ))
theorem Sound.listAt (ρ:Rho) (σ:H) (i:Nat):Sound (rlistAt ρ σ i) (Mine.listAt ρ σ i):=by
 unfold rlistAt Mine.listAt
 cases getS ρ i with
 | none=>exact Sound.of none
 | some s=>
  cases s with
  | own l=>exact Sound.pure _
  | v v=>exact Sound.eq (by cases v <;> rfl) (Sound.bind (k':=λr=>olist σ[r]? λl=>some (l,λl'=>(ρ,σ.set r (.list l')))) (Sound.of (oRef v some)) λr=>Sound.bind (o:=some _) (k':=λo=>olist o λl=>some (l,λl'=>(ρ,σ.set r (.list l')))) (Sound.o σ r) λo=>Sound.of _)
noncomputable def radd (p:List V×(List V→Rho×H)) (ys:List V):RM (Fl×Rho×H):=rg (shortL p.1 && shortL ys) (Rpure (.next,(p.2 (p.1 ++ ys)).1,(p.2 (p.1 ++ ys)).2))
theorem Sound.add {m:RM (List V×(List V→Rho×H))} {o:Option (List V×(List V→Rho×H))} (h:Sound m o) (ys:List V):Sound (Rbind m λp=>radd p ys) (addS o ys):=Sound.bind h λp=>Sound.gd (Sound.pure _)
noncomputable def rb3 (m:RM (Fl×Rho×H)) (k:Rho→H→RM (Fl×Rho×H)):RM (Fl×Rho×H):=Rbind m λp=>p.1.casesOn (k p.2.1 p.2.2) λv=>Rpure (.ret v,p.2)
theorem Sound.b3 {m:RM (Fl×Rho×H)} {o:R3} {k:Rho→H→RM (Fl×Rho×H)} {k':Rho→H→R3} (h:Sound m o) (hk:∀ ρ σ,Sound (k ρ σ) (k' ρ σ)):Sound (rb3 m k) (Mine.b3 o k'):=
 Sound.bind (k:=λp:Fl×Rho×H=>p.1.casesOn (k p.2.1 p.2.2) λv=>Rpure (.ret v,p.2)) (k':=λp:Fl×Rho×H=>p.1.casesOn (k' p.2.1 p.2.2) λv=>some (.ret v,p.2)) h λ(f,ρ,σ)=>match f with
 | .next=>hk ρ σ
 | .ret v=>Sound.pure _
noncomputable def rloopS (f:V→Rho→H→RM (Fl×Rho×H)):List V→Rho→H→RM (Fl×Rho×H)
 | [],ρ,σ=>Rpure (.next,ρ,σ)
 | x :: r,ρ,σ=>rb3 (f x ρ σ) (rloopS f r)
theorem Sound.loopS {f:V→Rho→H→RM (Fl×Rho×H)} {f':V→Rho→H→R3} (h:∀ x ρ σ,Sound (f x ρ σ) (f' x ρ σ)):∀ l ρ σ,Sound (rloopS f l ρ σ) (Mine.loopS f' l ρ σ)
 | [],_,_=>Sound.pure _
 | x :: r,ρ,σ=>Sound.b3 (h x ρ σ) (Sound.loopS h r)
noncomputable def rloopW (t:Rho→H→RM (V×H)) (b:Rho→H→RM (Fl×Rho×H)):Nat→Rho→H→RM (Fl×Rho×H)
 | 0,_,_=>Rof none
 | n + 1,ρ,σ=>rbT (t ρ σ) (λσ=>rb3 (b ρ σ) (rloopW t b n)) λσ=>Rpure (.next,ρ,σ)
theorem Sound.loopW {t:Rho→H→RM (V×H)} {t':Rho→H→Option (V×H)} {b:Rho→H→RM (Fl×Rho×H)} {b':Rho→H→R3} (ht:∀ ρ σ,Sound (t ρ σ) (t' ρ σ)) (hb:∀ ρ σ,Sound (b ρ σ) (b' ρ σ)):∀ n ρ σ,Sound (rloopW t b n ρ σ) (Mine.loopW t' b' n ρ σ)
 | 0,_,_=>Sound.of none
 | n + 1,ρ,σ=>Sound.bT (ht ρ σ) (λσ=>Sound.b3 (hb ρ σ) (Sound.loopW ht hb n)) λσ=>Sound.pure _
theorem s1 {α β:Type} {m:RM α} {x:α} {k:α→RM β} {k':α→Option β} (h:Sound m (some x)) (hk:∀ x,Sound (k x) (k' x)):Sound (Rbind m k) (k' x):=Sound.bind (k':=k') h hk
theorem sIf {β:Type} {p:Prop} [Decidable p] {t f:RM β} {t' f':Option β} (h1:Sound t t') (h2:Sound f f'):Sound (if p then t else f) (if p then t' else f'):=by
 by_cases h:p
 · rw [if_pos h,if_pos h]; exact h1
 · rw [if_neg h,if_neg h]; exact h2
theorem sCond {β:Type} (b:Bool) {t f:RM β} {t' f':Option β} (h1:Sound t t') (h2:Sound f f'):Sound (cond b t f) (cond b t' f'):=match b with
 | true=>h1
 | false=>h2
theorem get_ws (D kv xv:V) (σ:H):(oDct D λks vs=>oStr kv λs=>some ((lk ks vs s).getD xv,σ)) = wS (oDct D λks vs=>oStr kv λs=>some ((lk ks vs s).getD xv)) σ:=by
 cases D <;> first | rfl | (cases kv <;> rfl)
theorem seta_b1 {β:Type} (o:Option Slot) (k:Nat→Nat→Option β):(gV o λv=>oObj v k) = b1 (gV o λv=>oObj v λc i=>some (c,i)) λq=>k q.1 q.2:=by
 cases o with
 | none=>rfl
 | some s=>cases s with
  | own l=>rfl
  | v v=>cases v <;> rfl
mutual
noncomputable def rE (C:Orc):E→Rho→H→RM (V×H)
 | .bad,_,_=>Rof none
 | .cst v,_,σ=>Rpure (v,σ)
 | .neg i,_,σ=>Rpure (.int i,σ)
 | .pow a b,_,σ=>Rpure (.int ((a:Int) ^ b),σ)
 | .var i,ρ,σ=>Rof (gV (getS ρ i) λx=>some (x,σ))
 | .glo _ v,_,σ=>Rpure (v,σ)
 | .tup es,ρ,σ=>rb (rEs C es ρ σ) λl σ=>Rpure (.tup l,σ)
 | .lst es,ρ,σ=>rb (rEs C es ρ σ) λl σ=>Rpure (.lst l,σ)
 | .dct es,ρ,σ=>rb (rEs C es ρ σ) λl σ=>Rof (b1 (pairUp l) λp=>gd (decide p.1.Nodup) (some (.dct p.1 p.2,σ)))
 | .shr e,ρ,σ=>rb (rE C e ρ σ) λv σ=>Rof (allocs v σ)
 | .bin op a b,ρ,σ=>rb (rorB (brw ρ a) σ (rE C a ρ σ)) λx σ=>rb (rorB (brw ρ b) σ (rE C b ρ σ)) λy σ=>Rbind (rdr σ x) λx=>Rbind (rdr σ y) λy=>rV (binOp op x y) σ
 | .cmp c a b,ρ,σ=>rb (rorB (brw ρ a) σ (rE C a ρ σ)) λx σ=>rb (rorB (brw ρ b) σ (rE C b ρ σ)) λy σ=>Rbind (rdr σ x) λx=>Rbind (rdr σ y) λy=>Rbind (rcmp c x y) λr=>Rpure (.bool r,σ)
 | .isN yes a,ρ,σ=>rb (rE C a ρ σ) λx σ=>Rpure (.bool (cond (decide (x.ctorIdx = 0)) yes !yes),σ)
 | .conj es,ρ,σ=>rAnd C es ρ σ
 | .disj es,ρ,σ=>rOr C es ρ σ
 | .not a,ρ,σ=>rb (rE C a ρ σ) λx σ=>Rof (oBool x λb=>some (.bool (!b),σ))
 | .ife t a b,ρ,σ=>rbT (rE C t ρ σ) (rE C a ρ) (rE C b ρ)
 | .idx a i,ρ,σ=>rb (rorB (brw ρ a) σ (rE C a ρ σ)) λx σ=>rb (rE C i ρ σ) λy σ=>Rbind (rdr σ x) λx=>rV (idxOp x y) σ
 | .slc k a n,ρ,σ=>rb (rorB (brw ρ a) σ (rE C a ρ σ)) λx σ=>if k.ctorIdx = 3 then rb (rE C n ρ σ) λy σ=>Rbind (rdr σ x) λx=>rV (slcOp k x y) σ else Rbind (rdr σ x) λx=>rV (slcOp k x .none) σ
 | .attr a cl k _,ρ,σ=>rb (rE C a ρ σ) λx σ=>Rbind (rcls σ x cl) λl=>Rof (wS l[k]? σ)
 | .callF f es,ρ,σ=>rb (rEs C es ρ σ) (rcall C f)
 | .callM f cl a es,ρ,σ=>rb (rE C a ρ σ) λx σ=>Rbind (rcls σ x cl) λ_=>rb (rEs C es ρ σ) λl σ=>rcall C f (x :: l) σ
 | .bi b es,ρ,σ=>rb (rXs C es ρ σ) λl σ=>Rbind (rdrs σ l) λl=>rV (biOp b l) σ
 | .sortK f a,ρ,σ=>Rof (evE C (.sortK f a) ρ σ)
 | .get2 d k x,ρ,σ=>rb (rE C d ρ σ) λdv σ=>Rbind (rdr σ dv) λD=>rg0 (isDct D) (rb (rE C k ρ σ) λkv σ=>rb (rE C x ρ σ) λxv σ=>Rbind (rdr σ dv) λD=>rV (oDct D λks vs=>oStr kv λs=>some ((lk ks vs s).getD xv)) σ)
 | .join s a,ρ,σ=>Rof (evE C (.join s a) ρ σ)
 | .split a s,ρ,σ=>Rof (evE C (.split a s) ρ σ)
 | .comp elt gs,ρ,σ=>rt kC (λq=>q) (evE C (.comp elt gs) ρ σ) (rg0 (freeGs (noOwn ρ) gs) (rb (rG C (λρ σ=>rE C elt ρ σ) gs (noOwn ρ) σ []) λl σ=>Rpure (.lst l,σ)))
noncomputable def rXs (C:Orc):List E→Rho→H→RM (List V×H)
 | [],_,σ=>Rpure ([],σ)
 | e :: es,ρ,σ=>rb (rorB (brw ρ e) σ (rE C e ρ σ)) λx σ=>rb (rXs C es ρ σ) λl σ=>Rpure (x :: l,σ)
noncomputable def rEs (C:Orc):List E→Rho→H→RM (List V×H)
 | [],_,σ=>Rpure ([],σ)
 | e :: es,ρ,σ=>rb (rE C e ρ σ) λx σ=>rb (rEs C es ρ σ) λl σ=>Rpure (x :: l,σ)
noncomputable def rAnd (C:Orc):List E→Rho→H→RM (V×H)
 | [],_,_=>Rof none
 | e :: es,ρ,σ=>cond es.isEmpty (rE C e ρ σ) (rbT (rE C e ρ σ) (rAnd C es ρ) λσ=>Rpure (.bool false,σ))
noncomputable def rOr (C:Orc):List E→Rho→H→RM (V×H)
 | [],_,_=>Rof none
 | e :: es,ρ,σ=>cond es.isEmpty (rE C e ρ σ) (rbT (rE C e ρ σ) (λσ=>Rpure (.bool true,σ)) (rOr C es ρ))
noncomputable def rI (C:Orc):It→Rho→H→RM (List V×H)
 | .range a,ρ,σ=>rb (rE C a ρ σ) λx σ=>Rbind (Rof (oInt x some)) λn=>rg (decide (0 ≤ n) && decide (n < 4000)) (Rpure (upTo n.toNat,σ))
 | .zip a b,ρ,σ=>rb (rE C a ρ σ) λx σ=>rb (rE C b ρ σ) λy σ=>Rof (b1 (items x) λl=>b1 (items y) λm=>some (zipV l m,σ))
 | .plain e,ρ,σ=>rb (rE C e ρ σ) λx σ=>Rof (wS (items x) σ)
noncomputable def rIfs (C:Orc):List E→Rho→H→RM (Bool×H)
 | [],_,σ=>Rpure (true,σ)
 | e :: es,ρ,σ=>rbT (rE C e ρ σ) (rIfs C es ρ) λσ=>Rpure (false,σ)
noncomputable def rG (C:Orc) (fe:Rho→H→RM (V×H)):List G→Rho→H→List V→RM (List V×H)
 | [],ρ,σ,acc=>rb (fe ρ σ) λx σ=>rg0 (shortL acc) (Rpure (acc ++ [x],σ))
 | g :: gs,ρ,σ,acc=>rG1 C (λρ σ acc=>rG C fe gs ρ σ acc) g ρ σ acc
noncomputable def rG1 (C:Orc) (k:Rho→H→List V→RM (List V×H)):G→Rho→H→List V→RM (List V×H)
 | .mk t it ifs,ρ,σ,acc=>rg0 (freeT ρ t) (rb (rI C it ρ σ) λl σ=>rloopL (λx σ acc=>Rbind (Rof (bindT t ρ x)) λρ'=>rb (rIfs C ifs ρ' σ) λb σ=>rc b (k ρ' σ acc) (Rpure (acc,σ))) l σ acc)
end
mutual
noncomputable def rS (C:Orc) (N:Nat):S→Rho→H→RM (Fl×Rho×H)
 | .bad,_,_=>Rof none
 | .asg i e,ρ,σ=>rb (rE C e ρ σ) λx σ=>Rpure (.next,setV ρ i x,σ)
 | .own i e,ρ,σ=>rb (rE C e ρ σ) λx σ=>Rof (oLst x λl=>some (.next,setO ρ i l,σ))
 | .un is e,ρ,σ=>rb (rE C e ρ σ) λx σ=>Rof (oTup x λl=>go3 (setVs ρ is l) σ)
 | .un2 i j oi oj a b,ρ,σ=>rb (rE C a ρ σ) λx σ=>rb (rE C b ρ σ) λy σ=>Rof (b1 (setTo ρ i oi x) λρ=>go3 (setTo ρ j oj y) σ)
 | .pop is one l,ρ,σ=>Rbind (rlistAt ρ σ l) λp=>Rbind (rq kP (popL p.1)) λq=>Rof (popK is one q p.2)
 | .app l e,ρ,σ=>Rbind (rlistAt ρ σ l) λ_=>rb (rE C e ρ σ) λx σ=>Rbind (rlistAt ρ σ l) λp=>radd p [x]
 | .ext l e,ρ,σ=>Rbind (rlistAt ρ σ l) λ_=>rb (rE C e ρ σ) λx σ=>Rbind (Rof (oLst x some)) λys=>Rbind (rlistAt ρ σ l) λp=>radd p ys
 | .seta o cl k _ e,ρ,σ=>rb (rE C e ρ σ) λx σ=>Rbind (Rof (gV (getS ρ o) λv=>oObj v λc i=>some (c,i))) λq=>Rbind (rO σ q.2) λob=>Rof (recd ob λc l=>gd ((q.1 == cl && c == cl) && decide (k < l.length)) (some (.next,ρ,σ.set q.2 (.recd c (l.set k x)))))
 | .seti d k e,ρ,σ=>rb (rE C e ρ σ) λx σ=>rb (rE C d ρ σ) λdv σ=>rb (rE C k ρ σ) λkv σ=>Rbind (rq kH (stored σ dv kv x)) λσ=>Rpure (.next,ρ,σ)
 | .expr e,ρ,σ=>rb (rE C e ρ σ) λx σ=>Rof (gd (decide (x.ctorIdx = 0)) (some (.next,ρ,σ)))
 | .ite t a b,ρ,σ=>rbT (rE C t ρ σ) (rSs C N a ρ) (rSs C N b ρ)
 | .whl t b,ρ,σ=>rt kS (λq=>q) (evS C N (.whl t b) ρ σ) (rloopW (rE C t) (rSs C N b) N ρ σ)
 | .fr t it b,ρ,σ=>rt kS (λq=>q) (evS C N (.fr t it b) ρ σ) (rb (rI C it ρ σ) λl σ=>rloopS (λx ρ σ=>Rbind (Rof (bindT t ρ x)) λρ=>rSs C N b ρ σ) l ρ σ)
 | .ret e,ρ,σ=>rb (rE C e ρ σ) λx σ=>Rpure (.ret x,ρ,σ)
 | .retO i,ρ,σ=>Rof (gO (getS ρ i) λl=>some (.ret (.lst l),ρ,σ))
noncomputable def rSs (C:Orc) (N:Nat):List S→Rho→H→RM (Fl×Rho×H)
 | [],ρ,σ=>Rpure (.next,ρ,σ)
 | s :: ss,ρ,σ=>rb3 (rS C N s ρ σ) (rSs C N ss)
end
variable {C:Orc} {N:Nat}
mutual
theorem sE:∀ (e:E) (ρ:Rho) (σ:H),Sound (rE C e ρ σ) (evE C e ρ σ)
 | .bad,_,_=>Sound.of none
 | .cst v,_,σ=>Sound.pure _
 | .neg i,_,σ=>Sound.pure _
 | .pow a b,_,σ=>Sound.pure _
 | .var i,ρ,σ=>Sound.of _
 | .glo _ v,_,σ=>Sound.pure _
 | .tup es,ρ,σ=>Sound.b2 (sEs es ρ σ) λl σ=>Sound.pure _
 | .lst es,ρ,σ=>Sound.b2 (sEs es ρ σ) λl σ=>Sound.pure _
 | .dct es,ρ,σ=>Sound.b2 (sEs es ρ σ) λl σ=>Sound.of _
 | .shr e,ρ,σ=>Sound.b2 (sE e ρ σ) λv σ=>Sound.of _
 | .bin op a b,ρ,σ=>Sound.b2 (Sound.orB (sE a ρ σ)) λx σ=>Sound.b2 (Sound.orB (sE b ρ σ)) λy σ=>s1 (Sound.dr σ x) λx=>s1 (Sound.dr σ y) λy=>Sound.v _ _
 | .cmp c a b,ρ,σ=>Sound.b2 (Sound.orB (sE a ρ σ)) λx σ=>Sound.b2 (Sound.orB (sE b ρ σ)) λy σ=>s1 (Sound.dr σ x) λx=>s1 (Sound.dr σ y) λy=>Sound.bind (Sound.cmp c _ _) λr=>Sound.pure _
 | .isN yes a,ρ,σ=>Sound.b2 (sE a ρ σ) λx σ=>Sound.pure _
 | .conj es,ρ,σ=>sAnd es ρ σ
 | .disj es,ρ,σ=>sOr es ρ σ
 | .not a,ρ,σ=>Sound.b2 (sE a ρ σ) λx σ=>Sound.of _
 | .ife t a b,ρ,σ=>Sound.bT (sE t ρ σ) (sE a ρ) (sE b ρ)
 | .idx a i,ρ,σ=>Sound.b2 (Sound.orB (sE a ρ σ)) λx σ=>Sound.b2 (sE i ρ σ) λy σ=>s1 (Sound.dr σ x) λx=>Sound.v _ _
 | .slc k a n,ρ,σ=>Sound.b2 (Sound.orB (sE a ρ σ)) λx σ=>sIf (Sound.b2 (sE n ρ σ) λy σ=>s1 (Sound.dr σ x) λx=>Sound.v _ _) (s1 (Sound.dr σ x) λx=>Sound.v _ _)
 | .attr a cl k _,ρ,σ=>Sound.b2 (sE a ρ σ) λx σ=>Sound.eq (b1_b1 _ _ _) (Sound.bind (Sound.cls σ x cl) λl=>Sound.of _)
 | .callF f es,ρ,σ=>Sound.b2 (sEs es ρ σ) λl σ=>Sound.q _ _
 | .callM f cl a es,ρ,σ=>Sound.b2 (sE a ρ σ) λx σ=>Sound.eq (gd_some _ _) (Sound.bind (Sound.cls σ x cl) λ_=>Sound.b2 (sEs es ρ σ) λl σ=>Sound.q _ _)
 | .bi b es,ρ,σ=>Sound.b2 (sXs es ρ σ) λl σ=>s1 (Sound.drs σ l) λl=>Sound.v _ _
 | .sortK f a,ρ,σ=>Sound.of _
 | .get2 d k x,ρ,σ=>Sound.b2 (sE d ρ σ) λdv σ=>s1 (m:=rdr σ dv) (Sound.dr σ dv) λD=>Sound.gd0 (Sound.b2 (sE k ρ σ) λkv σ=>Sound.b2 (sE x ρ σ) λxv σ=>s1 (Sound.dr σ dv) λD=>Sound.eq (get_ws D kv xv σ) (Sound.v _ _))
 | .join s a,ρ,σ=>Sound.of _
 | .split a s,ρ,σ=>Sound.of _
 | .comp elt gs,ρ,σ=>Sound.rt kC (Sound.gd0 (Sound.b2 (sG (λρ σ=>sE elt ρ σ) gs (noOwn ρ) σ []) λl σ=>Sound.pure _))
theorem sXs:∀ (es:List E) (ρ:Rho) (σ:H),Sound (rXs C es ρ σ) (evXs C es ρ σ)
 | [],_,σ=>Sound.pure _
 | e :: es,ρ,σ=>Sound.b2 (Sound.orB (sE e ρ σ)) λx σ=>Sound.b2 (sXs es ρ σ) λl σ=>Sound.pure _
theorem sEs:∀ (es:List E) (ρ:Rho) (σ:H),Sound (rEs C es ρ σ) (evEs C es ρ σ)
 | [],_,σ=>Sound.pure _
 | e :: es,ρ,σ=>Sound.b2 (sE e ρ σ) λx σ=>Sound.b2 (sEs es ρ σ) λl σ=>Sound.pure _
theorem sAnd:∀ (es:List E) (ρ:Rho) (σ:H),Sound (rAnd C es ρ σ) (evAnd C es ρ σ)
 | [],_,_=>Sound.of none
 | e :: es,ρ,σ=>sCond es.isEmpty (sE e ρ σ) (Sound.bT (sE e ρ σ) (sAnd es ρ) λσ=>Sound.pure _)
theorem sOr:∀ (es:List E) (ρ:Rho) (σ:H),Sound (rOr C es ρ σ) (evOr C es ρ σ)
 | [],_,_=>Sound.of none
 | e :: es,ρ,σ=>sCond es.isEmpty (sE e ρ σ) (Sound.bT (sE e ρ σ) (λσ=>Sound.pure _) (sOr es ρ))
theorem sI:∀ (it:It) (ρ:Rho) (σ:H),Sound (rI C it ρ σ) (evI C it ρ σ)
 | .range a,ρ,σ=>show Sound (rb (rE C a ρ σ) λx σ=>Rbind (Rof (oInt x some)) λn=>rg (decide (0 ≤ n) && decide (n < 4000)) (Rpure (upTo n.toNat,σ))) (Mine.b2 (evE C a ρ σ) λx σ=>oInt x λn=>Mine.gd (decide (0 ≤ n) && decide (n < 4000)) (some (upTo n.toNat,σ))) from Sound.b2 (sE a ρ σ) λx σ=>Sound.eq (oInt_b1 x _) (Sound.bind (Sound.of _) λn=>Sound.gd (Sound.pure _))
 | .zip a b,ρ,σ=>show Sound (rb (rE C a ρ σ) λx σ=>rb (rE C b ρ σ) λy σ=>Rof (b1 (items x) λl=>b1 (items y) λm=>some (zipV l m,σ))) (Mine.b2 (evE C a ρ σ) λx σ=>Mine.b2 (evE C b ρ σ) λy σ=>b1 (items x) λl=>b1 (items y) λm=>some (zipV l m,σ)) from Sound.b2 (sE a ρ σ) λx σ=>Sound.b2 (sE b ρ σ) λy σ=>Sound.of _
 | .plain e,ρ,σ=>show Sound (rb (rE C e ρ σ) λx σ=>Rof (wS (items x) σ)) (Mine.b2 (evE C e ρ σ) λx σ=>wS (items x) σ) from Sound.b2 (sE e ρ σ) λx σ=>Sound.of _
theorem sIfs:∀ (es:List E) (ρ:Rho) (σ:H),Sound (rIfs C es ρ σ) (evIfs C es ρ σ)
 | [],_,σ=>Sound.pure _
 | e :: es,ρ,σ=>Sound.bT (sE e ρ σ) (sIfs es ρ) λσ=>Sound.pure _
theorem sG {fe:Rho→H→RM (V×H)} {fe':Rho→H→Option (V×H)} (h:∀ ρ σ,Sound (fe ρ σ) (fe' ρ σ)):∀ (gs:List G) (ρ:Rho) (σ:H) (acc:List V),Sound (rG C fe gs ρ σ acc) (evG C fe' gs ρ σ acc)
 | [],ρ,σ,acc=>Sound.b2 (h ρ σ) λx σ=>Sound.gd0 (Sound.pure _)
 | g :: gs,ρ,σ,acc=>sG1 (λρ σ acc=>sG h gs ρ σ acc) g ρ σ acc
theorem sG1 {k:Rho→H→List V→RM (List V×H)} {k':Rho→H→List V→Option (List V×H)} (h:∀ ρ σ acc,Sound (k ρ σ acc) (k' ρ σ acc)):∀ (g:G) (ρ:Rho) (σ:H) (acc:List V),Sound (rG1 C k g ρ σ acc) (evG1 C k' g ρ σ acc)
 | .mk t it ifs,ρ,σ,acc=>Sound.gd0 (Sound.b2 (sI it ρ σ) λl σ=>Sound.loopL (λx σ acc=>Sound.bind (Sound.of _) λρ'=>Sound.b2 (sIfs ifs ρ' σ) λb σ=>Sound.cond (h ρ' σ acc) (Sound.pure _)) l σ acc)
end
mutual
theorem sS:∀ (s:S) (ρ:Rho) (σ:H),Sound (rS C N s ρ σ) (evS C N s ρ σ)
 | .bad,_,_=>Sound.of none
 | .asg i e,ρ,σ=>show Sound (rb (rE C e ρ σ) λx σ=>Rpure (Fl.next,setV ρ i x,σ)) (Mine.b2 (evE C e ρ σ) λx σ=>some (Fl.next,setV ρ i x,σ)) from Sound.b2 (sE e ρ σ) λx σ=>Sound.pure _
 | .own i e,ρ,σ=>show Sound (rb (rE C e ρ σ) λx σ=>Rof (oLst x λl=>some (Fl.next,setO ρ i l,σ))) (Mine.b2 (evE C e ρ σ) λx σ=>oLst x λl=>some (Fl.next,setO ρ i l,σ)) from Sound.b2 (sE e ρ σ) λx σ=>Sound.of _
 | .un is e,ρ,σ=>show Sound (rb (rE C e ρ σ) λx σ=>Rof (oTup x λl=>go3 (setVs ρ is l) σ)) (Mine.b2 (evE C e ρ σ) λx σ=>oTup x λl=>go3 (setVs ρ is l) σ) from Sound.b2 (sE e ρ σ) λx σ=>Sound.of _
 | .un2 i j oi oj a b,ρ,σ=>show Sound (rb (rE C a ρ σ) λx σ=>rb (rE C b ρ σ) λy σ=>Rof (b1 (setTo ρ i oi x) λρ=>go3 (setTo ρ j oj y) σ)) (Mine.b2 (evE C a ρ σ) λx σ=>Mine.b2 (evE C b ρ σ) λy σ=>b1 (setTo ρ i oi x) λρ=>go3 (setTo ρ j oj y) σ) from Sound.b2 (sE a ρ σ) λx σ=>Sound.b2 (sE b ρ σ) λy σ=>Sound.of _
 | .pop is one l,ρ,σ=>Sound.bind (Sound.listAt ρ σ l) λp=>Sound.eq (pop_split is one p.1 p.2) (Sound.bind (Sound.q _ _) λq=>Sound.of _)
 | .app l e,ρ,σ=>Sound.eq (gd_some _ _) (Sound.bind (Sound.listAt ρ σ l) λ_=>Sound.b2 (sE e ρ σ) λx σ=>Sound.add (Sound.listAt ρ σ l) [x])
 | .ext l e,ρ,σ=>Sound.eq (gd_some _ _) (Sound.bind (Sound.listAt ρ σ l) λ_=>Sound.b2 (sE e ρ σ) λx σ=>Sound.eq (oLst_b1 x _) (Sound.bind (Sound.of _) λys=>Sound.add (Sound.listAt ρ σ l) ys))
 | .seta o cl k _ e,ρ,σ=>show Sound (rb (rE C e ρ σ) λx σ=>Rbind (Rof (gV (getS ρ o) λv=>oObj v λc i=>some (c,i))) λq=>Rbind (rO σ q.2) λob=>Rof (recd ob λc l=>gd ((q.1 == cl && c == cl) && decide (k < l.length)) (some (Fl.next,ρ,σ.set q.2 (.recd c (l.set k x)))))) (Mine.b2 (evE C e ρ σ) λx σ=>gV (getS ρ o) λv=>oObj v λc0 i=>recd σ[i]? λc l=>Mine.gd ((c0 == cl && c == cl) && decide (k < l.length)) (some (Fl.next,ρ,σ.set i (.recd c (l.set k x))))) from Sound.b2 (sE e ρ σ) λx σ=>Sound.eq (seta_b1 _ _) (Sound.bind (Sound.of _) λq=>Sound.bind (o:=some _) (k':=λob=>recd ob λc l=>gd ((q.1 == cl && c == cl) && decide (k < l.length)) (some (Fl.next,ρ,σ.set q.2 (.recd c (l.set k x))))) (Sound.o σ q.2) λob=>Sound.of _)
 | .seti d k e,ρ,σ=>show Sound (rb (rE C e ρ σ) λx σ=>rb (rE C d ρ σ) λdv σ=>rb (rE C k ρ σ) λkv σ=>Rbind (rq kH (stored σ dv kv x)) λσ=>Rpure (Fl.next,ρ,σ)) (Mine.b2 (evE C e ρ σ) λx σ=>Mine.b2 (evE C d ρ σ) λdv σ=>Mine.b2 (evE C k ρ σ) λkv σ=>b1 (stored σ dv kv x) λσ=>some (Fl.next,ρ,σ)) from Sound.b2 (sE e ρ σ) λx σ=>Sound.b2 (sE d ρ σ) λdv σ=>Sound.b2 (sE k ρ σ) λkv σ=>Sound.bind (Sound.q _ _) λσ=>Sound.pure _
 | .expr e,ρ,σ=>show Sound (rb (rE C e ρ σ) λx σ=>Rof (gd (decide (x.ctorIdx = 0)) (some (Fl.next,ρ,σ)))) (Mine.b2 (evE C e ρ σ) λx σ=>Mine.gd (decide (x.ctorIdx = 0)) (some (Fl.next,ρ,σ))) from Sound.b2 (sE e ρ σ) λx σ=>Sound.of _
 | .ite t a b,ρ,σ=>Sound.bT (sE t ρ σ) (sSs a ρ) (sSs b ρ)
 | .whl t b,ρ,σ=>Sound.rt kS (Sound.loopW (sE t) (sSs b) N ρ σ)
 | .fr t it b,ρ,σ=>Sound.rt kS (Sound.b2 (sI it ρ σ) λl σ=>Sound.loopS (λx ρ σ=>Sound.bind (Sound.of _) λρ=>sSs b ρ σ) l ρ σ)
 | .ret e,ρ,σ=>show Sound (rb (rE C e ρ σ) λx σ=>Rpure (Fl.ret x,ρ,σ)) (Mine.b2 (evE C e ρ σ) λx σ=>some (Fl.ret x,ρ,σ)) from Sound.b2 (sE e ρ σ) λx σ=>Sound.pure _
 | .retO i,ρ,σ=>Sound.of _
theorem sSs:∀ (ss:List S) (ρ:Rho) (σ:H),Sound (rSs C N ss ρ σ) (evSs C N ss ρ σ)
 | [],ρ,σ=>Sound.pure _
 | s :: ss,ρ,σ=>Sound.b3 (sS s ρ σ) (sSs ss)
end
noncomputable def rD (C:Orc) (N:Nat) (d:D) (args:List V) (σ:H):RM (V×H):=match d with
 | .fn np ns dfl body=>Rbind (Rof (argsIn np dfl args)) λas=>Rbind (rSs C N body (rho0 as ns) σ) λp=>Rpure (retV p.1,p.2.2)
 | .cls c np ns dfl sets frozen=>Rof (evD C N (.cls c np ns dfl sets frozen) args σ)
theorem sD (d:D) (args:List V) (σ:H):Sound (rD C N d args σ) (evD C N d args σ):=match d with
 | .fn np ns dfl body=>show Sound (Rbind (Rof (argsIn np dfl args)) λas=>Rbind (rSs C N body (rho0 as ns) σ) λp=>Rpure (retV p.1,p.2.2)) (b1 (argsIn np dfl args) λas=>b1 (evSs C N body (rho0 as ns) σ) λp=>some (retV p.1,p.2.2)) from Sound.bind (Sound.of _) λas=>Sound.bind (sSs body _ σ) λp=>Sound.pure _
 | .cls c np ns dfl sets frozen=>Sound.of _
noncomputable def rC (d f:Nat) (args:List V) (σ:H):RM (V×H):=Rbind (Rof (P f)) λdf=>rD (evCall P 8000 d) 8000 df args σ
theorem sC (d f:Nat) (args:List V) (σ:H):Sound (rC d f args σ) (evCall P 8000 (d + 1) f args σ):=Sound.bind (Sound.of (P f)) λdf=>sD df args σ
abbrev OkR {α:Type} (m:RM α) (as:As) (x:α):Prop:=m as = some (x,.e,as.log)
theorem rn {d f:Nat} {args:List V} {σ:H} {x:V×H} (as:As) (h:OkR (rC d f args σ) as x):evCall P 8000 (d + 1) f args σ = some x:=(sC d f args σ).run as x h
theorem rnSs {C:Orc} {N:Nat} {ss:List S} {ρ:Rho} {σ:H} {x:Fl×Rho×H} (as:As) (h:OkR (rSs C N ss ρ σ) as x):evSs C N ss ρ σ = some x:=(sSs ss ρ σ).run as x h
theorem rnS {C:Orc} {N:Nat} {s:S} {ρ:Rho} {σ:H} {x:Fl×Rho×H} (as:As) (h:OkR (rS C N s ρ σ) as x):evS C N s ρ σ = some x:=(sS s ρ σ).run as x h
theorem rnE {C:Orc} {e:E} {ρ:Rho} {σ:H} {x:V×H} (as:As) (h:OkR (rE C e ρ σ) as x):evE C e ρ σ = some x:=(sE e ρ σ).run as x h
theorem rnI {C:Orc} {e:It} {ρ:Rho} {σ:H} {x:List V×H} (as:As) (h:OkR (rI C e ρ σ) as x):evI C e ρ σ = some x:=(sI e ρ σ).run as x h
theorem rnIfs {C:Orc} {es:List E} {ρ:Rho} {σ:H} {x:Bool×H} (as:As) (h:OkR (rIfs C es ρ σ) as x):evIfs C es ρ σ = some x:=(sIfs es ρ σ).run as x h
end
inductive At where
 | i64 | bo | st | ai | an | sa | ti | tb
 | int | real | any | n1
 | v0 | ar0 | us0 | ua0 | ui0 | tv0
 | v1 | ar1 | us1 | ua1 | ui1 | tv1
 | v2 | ar2 | us2 | ua2 | ui2 | tv2
deriving DecidableEq,Inhabited
noncomputable def nmL (x:Str):List V:=[.str "name",.str x,.tup []]
noncomputable abbrev nmV (x:Str):V:=.tup (nmL x)
noncomputable def arL (x:V):List V:=[.str "name",.str "Array",.tup [x,.tup [.str "n",.int 1]]]
noncomputable abbrev arV (x:V):V:=.tup (arL x)
noncomputable def vrL (x:Str):List V:=[.str "var",.str x]
noncomputable abbrev varV (x:Str):V:=.tup (vrL x)
noncomputable def tuL (x:V):List V:=[.str "tuple",.tup [x],.none]
noncomputable def unL (x y:V):List V:=[.str "union",.tup [x,y]]
noncomputable def key:Nat→Str
 | 0=>"T.8"
 | 1=>"T.8!1"
 | 2=>"T.8!2"
 | _=>"?"
noncomputable def mbL (x:Str):Nat→List V
 | 0=>vrL x
 | 1=>arL (varV x)
 | 2=>unL (nmV "String") (varV x)
 | 3=>unL (arV (varV x)) (varV x)
 | 4=>unL (nmV "Integer") (.tup (tuL (varV x)))
 | _=>tuL (varV x)
noncomputable def tl:At→List V
 | .i64=>nmL "Int64" | .bo=>nmL "Bool" | .st=>nmL "String"
 | .ai=>arL (nmV "Int64") | .an=>arL (nmV "Integer") | .sa=>arL (nmV "String")
 | .ti=>tuL (nmV "Int64") | .tb=>tuL (nmV "Bool")
 | .int=>nmL "Integer" | .real=>nmL "Real" | .any=>nmL "Any" | .n1=>[.str "n",.int 1]
 | .v0=>mbL "T.8" 0 | .ar0=>mbL "T.8" 1 | .us0=>mbL "T.8" 2 | .ua0=>mbL "T.8" 3 | .ui0=>mbL "T.8" 4 | .tv0=>mbL "T.8" 5
 | .v1=>mbL "T.8!1" 0 | .ar1=>mbL "T.8!1" 1 | .us1=>mbL "T.8!1" 2 | .ua1=>mbL "T.8!1" 3 | .ui1=>mbL "T.8!1" 4 | .tv1=>mbL "T.8!1" 5
 | .v2=>mbL "T.8!2" 0 | .ar2=>mbL "T.8!2" 1 | .us2=>mbL "T.8!2" 2 | .ua2=>mbL "T.8!2" 3 | .ui2=>mbL "T.8!2" 4 | .tv2=>mbL "T.8!2" 5
noncomputable def enc (a:At):V:=.tup (tl a)
noncomputable def allAt:List At:=[.i64,.bo,.st,.ai,.an,.sa,.ti,.tb,.int,.real,.any,.n1,.v0,.ar0,.us0,.ua0,.ui0,.tv0,.v1,.ar1,.us1,.ua1,.ui1,.tv1,.v2,.ar2,.us2,.ua2,.ui2,.tv2]
theorem mem_allAt (a:At):a ∈ allAt:=by cases a <;> decide
theorem eq_all:∀ a ∈ allAt,∀ b ∈ allAt,eqOp1 (enc a) (enc b) = some (decide (a = b)):=by decide +kernel
theorem eqOp_enc (a b:At):eqOp (enc a) (enc b) = some (decide (a = b)):=by
 have h:=eq_all a (mem_allAt a) b (mem_allAt b)
 cases b <;> exact h
theorem tabP {γ:Type} (c:At→At→Bool) (f g:At→At→γ) (h:(allAt.map λa=>(allAt.filter (c a)).map (f a)) = allAt.map λa=>(allAt.filter (c a)).map (g a)) (a b:At) (e:c a b = true):f a b = g a b:=
 List.map_inj_left.mp (List.map_inj_left.mp h a (mem_allAt a)) b (List.mem_filter.mpr ⟨mem_allAt b,e⟩)
theorem tab1 {γ:Type} (c:At→Bool) (f g:At→γ) (h:(allAt.filter c).map f = (allAt.filter c).map g) (a:At) (e:c a = true):f a = g a:=
 List.map_inj_left.mp h a (List.mem_filter.mpr ⟨mem_allAt a,e⟩)
theorem tabL {α β γ:Type} {l:List α} {m:List β} (f g:α→β→γ) (h:(l.map λa=>m.map (f a)) = l.map λa=>m.map (g a)) {a:α} {b:β} (ha:a ∈ l) (hb:b ∈ m):f a b = g a b:=
 List.map_inj_left.mp (List.map_inj_left.mp h a ha) b hb
theorem tabN {γ:Type} (n:Nat) (f g:Nat→γ) (h:(List.range n).map f = (List.range n).map g) {i:Nat} (hi:i < n):f i = g i:=
 List.map_inj_left.mp h i (List.mem_range.mpr hi)
noncomputable abbrev ev (d:Nat):Orc:=evCall P 8000 d
noncomputable def vix:At→Option Nat
 | .v0 | .ar0 | .us0 | .ua0 | .ui0 | .tv0=>some 0
 | .v1 | .ar1 | .us1 | .ua1 | .ui1 | .tv1=>some 1
 | .v2 | .ar2 | .us2 | .ua2 | .ui2 | .tv2=>some 2
 | _=>none
noncomputable def fvs (a:At):List V:=match vix a with
 | some i=>[.str (key i)]
 | none=>[]
theorem fv_ok (a:At) (d:Nat) (σ:H):ev (d + 20) 6 [enc a] σ = some (.lst (fvs a),σ):=tab1 (λ_=>true) (λa=>ev (d + 20) 6 [enc a] σ) (λa=>some (.lst (fvs a),σ)) (by kernel_rfl) a rfl
theorem em_ok (a:At) (d:Nat) (σ:H):ev (d + 20) 26 [enc a] σ = some (.bool false,σ):=tab1 (λ_=>true) (λa=>ev (d + 20) 26 [enc a] σ) (λ_=>some (.bool false,σ)) (by kernel_rfl) a rfl
structure Row where
 asked:Bool
 ord:Nat
 lo:List At
 up:List At
 diag:Bool
noncomputable def encs (l:List At):List V:=l.map enc
noncomputable def encR (r:Row):V:=.ins 0 [.bool r.asked,.int r.ord,.tup (encs r.lo),.tup (encs r.up),.bool r.diag]
noncomputable def keys (n:Nat):List Str:=(List.range n).map λi=>key (i + 1)
noncomputable abbrev Rows:=List Row
structure SidesAt (σ:H) (o r:Nat) (S:Rows):Prop where
 obj:σ[o]? = some (.recd 1 [.ref r,.int S.length])
 rows:σ[r]? = some (.dict (keys S.length) (S.map encR))
noncomputable def row0:V:=.ins 0 [.bool false,.int 0,.tup [],.tup [],.bool false]
noncomputable def r0:Row:=⟨false,0,[],[],false⟩
noncomputable def rowAt (S:Rows):Nat→Row
 | 0=>r0
 | j + 1=>S[j]?.getD r0
theorem no3 {n:Nat} {G:Prop} (h:n + 3 ≤ 2):G:=absurd h (Nat.not_le_of_gt (Nat.le_add_left 3 n))
@[elab_as_elim] theorem S2 {M:Rows→Prop} {S:Rows} (hS:S.length ≤ 2) (h0:M []) (h1:∀ a,M [a]) (h2:∀ a b,M [a,b]):M S:=
 S.casesOn (motive:=λS=>S.length ≤ 2→M S) (λ_=>h0) (λa S=>S.casesOn (motive:=λS=>S.length + 1 ≤ 2→M (a :: S)) (λ_=>h1 a) λb S=>S.casesOn (motive:=λS=>S.length + 2 ≤ 2→M (a :: b :: S)) (λ_=>h2 a b) λ_ _=>no3) hS
@[elab_as_elim] theorem j2 {M:Nat→Prop} {j:Nat} (hj:j ≤ 2) (h0:M 0) (h1:M 1) (h2:M 2):M j:=
 j.casesOn (motive:=λj=>j ≤ 2→M j) (λ_=>h0) (λj=>j.casesOn (motive:=λj=>j + 1 ≤ 2→M (j + 1)) (λ_=>h1) λj=>j.casesOn (motive:=λj=>j + 2 ≤ 2→M (j + 2)) (λ_=>h2) λ_=>no3) hj
theorem lk_rows (S:Rows) (j:Nat) (hS:S.length ≤ 2) (hj:j ≤ 2):(lk (keys S.length) (S.map encR) (key j)).getD row0 = encR (rowAt S j):=
 S2 (M:=λS=>(lk (keys S.length) (S.map encR) (key j)).getD row0 = encR (rowAt S j)) hS (j2 (M:=λj=>(lk (keys 0) [] (key j)).getD row0 = encR (rowAt [] j)) hj (by kernel_rfl) (by kernel_rfl) (by kernel_rfl))
  (λa=>j2 (M:=λj=>(lk (keys 1) [encR a] (key j)).getD row0 = encR (rowAt [a] j)) hj (by kernel_rfl) (by kernel_rfl) (by kernel_rfl))
  (λa b=>j2 (M:=λj=>(lk (keys 2) [encR a,encR b] (key j)).getD row0 = encR (rowAt [a,b] j)) hj (by kernel_rfl) (by kernel_rfl) (by kernel_rfl))
noncomputable def SidesAt.fo {S:Rows} {σ:H} {o r:Nat} (h:SidesAt σ o r S):Fct:=fO h.obj
noncomputable def SidesAt.fr {S:Rows} {σ:H} {o r:Nat} (h:SidesAt σ o r S):Fct:=fO h.rows
theorem lk_rows' (S:Rows) (j:Nat) (hS:S.length ≤ 2) (hj:j ≤ 2):(oDct (.dct (keys S.length) (S.map encR)) λks vs=>oStr (.str (key j)) λs=>some ((lk ks vs s).getD row0)) = some (encR (rowAt S j)):=congrArg some (lk_rows S j hS hj)
theorem side_ok {S:Rows} {σ:H} {o r:Nat} (h:SidesAt σ o r S) (d j:Nat) (hS:S.length ≤ 2) (hj:j ≤ 2):evCall P 8000 (d + 21) 16 [.obj 1 o,.str (key j)] σ = some (encR (rowAt S j),σ):=by
 exact rn (.c 0 (SidesAt.fo h) <| .c 0 (SidesAt.fr h) <| .c 1 (SidesAt.fr h) <| .c 0 (fV (lk_rows' S j hS hj)) <| .e) (by kernel_rfl)
noncomputable def wd (a:At):Str:=match a with
 | .v0 | .v1 | .v2=>"var"
 | .us0 | .ua0 | .ui0 | .us1 | .ua1 | .ui1 | .us2 | .ua2 | .ui2=>"union"
 | .ti | .tb | .tv0 | .tv1 | .tv2=>"tuple"
 | .n1=>"n"
 | _=>"name"
theorem idx0 (a:At):idxOp (enc a) (.int 0) = some (.str (wd a)):=tab1 (λ_=>true) (λa=>idxOp (enc a) (.int 0)) (λa=>some (.str (wd a))) (by kernel_rfl) a rfl
noncomputable def idx0F (a:At):Fct:=fV (idx0 a)
noncomputable def isV (a:At):Option Nat:=if a = .v0 then some 0 else if a = .v1 then some 1 else if a = .v2 then some 2 else none
noncomputable def asked (S:Rows) (a:At):Bool:=(isV a).casesOn false λj=>(rowAt S j).asked
noncomputable def wds:List Str:=["var","union","all","name","tuple"]
theorem w_eqs:(allAt.map λa=>wds.map λy=>eqOp (.str (wd a)) (.str y)) = allAt.map λa=>wds.map λy=>some (wd a == y):=by kernel_rfl
theorem w_eq (a:At) {y:Str} {b:Bool} (h:y ∈ wds) (e:(wd a == y) = b):eqOp (.str (wd a)) (.str y) = some b:=(tabL _ _ w_eqs (mem_allAt a) h).trans (congrArg some e)
noncomputable def wVar (a:At) {b:Bool} (e:(wd a == "var") = b):Fct:=fB (w_eq a (y:="var") (.head _) e)
noncomputable def wUni (a:At) {b:Bool} (e:(wd a == "union") = b):Fct:=fB (w_eq a (y:="union") (.tail _ (.head _)) e)
noncomputable def wAll (a:At) {b:Bool} (e:(wd a == "all") = b):Fct:=fB (w_eq a (y:="all") (.tail _ (.tail _ (.head _))) e)
noncomputable def wNam (a:At) {b:Bool} (e:(wd a == "name") = b):Fct:=fB (w_eq a (y:="name") (.tail _ (.tail _ (.tail _ (.head _)))) e)
noncomputable def wTup (a:At) {b:Bool} (e:(wd a == "tuple") = b):Fct:=fB (w_eq a (y:="tuple") (.tail _ (.tail _ (.tail _ (.tail _ (.head _))))) e)
@[elab_as_elim] theorem isV_is {M:At→Nat→Prop} {a:At} {i:Nat} (h:isV a = some i) (h0:M .v0 0) (h1:M .v1 1) (h2:M .v2 2):M a i:=by
 unfold isV at h
 by_cases e:a = .v0
 · rw [if_pos e] at h; exact e ▸ Option.some.inj h ▸ h0
 · rw [if_neg e] at h
   by_cases e:a = .v1
   · rw [if_pos e] at h; exact e ▸ Option.some.inj h ▸ h1
   · rw [if_neg e] at h
     by_cases e:a = .v2
     · rw [if_pos e] at h; exact e ▸ Option.some.inj h ▸ h2
     · rw [if_neg e] at h; exact nn h
theorem isV_le {a:At} {i:Nat} (h:isV a = some i):i ≤ 2:=isV_is h (by decide) (by decide) (by decide)
theorem isV_wd {a:At} {i:Nat} (h:isV a = some i):(wd a == "var") = true:=isV_is (M:=λa _=>(wd a == "var") = true) h (by kernel_rfl) (by kernel_rfl) (by kernel_rfl)
theorem idx1v {a:At} {i:Nat} (h:isV a = some i):idxOp (enc a) (.int 1) = some (.str (key i)):=isV_is (M:=λa i=>idxOp (enc a) (.int 1) = some (.str (key i))) h (by kernel_rfl) (by kernel_rfl) (by kernel_rfl)
theorem wd_nv {a:At} (h:isV a = none):(wd a == "var") = false:=tab1 (λa=>decide (isV a = none)) (λa=>wd a == "var") (λ_=>false) (by kernel_rfl) a (decide_eq_true h)
theorem isAsked_ok {S:Rows} {σ:H} {o r:Nat} (h:SidesAt σ o r S) (d:Nat) (hS:S.length ≤ 2) (a:At):evCall P 8000 (d + 22) 17 [.obj 1 o,enc a] σ = some (.bool (asked S a),σ):=by
 cases hv:isV a with
 | none=>
  have e:asked S a = false:=by unfold asked; rw [hv]
  rw [e]
  exact rn (.c 0 (idx0F a) <| .c 0 (wVar a (wd_nv hv)) <| .e) (by kernel_rfl)
 | some j=>
  have e:asked S a = (rowAt S j).asked:=by unfold asked; rw [hv]
  rw [e]
  exact rn (.c 0 (idx0F a) <| .c 0 (wVar a (isV_wd hv)) <| .c 1 (SidesAt.fo h) <| .c 0 (fV (idx1v hv)) <| .c 0 (fC (side_ok h d j hS (isV_le hv))) <| .e) (by kernel_rfl)
noncomputable def hw (j:Nat) (a:At):Bool:=decide (isV a ≠ some j) && decide (vix a = some j)
theorem hw_ok (j:Nat) (hj:j ≤ 2) (a:At) (d:Nat) (σ:H):evCall P 8000 (d + 21) 42 [.str (key j),enc a] σ = some (.bool (hw j a),σ):=by
 exact tabL (l:=List.range 3) (m:=allAt) (λj a=>evCall P 8000 (d + 21) 42 [.str (key j),enc a] σ) (λj a=>some (.bool (hw j a),σ)) (by kernel_rfl) (List.mem_range.mpr (Nat.lt_succ_of_le hj)) (mem_allAt a)
theorem vix_le {a:At} {i:Nat} (h:vix a = some i):i ≤ 2:=
 Nat.le_of_ble_eq_true ((congrArg (λo:Option Nat=>Nat.ble (o.getD 0) 2) h).symm.trans (tab1 (λ_=>true) (λa=>Nat.ble ((vix a).getD 0) 2) (λ_=>true) (by kernel_rfl) a rfl))
theorem fv_some {a:At} {i:Nat} (h:vix a = some i) (d:Nat) (σ:H):ev (d + 20) 6 [enc a] σ = some (.lst [.str (key i)],σ):=(fv_ok a d σ).trans (by unfold fvs; rw [h])
theorem fv_none {a:At} (h:vix a = none) (d:Nat) (σ:H):ev (d + 20) 6 [enc a] σ = some (.lst [],σ):=(fv_ok a d σ).trans (by unfold fvs; rw [h])
theorem hasAsked_ok {S:Rows} {σ:H} {o r:Nat} (h:SidesAt σ o r S) (d:Nat) (hS:S.length ≤ 2) (a b:At) (j:Nat) (hb:vix b = some j) (ha:(rowAt S j).asked = true) :
 evCall P 8000 (d + 22) 18 [.obj 1 o,.tup [enc a,enc b]] σ = some (.bool true,σ):=by
 cases hva:vix a with
 | none=>exact rn (.c 2 (fC (fv_none hva (d + 1) σ)) <| .c 1 (fC (fv_some hb (d + 1) σ)) <| .c 5 (SidesAt.fo h) <| .c 0 (fC (side_ok h d j hS (vix_le hb))) <| .c 0 (fT ha) <| .e) (by kernel_rfl)
 | some i=>exact rn (.c 2 (fC (fv_some hva (d + 1) σ)) <| .c 2 (fC (fv_some hb (d + 1) σ)) <| .c 5 (SidesAt.fo h) <| .c 0 (fC (side_ok h d j hS (vix_le hb))) <| .c 0 (fT ha) <| .e) (by kernel_rfl)
noncomputable def later (S:Rows) (a:At) (j:Nat):Bool:=(vix a).casesOn true λi=>(rowAt S i).asked || decide ((rowAt S i).ord ≤ (rowAt S j).ord)
theorem later_ok {S:Rows} {σ:H} {o r:Nat} (h:SidesAt σ o r S) (d:Nat) (hS:S.length ≤ 2) (a:At) (j:Nat) (hj:j ≤ 2) (hl:later S a j = true) :
 evCall P 8000 (d + 22) 21 [.obj 1 o,enc a,.str (key j)] σ = some (.lst [],σ):=by
 cases hva:vix a with
 | none=>exact rn (.c 0 (SidesAt.fo h) <| .c 0 (fC (side_ok h d j hS hj)) <| .c 1 (fC (fv_none hva (d + 1) σ)) <| .e) (by kernel_rfl)
 | some i=>
  unfold later at hl
  rw [hva] at hl
  cases has:(rowAt S i).asked with
  | true=>exact rn (.c 0 (SidesAt.fo h) <| .c 0 (fC (side_ok h d j hS hj)) <| .c 1 (fC (fv_some hva (d + 1) σ)) <| .c 0 (SidesAt.fo h) <| .c 0 (fC (side_ok h d i hS (vix_le hva))) <| .c 0 (fT (congrArg not has)) <| .e) (by kernel_rfl)
  | false=>
   have ho:(rowAt S i).ord ≤ (rowAt S j).ord:=of_decide_eq_true ((congrArg (λb=>b || decide ((rowAt S i).ord ≤ (rowAt S j).ord)) has).symm.trans hl)
   have ho':decide (((rowAt S j).ord:Int) < (rowAt S i).ord) = false:=decide_eq_false (Int.not_lt.mpr (Int.ofNat_le.mpr ho))
   exact rn (.c 0 (SidesAt.fo h) <| .c 0 (fC (side_ok h d j hS hj)) <| .c 1 (fC (fv_some hva (d + 1) σ)) <| .c 0 (SidesAt.fo h) <| .c 0 (fC (side_ok h d i hS (vix_le hva))) <| .c 0 (fT (congrArg not has)) <| .c 0 (SidesAt.fo h) <| .c 0 (fC (side_ok h d i hS (vix_le hva))) <| .c 0 (fT ho') <| .e) (by kernel_rfl)
theorem loopL_map {α:Type} {f:V→H→List V→Option (List V×H)} {e g:α→V} {σ:H}:∀ (l:List α) (acc:List V),(∀ x ∈ l,∀ acc:List V,Nat.ble acc.length 4000 = true→f (e x) σ acc = some (acc ++ [g x],σ))→acc.length + l.length ≤ 4000→loopL f (l.map e) σ acc = some (acc ++ l.map g,σ)
 | [],acc,_,_=>congrArg (λz=>some (z,σ)) (List.append_nil acc).symm
 | x :: l,acc,hf,hl=>by
  have h1:=hf x (List.mem_cons_self ..) acc (Nat.ble_eq_true_of_le (Nat.le_trans (Nat.le_add_right _ _) hl))
  have h2:=loopL_map l (acc ++ [g x]) (λy hy=>hf y (List.mem_cons_of_mem _ hy)) (by rw [List.length_append]; exact Nat.le_trans (Nat.le_of_eq ((Nat.add_assoc _ _ _).trans (congrArg _ (Nat.add_comm 1 _)))) hl)
  rw [List.append_assoc] at h2
  exact (congrArg (λo=>b2 o λacc σ=>loopL f (l.map e) σ acc) h1).trans h2
theorem comp1 {α:Type} {C:Orc} {elt:E} {i:Nat} {it:It} {ρ:Rho} {σ:H} (e g:α→V) {l:List α} (hF:freeGs (noOwn ρ) [.mk (.one i) it []] = true) (hI:evI C it (noOwn ρ) σ = some (l.map e,σ)) (hl:l.length ≤ 4000) (hb:∀ x ∈ l,evE C elt (setV (noOwn ρ) i (e x)) σ = some (g x,σ)) :
 evE C (.comp elt [.mk (.one i) it []]) ρ σ = some (.lst (l.map g),σ):=by
 have hT:freeT (noOwn ρ) (.one i) = true:=(Bool.and_eq_true_iff.mp hF).1
 have h:=loopL_map (f:=λx σ acc=>b1 (bindT (.one i) (noOwn ρ) x) λρ'=>b2 (evIfs C [] ρ' σ) λb σ=>cond b (evG C (λρ σ=>evE C elt ρ σ) [] ρ' σ acc) (some (acc,σ))) (e:=e) (g:=g) (σ:=σ) l [] (λx hx acc ha=>by
  refine (congrArg (λo=>b2 o λx σ=>gd (shortL acc) (some (acc ++ [x],σ))) (hb x hx)).trans ?_
  exact congrArg (λb=>gd b _) ha) (by rw [List.length_nil,Nat.zero_add]; exact hl)
 show gd (freeGs (noOwn ρ) [.mk (.one i) it []]) (b2 (gd (freeT (noOwn ρ) (.one i)) (b2 (evI C it (noOwn ρ) σ) λl σ=>loopL _ l σ [])) _) = _
 rw [hF,hT,hI]
 exact congrArg (λo=>b2 o λl σ=>some (V.lst l,σ)) h
theorem lay_all:∀ a ∈ allAt,((py (enc a)).canLay0 && Nat.ble (py (enc a)).depth 10) = true:=by decide +kernel
theorem lay_pys:∀ l:List At,PyData.canLayAll0 (pys (encs l)) = true
 | []=>rfl
 | a :: l=>by
  have h:=lay_all a (mem_allAt a)
  rw [Bool.and_eq_true] at h
  exact Bool.and_eq_true_iff.mpr ⟨h.1,lay_pys l⟩
theorem eqv_enc (a b:At):PyData.eqv (py (enc a)) (py (enc b)) = decide (a = b):=by
 have h:=eq_all a (mem_allAt a) b (mem_allAt b)
 exact gd_is h λ_ h=>Option.some.inj h
theorem or_mem (a b:At) (l:List At):(decide (b = a) || decide (a ∈ l)) = decide (a ∈ b :: l):=by
 rw [Bool.eq_iff_iff,Bool.or_eq_true,decide_eq_true_iff,decide_eq_true_iff,decide_eq_true_iff,List.mem_cons,eq_comm]
theorem any_enc (a:At):∀ l:List At,((pys (encs l)).any λy=>PyData.eqv y (py (enc a))) = decide (a ∈ l)
 | []=>rfl
 | b :: l=>(congr (congrArg or (eqv_enc b a)) (any_enc a l)).trans (or_mem a b l)
theorem ok_list (a:At) (l:List At):okPair (.lst (encs l)) (enc a) = true:=
 have h:=Bool.and_eq_true_iff.mp (lay_all a (mem_allAt a))
 Bool.and_eq_true_iff.mpr ⟨lay_pys l,Bool.and_eq_true_iff.mpr ⟨h.1,Nat.ble_eq_true_of_le (Nat.le_trans (Nat.min_le_right _ _) (Nat.le_trans (Nat.le_of_ble_eq_true h.2) (by decide)))⟩⟩
theorem isIn_tup (a:At) (l:List At):isInOp (enc a) (.tup (encs l)) = some (decide (a ∈ l)):=by
 show gd _ (some _) = _
 rw [ok_list,any_enc]; rfl
theorem narrowed_f {S:Rows} {σ:H} {o r:Nat} (h:SidesAt σ o r S) (d:Nat) (hS:S.length ≤ 2) {a:At} {j:Nat} (hj:j ≤ 2) (hl:later S a j = true) (hh:hw j a = false) :
 evCall P 8000 (d + 23) 40 [.str (key j),enc a,.obj 1 o] σ = some (enc a,σ):=by
 exact rn (.c 0 (SidesAt.fo h) <| .c 0 (fC (later_ok h d hS a j hj hl)) <| .c 2 (fC (hw_ok j hj a (d + 1) σ)) <| .c 0 (fT hh) <| .e) (by kernel_rfl)
theorem narrowed_t {S:Rows} {σ:H} {o r:Nat} (h:SidesAt σ o r S) (d:Nat) (hS:S.length ≤ 2) {a:At} {j:Nat} (hj:j ≤ 2) (hl:later S a j = true) (hh:hw j a = true) :
 evCall P 8000 (d + 23) 40 [.str (key j),enc a,.obj 1 o] σ = some (.none,σ):=by
 exact rn (.c 0 (SidesAt.fo h) <| .c 0 (fC (later_ok h d hS a j hj hl)) <| .c 2 (fC (hw_ok j hj a (d + 1) σ)) <| .c 0 (fT hh) <| .e) (by kernel_rfl)
theorem widened_f {S:Rows} {σ:H} {o r:Nat} (h:SidesAt σ o r S) (d:Nat) (hS:S.length ≤ 2) {a:At} {j:Nat} (hj:j ≤ 2) (hl:later S a j = true) (hh:hw j a = false) :
 evCall P 8000 (d + 23) 41 [.str (key j),enc a,.obj 1 o] σ = some (enc a,σ):=by
 exact rn (.c 0 (SidesAt.fo h) <| .c 0 (fC (later_ok h d hS a j hj hl)) <| .c 2 (fC (hw_ok j hj a (d + 1) σ)) <| .c 0 (fT hh) <| .e) (by kernel_rfl)
theorem widened_t {S:Rows} {σ:H} {o r:Nat} (h:SidesAt σ o r S) (d:Nat) (hS:S.length ≤ 2) {a:At} {j:Nat} (hj:j ≤ 2) (hl:later S a j = true) (hh:hw j a = true) :
 evCall P 8000 (d + 23) 41 [.str (key j),enc a,.obj 1 o] σ = some (.none,σ):=by
 exact rn (.c 0 (SidesAt.fo h) <| .c 0 (fC (later_ok h d hS a j hj hl)) <| .c 2 (fC (hw_ok j hj a (d + 1) σ)) <| .c 0 (fT hh) <| .e) (by kernel_rfl)
noncomputable def addLo (S:Rows) (j:Nat) (a:At):Rows:=S.set (j - 1) { rowAt S j with lo:=(rowAt S j).lo ++ [a] }
noncomputable def addUp (S:Rows) (j:Nat) (a:At):Rows:=S.set (j - 1) { rowAt S j with up:=(rowAt S j).up ++ [a] }
theorem short3 {l:List At} (h:l.length ≤ 3000) (v:V):(shortL (encs l) && shortL [v]) = true:=
 Bool.and_eq_true_iff.mpr ⟨Nat.ble_eq_true_of_le (by unfold encs; rw [List.length_map]; exact Nat.le_trans h (by decide)),rfl⟩
theorem add_encs {l:List At} (h:l.length ≤ 3000) (a:At):binOp .add (.tup (encs l)) (.tup [enc a]) = some (.tup (encs (l ++ [a]))):=
 (congrArg (λb=>gd b (some (V.tup (encs l ++ [enc a])))) (short3 h (enc a))).trans (congrArg (λz=>some (V.tup z)) (List.map_append (f:=enc) (l₁:=l) (l₂:=[a])).symm)
theorem withLower_ok (r:Row) (a:At) (d:Nat) (σ:H) (hl:r.lo.length ≤ 3000):evCall P 8000 (d + 21) 9 [encR r,enc a] σ = some (encR { r with lo:=r.lo ++ [a] },σ):=by
 exact rn (.c 0 (fV (add_encs hl a)) <| .e) (by kernel_rfl)
theorem withUpper_ok (r:Row) (a:At) (d:Nat) (σ:H) (hl:r.up.length ≤ 3000):evCall P 8000 (d + 21) 10 [encR r,enc a] σ = some (encR { r with up:=r.up ++ [a] },σ):=by
 exact rn (.c 0 (fV (add_encs hl a)) <| .e) (by kernel_rfl)
@[elab_as_elim] theorem S2j {M:Rows→Nat→Prop} {S:Rows} {j:Nat} (hS:S.length ≤ 2) (hj:1 ≤ j) (hj':j ≤ S.length) (h1:∀ a,M [a] 1) (h21:∀ a b,M [a,b] 1) (h22:∀ a b,M [a,b] 2):M S j:=
 S2 (M:=λS=>j ≤ S.length→M S j) hS (λh=>absurd (Nat.le_trans hj h) (by decide)) (λa h=>Nat.le_antisymm h hj ▸ h1 a) (λa b h=>(Nat.lt_or_ge 1 j).elim (λh'=>Nat.le_antisymm h h' ▸ h22 a b) λh'=>Nat.le_antisymm h' hj ▸ h21 a b) hj'
theorem lk_some (S:Rows) (j:Nat) (hS:S.length ≤ 2) (hj:1 ≤ j) (hj':j ≤ S.length):lk (keys S.length) (S.map encR) (key j) = some (encR (rowAt S j)):=
 S2j (M:=λS j=>lk (keys S.length) (S.map encR) (key j) = some (encR (rowAt S j))) hS hj hj' (λa=>by kernel_rfl) (λa b=>by kernel_rfl) (λa b=>by kernel_rfl)
theorem put_row (S:Rows) (j:Nat) (v:Row) (hS:S.length ≤ 2) (hj:1 ≤ j) (hj':j ≤ S.length):putAt (keys S.length) (S.map encR) (key j) (encR v) = (keys (S.set (j - 1) v).length,(S.set (j - 1) v).map encR):=
 S2j (M:=λS j=>putAt (keys S.length) (S.map encR) (key j) (encR v) = (keys (S.set (j - 1) v).length,(S.set (j - 1) v).map encR)) hS hj hj' (λa=>by kernel_rfl) (λa b=>by kernel_rfl) (λa b=>by kernel_rfl)
noncomputable def setRows (σ:H) (r:Nat) (S:Rows):H:=σ.set r (.dict (keys S.length) (S.map encR))
theorem storedR {S:Rows} {σ:H} {o r:Nat} (h:SidesAt σ o r S) (j:Nat) (v:Row) (hS:S.length ≤ 2) (hj:1 ≤ j) (hj':j ≤ S.length):stored σ (.ref r) (.str (key j)) (encR v) = some (setRows σ r (S.set (j - 1) v)):=by
 have hb:shortL (S.map encR) = true:=Nat.ble_eq_true_of_le (by rw [List.length_map]; exact Nat.le_trans hS (by decide))
 show storedO σ r (.str (key j)) (encR v) σ[r]? = _
 rw [h.rows]
 show gd (shortL (S.map encR)) (some (σ.set r (.dict (putAt (keys S.length) (S.map encR) (key j) (encR v)).1 (putAt (keys S.length) (S.map encR) (key j) (encR v)).2))) = _
 rw [hb,put_row S j v hS hj hj']
 rfl
theorem idxRow {S:Rows} (j:Nat) (hS:S.length ≤ 2) (hj:1 ≤ j) (hj':j ≤ S.length):idxOp (.dct (keys S.length) (S.map encR)) (.str (key j)) = some (encR (rowAt S j)):=lk_some S j hS hj hj'
theorem addLower_ok {S:Rows} {σ:H} {o r:Nat} (h:SidesAt σ o r S) (d:Nat) (hS:S.length ≤ 2) (a:At) (j:Nat) (hj:1 ≤ j) (hj':j ≤ S.length) (hl:(rowAt S j).lo.length ≤ 3000) :
 evCall P 8000 (d + 22) 19 [.obj 1 o,.str (key j),enc a] σ = some (.none,setRows σ r (addLo S j a)):=by
 exact rn (.c 0 (SidesAt.fo h) <| .c 0 (SidesAt.fr h) <| .c 0 (fV (idxRow j hS hj hj')) <| .c 0 (fC (withLower_ok (rowAt S j) a d σ hl)) <| .c 0 (SidesAt.fo h) <| .c 0 (fH   (storedR h j     (let __src:=rowAt S j;     { asked:=__src.asked,ord:=__src.ord,lo:=(rowAt S j).lo ++ [a],up:=__src.up,diag:=__src.diag })     hS hj hj')) <| .e) (by kernel_rfl)
theorem addUpper_ok {S:Rows} {σ:H} {o r:Nat} (h:SidesAt σ o r S) (d:Nat) (hS:S.length ≤ 2) (a:At) (j:Nat) (hj:1 ≤ j) (hj':j ≤ S.length) (hl:(rowAt S j).up.length ≤ 3000) :
 evCall P 8000 (d + 22) 20 [.obj 1 o,.str (key j),enc a] σ = some (.none,setRows σ r (addUp S j a)):=by
 exact rn (.c 0 (SidesAt.fo h) <| .c 0 (SidesAt.fr h) <| .c 0 (fV (idxRow j hS hj hj')) <| .c 0 (fC (withUpper_ok (rowAt S j) a d σ hl)) <| .c 0 (SidesAt.fo h) <| .c 0 (fH   (storedR h j     (let __src:=rowAt S j;     { asked:=__src.asked,ord:=__src.ord,lo:=__src.lo,up:=(rowAt S j).up ++ [a],diag:=__src.diag })     hS hj hj')) <| .e) (by kernel_rfl)
theorem SidesAt.set {S S':Rows} {σ:H} {o r:Nat} (h:SidesAt σ o r S) (hl:S'.length = S.length):SidesAt (setRows σ r S') o r S':=
 have hne:r ≠ o:=λe=>by have h1:=h.obj; subst e; rw [h.rows] at h1; exact nomatch h1
 have hr:r < σ.length:=(List.getElem?_eq_some_iff.mp h.rows).1
 ⟨(List.getElem?_set_ne hne).trans (by rw [h.obj,hl]),List.getElem?_set_self hr⟩
theorem addLo_len (S:Rows) (j:Nat) (a:At):(addLo S j a).length = S.length:=List.length_set
theorem addUp_len (S:Rows) (j:Nat) (a:At):(addUp S j a).length = S.length:=List.length_set
theorem rowAt_set (S:Rows) (j:Nat) (v:Row) (hj:1 ≤ j) (hj':j ≤ S.length):rowAt (S.set (j - 1) v) j = v:=
 j.casesOn (motive:=λj=>1 ≤ j→j ≤ S.length→rowAt (S.set (j - 1) v) j = v) (λh=>absurd h (by decide)) (λj _ h=>congrArg (λo:Option Row=>o.getD r0) (List.getElem?_set_self h)) hj hj'
noncomputable def glV (w:Str) (a b:V):V:=.tup [.str w,a,b]
noncomputable def below (S:Rows) (j:Nat) (a:At):List V×Rows:=
 if hw j a then ([],S) else if a ∈ (rowAt S j).up then ([.lst []],S) else ([.lst ((rowAt S j).lo.map λl=>glV "sub" (enc l) (enc a))],addUp S j a)
noncomputable def above (S:Rows) (j:Nat) (a:At):List V×Rows:=
 if hw j a then ([],S) else if a ∈ (rowAt S j).lo then ([.lst []],S) else ([.lst ((rowAt S j).up.map λu=>glV "sub" (enc a) (enc u))],addLo S j a)
theorem setRows_same {S:Rows} {σ:H} {o r:Nat} (h:SidesAt σ o r S):setRows σ r S = σ:=by
 obtain ⟨h1,h2⟩:=List.getElem?_eq_some_iff.mp h.rows
 unfold setRows
 rw [← h2]
 exact List.set_getElem_self h1
theorem keep {S:Rows} {σ:H} {o r:Nat} (h:SidesAt σ o r S) {q:Option (V×H)} {v:V} (e:q = some (v,σ)):q = some (v,setRows σ r S):=e.trans (congrArg (λσ=>some (v,σ)) (setRows_same h).symm)
theorem small4 {l:List At} (h:l.length ≤ 3000):l.length ≤ 4000:=Nat.le_trans h (by decide)
theorem below_ok {S:Rows} {σ:H} {o r:Nat} (h:SidesAt σ o r S) (d:Nat) (s:V) (hS:S.length ≤ 2) (a:At) (j:Nat) (hj:1 ≤ j) (hj':j ≤ S.length) (hl:later S a j = true) (hu:(rowAt S j).up.length ≤ 3000) (hlo:(rowAt S j).lo.length ≤ 3000) :
 evCall P 8000 (d + 24) 32 [s,.str (key j),enc a,.obj 1 o] σ = some (.lst (below S j a).1,setRows σ r (below S j a).2):=by
 have hj2:=Nat.le_trans hj' hS
 unfold below
 cases hh:hw j a with
 | true=>
  refine keep h ?_
  exact rn (.c 0 (fC (narrowed_t h d hS hj2 hl hh)) <| .e) (by kernel_rfl)
 | false=>
  by_cases hm:a ∈ (rowAt S j).up
  · rw [if_pos hm]
    refine keep h ?_
    exact rn (.c 0 (fC (narrowed_f h d hS hj2 hl hh)) <| .c 1 (SidesAt.fo h) <| .c 0 (fC (side_ok h (d + 2) j hS hj2)) <| .c 0 (fB (Eq.trans (isIn_tup a (rowAt S j).up) (congrArg some (decide_eq_true hm)))) <| .e) (by kernel_rfl)
  · rw [if_neg hm]
    have h':=h.set (addUp_len S j a)
    have hs:ev (d + 23) 16 [.obj 1 o,.str (key j)] (setRows σ r (addUp S j a)) = some (encR { rowAt S j with up:=(rowAt S j).up ++ [a] },_):=(side_ok h' (d + 2) j (by rw [addUp_len]; exact hS) hj2).trans (congrArg (λv=>some (encR v,_)) (rowAt_set S j _ hj hj'))
    have hc:evE (ev (d + 23)) c_bel (rho0 [s,.str (key j),enc a,.obj 1 o] 5) (setRows σ r (addUp S j a)) = some (.lst ((rowAt S j).lo.map λl=>glV "sub" (enc l) (enc a)),_):=
     comp1 enc (λl=>glV "sub" (enc l) (enc a)) (by kernel_rfl) (by exact rnI (.c 0 (SidesAt.fo h') <| .c 0 (fC hs) <| .e) (by kernel_rfl)) (small4 hlo) (λx _=>by kernel_rfl)
    exact rn (.c 0 (fC (narrowed_f h d hS hj2 hl hh)) <| .c 1 (SidesAt.fo h) <| .c 0 (fC (side_ok h (d + 2) j hS hj2)) <| .c 0 (fB (Eq.trans (isIn_tup a (rowAt S j).up) (congrArg some (decide_eq_false hm)))) <| .c 1 (SidesAt.fo h) <| .c 0 (fC (addUpper_ok h (d + 1) hS a j hj hj' hu)) <| .c 0 (fC hc) <| .e) (by kernel_rfl)
theorem above_ok {S:Rows} {σ:H} {o r:Nat} (h:SidesAt σ o r S) (d:Nat) (s:V) (hS:S.length ≤ 2) (a:At) (j:Nat) (hj:1 ≤ j) (hj':j ≤ S.length) (hl:later S a j = true) (hu:(rowAt S j).up.length ≤ 3000) (hlo:(rowAt S j).lo.length ≤ 3000) :
 evCall P 8000 (d + 24) 33 [s,.str (key j),enc a,.obj 1 o] σ = some (.lst (above S j a).1,setRows σ r (above S j a).2):=by
 have hj2:=Nat.le_trans hj' hS
 unfold above
 cases hh:hw j a with
 | true=>
  refine keep h ?_
  exact rn (.c 0 (fC (widened_t h d hS hj2 hl hh)) <| .e) (by kernel_rfl)
 | false=>
  by_cases hm:a ∈ (rowAt S j).lo
  · rw [if_pos hm]
    refine keep h ?_
    exact rn (.c 0 (fC (widened_f h d hS hj2 hl hh)) <| .c 1 (SidesAt.fo h) <| .c 0 (fC (side_ok h (d + 2) j hS hj2)) <| .c 0 (fB (Eq.trans (isIn_tup a (rowAt S j).lo) (congrArg some (decide_eq_true hm)))) <| .e) (by kernel_rfl)
  · rw [if_neg hm]
    have h':=h.set (addLo_len S j a)
    have hs:ev (d + 23) 16 [.obj 1 o,.str (key j)] (setRows σ r (addLo S j a)) = some (encR { rowAt S j with lo:=(rowAt S j).lo ++ [a] },_):=(side_ok h' (d + 2) j (by rw [addLo_len]; exact hS) hj2).trans (congrArg (λv=>some (encR v,_)) (rowAt_set S j _ hj hj'))
    have hc:evE (ev (d + 23)) c_abv (rho0 [s,.str (key j),enc a,.obj 1 o] 5) (setRows σ r (addLo S j a)) = some (.lst ((rowAt S j).up.map λl=>glV "sub" (enc a) (enc l)),_):=
     comp1 enc (λl=>glV "sub" (enc a) (enc l)) (by kernel_rfl) (by exact rnI (.c 0 (SidesAt.fo h') <| .c 0 (fC hs) <| .e) (by kernel_rfl)) (small4 hu) (λx _=>by kernel_rfl)
    exact rn (.c 0 (fC (widened_f h d hS hj2 hl hh)) <| .c 1 (SidesAt.fo h) <| .c 0 (fC (side_ok h (d + 2) j hS hj2)) <| .c 0 (fB (Eq.trans (isIn_tup a (rowAt S j).lo) (congrArg some (decide_eq_false hm)))) <| .c 1 (SidesAt.fo h) <| .c 0 (fC (addLower_ok h (d + 1) hS a j hj hj' hlo)) <| .c 0 (fC hc) <| .e) (by kernel_rfl)
noncomputable def declKs:List Str:=(["Any","Type","Function","Number","AbstractChar","AbstractString","Exception","Real","Integer","Signed","Unsigned","Int8","Int16","Int32","Int64","BigInt","UInt8","UInt16","UInt32","UInt64","Bool","Char","String","Symbol","Nothing","Expr","DivideError","InexactError","TypeError","StackOverflowError","ArgumentError","OverflowError","DimensionMismatch","ErrorException","MethodError","AmbiguousError","UndefVarError","BoundsError","AbstractArray","Array","SubArray","AbstractRange","UnitRange","StepRange","Ref","Rational"]:List String).map Str.ofString
noncomputable def botV:V:=.tup [.str "bottom"]
noncomputable def dk (x:Str) (ps:List V) (up:V) (ab mu:Bool) (fs:List V):V:=.ins 3 [.str x,.lst ps,up,.bool ab,.bool mu,.lst fs]
noncomputable def fd (x:Str) (k:V):V:=.tup [.str x,k]
noncomputable def pm (x:Str) (k:V):V:=.tup [.str x,botV,k]
noncomputable def declVs:List V:=[dk "Any" [] .none true false [],
 dk "Type" [] (nmV "Any") true false [],
 dk "Function" [] (nmV "Any") true false [],
 dk "Number" [] (nmV "Any") true false [],
 dk "AbstractChar" [] (nmV "Any") true false [],
 dk "AbstractString" [] (nmV "Any") true false [],
 dk "Exception" [] (nmV "Any") true false [],
 dk "Real" [] (nmV "Number") true false [],
 dk "Integer" [] (nmV "Real") true false [],
 dk "Signed" [] (nmV "Integer") true false [],
 dk "Unsigned" [] (nmV "Integer") true false [],
 dk "Int8" [] (nmV "Signed") false false [],
 dk "Int16" [] (nmV "Signed") false false [],
 dk "Int32" [] (nmV "Signed") false false [],
 dk "Int64" [] (nmV "Signed") false false [],
 dk "BigInt" [] (nmV "Signed") false false [],
 dk "UInt8" [] (nmV "Unsigned") false false [],
 dk "UInt16" [] (nmV "Unsigned") false false [],
 dk "UInt32" [] (nmV "Unsigned") false false [],
 dk "UInt64" [] (nmV "Unsigned") false false [],
 dk "Bool" [] (nmV "Integer") false false [],
 dk "Char" [] (nmV "AbstractChar") false false [],
 dk "String" [] (nmV "AbstractString") false false [],
 dk "Symbol" [] (nmV "Any") false false [],
 dk "Nothing" [] (nmV "Any") false false [],
 dk "Expr" [] (nmV "Any") false true [fd "head" (nmV "Symbol"),fd "args" (nmV "Any")],
 dk "DivideError" [] (nmV "Exception") false false [],
 dk "InexactError" [] (nmV "Exception") false false [],
 dk "TypeError" [] (nmV "Exception") false false [],
 dk "StackOverflowError" [] (nmV "Exception") false false [],
 dk "ArgumentError" [] (nmV "Exception") false false [fd "msg" (nmV "Any")],
 dk "OverflowError" [] (nmV "Exception") false false [fd "msg" (nmV "Any")],
 dk "DimensionMismatch" [] (nmV "Exception") false false [fd "msg" (nmV "Any")],
 dk "ErrorException" [] (nmV "Exception") false false [fd "msg" (nmV "Any")],
 dk "MethodError" [] (nmV "Exception") false false [fd "f" (nmV "Any"),fd "args" (nmV "Any")],
 dk "AmbiguousError" [] (nmV "Exception") false false [fd "f" (nmV "Any"),fd "args" (nmV "Any")],
 dk "UndefVarError" [] (nmV "Exception") false false [fd "var" (nmV "Any")],
 dk "BoundsError" [] (nmV "Exception") false false [fd "a" (nmV "Any"),fd "i" (nmV "Any")],
 dk "AbstractArray" [pm "T.0" (nmV "Any"),pm "N.0" (nmV "Any")] (nmV "Any") true false [],
 dk "Array" [pm "T.0" (nmV "Any"),pm "N.0" (nmV "Any")] (.tup [.str "name",.str "AbstractArray",.tup [(varV "T.0"),(varV "N.0")]]) false true [],
 dk "SubArray" [pm "T.0" (nmV "Any"),pm "N.0" (nmV "Any")] (.tup [.str "name",.str "AbstractArray",.tup [(varV "T.0"),(varV "N.0")]]) false true [],
 dk "AbstractRange" [pm "T.0" (nmV "Any")] (.tup [.str "name",.str "AbstractArray",.tup [(varV "T.0"),.tup [.str "n",.int 1]]]) true false [],
 dk "UnitRange" [pm "T.0" (nmV "Any")] (.tup [.str "name",.str "AbstractRange",.tup [(varV "T.0")]]) false false [fd "start" (varV "T.0"),fd "stop" (varV "T.0")],
 dk "StepRange" [pm "T.0" (nmV "Any")] (.tup [.str "name",.str "AbstractRange",.tup [(varV "T.0")]]) false false [fd "start" (varV "T.0"),fd "step" (varV "T.0"),fd "stop" (varV "T.0")],
 dk "Ref" [pm "T.0" (nmV "Any")] (nmV "Any") false true [fd "x" (varV "T.0")],
 dk "Rational" [pm "T.0" (nmV "Integer")] (nmV "Real") false false [fd "num" (varV "T.0"),fd "den" (varV "T.0")]]
noncomputable def B1:O:=.dict declKs declVs
noncomputable def B2:O:=.recd 4 [.ref 1]
noncomputable def base (k:O) (τ:H):H:=k :: B1 :: B2 :: τ
noncomputable def kobj:V:=.obj 4 2
theorem kindsMade (k:O) (d:Nat):evCall P 8000 (d + 20) 55 [] [k] = some (kobj,base k []):=by kernel_rfl
noncomputable def supV:At→List V
 | .i64=>[nmV "Int64",nmV "Signed",nmV "Integer",nmV "Real",nmV "Number",nmV "Any"]
 | .bo=>[nmV "Bool",nmV "Integer",nmV "Real",nmV "Number",nmV "Any"]
 | .st=>[nmV "String",nmV "AbstractString",nmV "Any"]
 | .int=>[nmV "Integer",nmV "Real",nmV "Number",nmV "Any"]
 | .real=>[nmV "Real",nmV "Number",nmV "Any"]
 | .ai=>[enc .ai,.tup [.str "name",.str "AbstractArray",.tup [enc .i64,enc .n1]],nmV "Any"]
 | .an=>[enc .an,.tup [.str "name",.str "AbstractArray",.tup [enc .int,enc .n1]],nmV "Any"]
 | .sa=>[enc .sa,.tup [.str "name",.str "AbstractArray",.tup [enc .st,enc .n1]],nmV "Any"]
 | .ar1=>[enc .ar1,.tup [.str "name",.str "AbstractArray",.tup [enc .v1,enc .n1]],nmV "Any"]
 | _=>[]
noncomputable def hasSup (a:At):Bool:=!(supV a).isEmpty
theorem supers_ok (a:At) (h:hasSup a = true) (k:O) (τ:H) (d:Nat):evCall P 8000 (d + 20) 52 [kobj,enc a] (base k τ) = some (.lst (supV a),base k τ):=
 tab1 hasSup (λa=>evCall P 8000 (d + 20) 52 [kobj,enc a] (base k τ)) (λa=>some (.lst (supV a),base k τ)) (by kernel_rfl) a h
inductive Ko where
 | at (a:At)
 | tup (l:List At) (r:Option At)
 | all (u:At) (l:List At) (r:Option At)
noncomputable def optV (r:Option At):V:=r.casesOn .none enc
noncomputable def tupV (l:List At) (r:Option At):V:=.tup [.str "tuple",.tup (encs l),optV r]
noncomputable def tlO (k:Ko):List V:=k.casesOn tl (λl r=>[.str "tuple",.tup (encs l),optV r]) λu l r=>[.str "all",.str "T.8",botV,enc u,tupV l r]
noncomputable def encO (k:Ko):V:=.tup (tlO k)
structure Goal where
 same:Bool
 a:Ko
 b:Ko
noncomputable def gw (b:Bool):Str:=cond b "same" "sub"
noncomputable def encG (g:Goal):V:=glV (gw g.same) (encO g.a) (encO g.b)
noncomputable def encGs (l:List Goal):List V:=l.map encG
noncomputable def encW (l:List (List Goal)):List V:=l.map λw=>.lst (encGs w)
noncomputable def sub (a b:At):Goal:=⟨false,.at a,.at b⟩
noncomputable def same (a b:At):Goal:=⟨true,.at a,.at b⟩
structure SearchAt (σ:H) (s:Nat) (f:Int) (q:V):Prop where
 is:σ[s]? = some (.recd 2 [kobj,.int f,q])
noncomputable def SearchAt.f {σ:H} {s:Nat} {f:Int} {q:V} (h:SearchAt σ s f q):Fct:=fO h.is
noncomputable def IsB (σ:H):Prop:=∃ k τ,σ = base k τ
theorem IsB.b2 {σ:H} (h:IsB σ):σ[2]? = some (.recd 4 [.ref 1]):=by obtain ⟨k,τ,rfl⟩:=h; rfl
noncomputable def IsB.f {σ:H} (h:IsB σ):Fct:=fO h.b2
theorem IsB.sup {σ:H} (h:IsB σ) (a:At) (ha:hasSup a = true) (d:Nat):evCall P 8000 (d + 20) 52 [kobj,enc a] σ = some (.lst (supV a),σ):=by
 obtain ⟨k,τ,rfl⟩:=h
 exact supers_ok a ha k τ d
noncomputable def IsB.supF {σ:H} (hB:IsB σ) (d:Nat) (a:At):Fct:=if h:hasSup a = true then fC (hB.sup a h d) else fT (rfl:true = true)
noncomputable def look (l:List (At×At)) (a:At):Option At:=(l.find? λp=>decide (p.1 = a)).map (·.2)
noncomputable def arIt:At→Option At:=look [(.ai,.i64),(.an,.int),(.sa,.st),(.ar0,.v0),(.ar1,.v1),(.ar2,.v2)]
noncomputable def isNm (a:At):Bool:=wd a == "name"
noncomputable def chains:List (At×At):=[(.i64,.i64),(.i64,.int),(.i64,.real),(.bo,.bo),(.bo,.int),(.bo,.real),(.st,.st),(.int,.int),(.int,.real),(.real,.real)]
noncomputable def chain (a b:At):Bool:=decide ((a,b) ∈ chains)
noncomputable def nomG (a b:At):List (List Goal):=match arIt a,arIt b with
 | some x,some y=>[[same x y,same .n1 .n1]]
 | none,none=>if chain a b then [[]] else []
 | _,_=>[]
noncomputable def nmL?:List At:=[.i64,.bo,.st,.int,.real,.ai,.an,.sa,.ar0,.ar1,.ar2]
noncomputable def nm? (a:At):Bool:=decide (a ∈ nmL?)
theorem nominal_ok {σ:H} {s:Nat} {f:Int} {q:V} (hB:IsB σ) (h:SearchAt σ s f q) (d:Nat) (a b:At) (ha:hasSup a = true) (hb:nm? b = true) :
 evCall P 8000 (d + 21) 37 [.obj 2 s,enc a,enc b] σ = some (.lst (encW (nomG a b)),σ):=
 rn (.c 1 h.f <| .c 0 hB.f <| .c 0 (hB.supF d a) .e) (tabP (λa b=>hasSup a && nm? b) (λa b=>rC (d + 20) 37 [.obj 2 s,enc a,enc b] σ (.c 1 h.f <| .c 0 hB.f <| .c 0 (hB.supF d a) .e)) (λa b=>some ((.lst (encW (nomG a b)),σ),.e,As.log (.c 1 h.f <| .c 0 hB.f <| .c 0 (hB.supF d a) .e))) (by kernel_rfl) a b (Bool.and_eq_true_iff.mpr ⟨ha,hb⟩))
noncomputable def tuIt:At→Option At:=look [(.ti,.i64),(.tb,.bo),(.tv0,.v0),(.tv1,.v1),(.tv2,.v2)]
noncomputable def plL:List At:=[.i64,.bo,.st,.ai,.an,.sa,.ti,.tb,.int,.real,.ar1,.ar2,.tv1,.tv2]
noncomputable def pl? (a:At):Bool:=decide (a ∈ plL)
noncomputable def plainG (a b:At):Option (List (List Goal)):=cond (nm? a && nm? b) (cond (hasSup a) (some (nomG a b)) none) (some (b1 (tuIt a) (λx=>b1 (tuIt b) λy=>some [[sub x y]]) |>.getD []))
theorem words_nm:(allAt.map λa=>(allAt.filter λb=>nm? a && nm? b).map λb=>eqOp (.tup [.str (wd a),.str (wd b)]) (.tup [.str "name",.str "name"])) = allAt.map λa=>(allAt.filter λb=>nm? a && nm? b).map λb=>some true:=by kernel_rfl
theorem plain_ok {σ:H} {s:Nat} {f:Int} {q:V} (hB:IsB σ) (h:SearchAt σ s f q) (d:Nat) (a b:At) (w:List (List Goal)) (ha:pl? a = true) (hb:pl? b = true) (hw:plainG a b = some w) :
 evCall P 8000 (d + 22) 36 [.obj 2 s,enc a,enc b] σ = some (.lst (encW w),σ):=by
 cases hnn:nm? a && nm? b with
 | true=>
  unfold plainG at hw
  rw [hnn] at hw
  cases hs:hasSup a with
  | true=>
   rw [hs] at hw
   rw [← Option.some.inj hw]
   exact rn (.c 0 (idx0F a) <| .c 0 (idx0F b) <| .c 0 (fB (tabP (λa b=>nm? a && nm? b) (λa b=>eqOp (V.tup [V.str (wd a),V.str (wd b)]) (V.tup [V.str (Str.ofString "name"),V.str (Str.ofString "name")])) (λa b=>some true) words_nm a b hnn)) <| .c 1 (SearchAt.f h) <| .c 0 (fC (nominal_ok hB h d a b hs (Bool.and_eq_true_iff.mp hnn).right)) <| .e) (by kernel_rfl)
  | false=>rw [hs] at hw; exact nn hw
 | false=>
  exact (tabP (λa b=>pl? a && (pl? b && !(nm? a && nm? b))) (λa b=>ev (d + 22) 36 [.obj 2 s,enc a,enc b] σ) (λa b=>(plainG a b).map λw=>(V.lst (encW w),σ)) (by kernel_rfl) a b (by rw [ha,hb,hnn]; rfl)).trans (congrArg _ hw)
noncomputable def unPs:List (At×At×At):=[(.us0,.st,.v0),(.ua0,.ar0,.v0),(.ui0,.int,.tv0),(.us1,.st,.v1),(.ua1,.ar1,.v1),(.ui1,.int,.tv1),(.us2,.st,.v2),(.ua2,.ar2,.v2),(.ui2,.int,.tv2)]
noncomputable def unP (a:At):Option (At×At):=(unPs.find? λp=>decide (p.1 = a)).map (·.2)
noncomputable def upper (S:Rows) (j:Nat):At:=(rowAt S j).up.headD .any
noncomputable def byFormG (S:Rows) (a b:At):Option (List (List Goal)):=(unP a).casesOn
 ((unP b).casesOn
  ((isV a).casesOn (cond (pl? a && pl? b) (plainG a b) none) λj=>(isV b).casesOn (some (if upper S j = .any then [] else [[sub (upper S j) b]])) λ_=>none)
  fun p=>(isV a).casesOn (some [[sub a p.1],[sub a p.2]]) λj=>some [[sub a p.1],[sub a p.2],[sub (upper S j) b]])
 fun p=>some [[sub p.1 b,sub p.2 b]]
theorem eq_any (a:At) {b:Bool} (h:decide (a = .any) = b):eqOp (enc a) (.tup [.str "name",.str "Any",.tup []]) = some b:=(eqOp_enc a .any).trans (congrArg some h)
theorem eqOp_nil (a:At) (l:List At):eqOp (.tup (encs (a :: l))) (.tup []) = some false:=
 (congrArg (λb=>gd b (some false)) (show (PyData.canLayAll0 (pys (encs (a :: l))) && (true && Nat.ble (min (py (.tup (encs (a :: l)))).depth 1) 60)) = true from Bool.and_eq_true_iff.mpr ⟨lay_pys (a :: l),Bool.and_eq_true_iff.mpr ⟨rfl,Nat.ble_eq_true_of_le (Nat.le_trans (Nat.min_le_right _ _) (by decide))⟩⟩):_)
theorem upper_ok (r:Row) (d:Nat) (σ:H):evCall P 8000 (d + 21) 12 [encR r] σ = some (enc (r.up.headD .any),σ):=by
 obtain ⟨k,n,lo,up,dg⟩:=r
 cases up with
 | nil=>exact rn (.e) (by kernel_rfl)
 | cons a l=>exact rn (.c 0 (fB (eqOp_nil a l)) <| .e) (by kernel_rfl)
theorem wd_nu {a:At} (h:unP a = none):(wd a == "union") = false:=tab1 (λa=>(unP a).isNone) (λa=>wd a == "union") (λ_=>false) (by kernel_rfl) a (congrArg Option.isNone h)
theorem wd_na (a:At):(wd a == "all") = false:=tab1 (λ_=>true) (λa=>wd a == "all") (λ_=>false) (by kernel_rfl) a rfl
theorem idx1u {a:At} {p:At×At} (h:unP a = some p):idxOp (enc a) (.int 1) = some (.tup [enc p.1,enc p.2]):=
 (tab1 (λa=>(unP a).isSome) (λa=>idxOp (enc a) (.int 1)) (λa=>(unP a).map λp=>.tup [enc p.1,enc p.2]) (by kernel_rfl) a (congrArg Option.isSome h)).trans (congrArg _ h)
theorem wd_u {a:At} {p:At×At} (h:unP a = some p):(wd a == "union") = true:=tab1 (λa=>(unP a).isSome) (λa=>wd a == "union") (λ_=>true) (by kernel_rfl) a (congrArg Option.isSome h)
theorem pl_nv {a:At} (h:pl? a = true):(wd a == "var") = false:=tab1 pl? (λa=>wd a == "var") (λ_=>false) (by kernel_rfl) a h
theorem byForm_ok {S:Rows} {σ:H} {o r s:Nat} {f:Int} {q:V} (hB:IsB σ) (h:SearchAt σ s f q) (hs:SidesAt σ o r S) (d:Nat) (hS:S.length ≤ 2) (a b:At) (w:List (List Goal)) (hw:byFormG S a b = some w) :
 evCall P 8000 (d + 24) 34 [.obj 2 s,enc a,enc b,.obj 1 o] σ = some (.lst (encW w),σ):=by
 unfold byFormG at hw
 cases hua:unP a with
 | some p=>
  rw [hua] at hw
  rw [← Option.some.inj hw]
  exact rn (.c 0 (idx0F a) <| .c 0 (wUni a (wd_u hua)) <| .c 2 (fV (idx1u hua)) <| .e) (by kernel_rfl)
 | none=>
  rw [hua] at hw
  cases hub:unP b with
  | some p=>
   rw [hub] at hw
   cases hva:isV a with
   | some j=>
    rw [hva] at hw
    rw [← Option.some.inj hw]
    exact rn (.c 0 (idx0F a) <| .c 0 (wUni a (wd_nu hua)) <| .c 1 (idx0F a) <| .c 0 (wAll a (wd_na a)) <| .c 1 (idx0F b) <| .c 0 (wUni b (wd_u hub)) <| .c 2 (fV (idx1u hub)) <| .c 2 (idx0F a) <| .c 0 (wVar a (isV_wd hva)) <| .c 1 (SidesAt.fo hs) <| .c 0 (fV (idx1v hva)) <| .c 0 (fC (side_ok hs (d + 2) j hS (isV_le hva))) <| .c 0 (fC (upper_ok (rowAt S j) (d + 2) σ)) <| .e) (by kernel_rfl)
   | none=>
    rw [hva] at hw
    rw [← Option.some.inj hw]
    exact rn (.c 0 (idx0F a) <| .c 0 (wUni a (wd_nu hua)) <| .c 1 (idx0F a) <| .c 0 (wAll a (wd_na a)) <| .c 1 (idx0F b) <| .c 0 (wUni b (wd_u hub)) <| .c 2 (fV (idx1u hub)) <| .c 2 (idx0F a) <| .c 0 (wVar a (wd_nv hva)) <| .e) (by kernel_rfl)
  | none=>
   rw [hub] at hw
   cases hva:isV a with
   | some j=>
    rw [hva] at hw
    cases hvb:isV b with
    | some i=>rw [hvb] at hw; exact nn hw
    | none=>
     rw [hvb] at hw
     rw [← Option.some.inj hw]
     by_cases hu:upper S j = .any
     · rw [if_pos hu]
       exact rn (.c 0 (idx0F a) <| .c 0 (wUni a (wd_nu hua)) <| .c 1 (idx0F a) <| .c 0 (wAll a (wd_na a)) <| .c 1 (idx0F b) <| .c 0 (wUni b (wd_nu hub)) <| .c 1 (idx0F b) <| .c 0 (wAll b (wd_na b)) <| .c 1 (idx0F a) <| .c 0 (wVar a (isV_wd hva)) <| .c 1 (SidesAt.fo hs) <| .c 0 (fV (idx1v hva)) <| .c 0 (fC (side_ok hs (d + 2) j hS (isV_le hva))) <| .c 0 (fC (upper_ok (rowAt S j) (d + 2) σ)) <| .c 0 (fB (eq_any (upper S j) (decide_eq_true hu))) <| .c 1 (idx0F b) <| .c 0 (wVar b (wd_nv hvb)) <| .e) (by kernel_rfl)
     · rw [if_neg hu]
       exact rn (.c 0 (idx0F a) <| .c 0 (wUni a (wd_nu hua)) <| .c 1 (idx0F a) <| .c 0 (wAll a (wd_na a)) <| .c 1 (idx0F b) <| .c 0 (wUni b (wd_nu hub)) <| .c 1 (idx0F b) <| .c 0 (wAll b (wd_na b)) <| .c 1 (idx0F a) <| .c 0 (wVar a (isV_wd hva)) <| .c 1 (SidesAt.fo hs) <| .c 0 (fV (idx1v hva)) <| .c 0 (fC (side_ok hs (d + 2) j hS (isV_le hva))) <| .c 0 (fC (upper_ok (rowAt S j) (d + 2) σ)) <| .c 0 (fB (eq_any (upper S j) (decide_eq_false hu))) <| .c 1 (idx0F b) <| .c 0 (wVar b (wd_nv hvb)) <| .e) (by kernel_rfl)
   | none=>
    rw [hva] at hw
    cases hp:pl? a && pl? b with
    | true=>
     rw [hp] at hw
     have hp:=Bool.and_eq_true_iff.mp hp
     exact rn (.c 0 (idx0F a) <| .c 0 (wUni a (wd_nu hua)) <| .c 1 (idx0F a) <| .c 0 (wAll a (wd_na a)) <| .c 1 (idx0F b) <| .c 0 (wUni b (wd_nu hub)) <| .c 1 (idx0F b) <| .c 0 (wAll b (wd_na b)) <| .c 1 (idx0F a) <| .c 0 (wVar a (wd_nv hva)) <| .c 1 (idx0F b) <| .c 0 (wVar b (pl_nv hp.right)) <| .c 1 (SearchAt.f h) <| .c 0 (fC (plain_ok hB h (d + 1) a b w hp.left hp.right hw)) <| .e) (by kernel_rfl)
    | false=>rw [hp] at hw; exact nn hw
noncomputable def belowG (S:Rows) (j:Nat) (a:At):List (List Goal)×Rows:=
 if hw j a then ([],S) else if a ∈ (rowAt S j).up then ([[]],S) else ([(rowAt S j).lo.map λl=>sub l a],addUp S j a)
noncomputable def aboveG (S:Rows) (j:Nat) (a:At):List (List Goal)×Rows:=
 if hw j a then ([],S) else if a ∈ (rowAt S j).lo then ([[]],S) else ([(rowAt S j).up.map λu=>sub a u],addLo S j a)
theorem map_goals {f:At→Goal} {e:At→V} (h:∀ x,encG (f x) = e x):∀ l:List At,l.map e = encGs (l.map f)
 | []=>rfl
 | x :: l=>congr (congrArg List.cons (h x).symm) (map_goals h l)
theorem belowG_ok (S:Rows) (j:Nat) (a:At):below S j a = (encW (belowG S j a).1,(belowG S j a).2):=by
 unfold below belowG
 cases hw j a
 · by_cases h:a ∈ (rowAt S j).up
   · rw [if_pos h,if_pos h]; rfl
   · rw [if_neg h,if_neg h]; exact congrArg (λl=>([V.lst l],addUp S j a)) (map_goals (f:=λl=>sub l a) (λ_=>rfl) _)
 · rfl
theorem aboveG_ok (S:Rows) (j:Nat) (a:At):above S j a = (encW (aboveG S j a).1,(aboveG S j a).2):=by
 unfold above aboveG
 cases hw j a
 · by_cases h:a ∈ (rowAt S j).lo
   · rw [if_pos h,if_pos h]; rfl
   · rw [if_neg h,if_neg h]; exact congrArg (λl=>([V.lst l],addLo S j a)) (map_goals (f:=λl=>sub a l) (λ_=>rfl) _)
 · rfl
noncomputable def fits (S:Rows) (j:Nat) (k:At):Bool:=later S k j && (Nat.ble 1 j && (Nat.ble j S.length && (Nat.ble (rowAt S j).up.length 3000 && Nat.ble (rowAt S j).lo.length 3000)))
noncomputable def isN1 (a b:At):Bool:=decide (a = .n1) || decide (b = .n1)
noncomputable def stepA (S:Rows) (sm:Bool) (a b:At):Option (List (List Goal)×Rows):=
 cond (decide (a = b)) (some ([[]],S)) (cond (isN1 a b) none (cond sm (some ([[sub a b,sub b a]],S)) (cond (decide (b = .any)) none
  (cond (asked S a) (b1 (isV a) λj=>cond (fits S j b) (some (belowG S j b)) none)
  (cond (asked S b) (b1 (isV b) λj=>cond (fits S j a) (some (aboveG S j a)) none) (b1 (byFormG S a b) λw=>some (w,S)))))))
theorem n_in (a b:At) {c:Bool} (h:isN1 a b = c):isInOp (.str "n") (.tup [.str (wd a),.str (wd b)]) = some c:=
 (tabL (λa b=>isInOp (.str "n") (.tup [.str (wd a),.str (wd b)])) (λa b=>some (isN1 a b)) (by kernel_rfl) (mem_allAt a) (mem_allAt b)).trans (congrArg some h)
theorem cond_f {α:Type} {b:Bool} {x:Option α} {r:α} (h:cond b x none = some r):b = true∧x = some r:=b.casesOn (motive:=λb=>cond b x none = some r→b = true∧x = some r) nn (λh=>⟨rfl,h⟩) h
theorem fits_ok {S:Rows} {j:Nat} {k:At} (h:fits S j k = true):later S k j = true∧1 ≤ j∧j ≤ S.length∧(rowAt S j).up.length ≤ 3000∧(rowAt S j).lo.length ≤ 3000:=by
 have h1:=Bool.and_eq_true_iff.mp h
 have h2:=Bool.and_eq_true_iff.mp h1.2
 have h3:=Bool.and_eq_true_iff.mp h2.2
 have h4:=Bool.and_eq_true_iff.mp h3.2
 exact ⟨h1.1,Nat.le_of_ble_eq_true h2.1,Nat.le_of_ble_eq_true h3.1,Nat.le_of_ble_eq_true h4.1,Nat.le_of_ble_eq_true h4.2⟩
theorem eq_enc (a b:At) {c:Bool} (h:decide (a = b) = c):eqOp (enc a) (enc b) = some c:=(eqOp_enc a b).trans (congrArg some h)
theorem stepA_ok {S S':Rows} {σ:H} {o r s:Nat} {f:Int} {q:V} (hB:IsB σ) (h:SearchAt σ s f q) (hs:SidesAt σ o r S) (d:Nat) (hS:S.length ≤ 2) (sm:Bool) (a b:At) (w:List (List Goal)) (hw:stepA S sm a b = some (w,S')) :
 evCall P 8000 (d + 25) 31 [.obj 2 s,glV (gw sm) (enc a) (enc b),.obj 1 o] σ = some (.lst (encW w),setRows σ r S'):=by
 unfold stepA at hw
 cases hab:decide (a = b) with
 | true=>
  rw [hab] at hw
  refine pr_is (M:=λw S'=>_ = some (V.lst (encW w),setRows σ r S')) hw (keep hs ?_)
  exact rn (.c 0 (fB (eq_enc a b hab)) <| .e) (by kernel_rfl)
 | false=>
  rw [hab] at hw
  cases hn:isN1 a b with
  | true=>rw [hn] at hw; exact nn hw
  | false=>
   rw [hn] at hw
   cases sm with
   | true=>
    refine pr_is (M:=λw S'=>_ = some (V.lst (encW w),setRows σ r S')) hw (keep hs ?_)
    exact rn (.c 0 (fB (eq_enc a b hab)) <| .c 1 (idx0F a) <| .c 0 (idx0F b) <| .c 0 (fB (n_in a b hn)) <| .e) (by kernel_rfl)
   | false=>
    cases hany:decide (b = .any) with
    | true=>rw [hany] at hw; exact nn hw
    | false=>
     rw [hany] at hw
     cases hka:asked S a with
     | true=>
      rw [hka] at hw
      refine b1_is hw λj hva hw=>?_
      obtain ⟨hf,hw⟩:=cond_f hw
      obtain ⟨f1,f2,f3,f4,f5⟩:=fits_ok hf
      have hbe:=below_ok hs d (.obj 2 s) hS b j f2 f3 f1 f4 f5
      rw [belowG_ok,Option.some.inj hw] at hbe
      exact rn (.c 0 (fB (eq_enc a b hab)) <| .c 1 (idx0F a) <| .c 0 (idx0F b) <| .c 0 (fB (n_in a b hn)) <| .c 3 (fC (em_ok a (d + 4) σ)) <| .c 1 (fB (eq_any b hany)) <| .c 1 (SidesAt.fo hs) <| .c 0 (fC (isAsked_ok hs (d + 2) hS a)) <| .c 0 (fT hka) <| .c 0 (SearchAt.f h) <| .c 0 (fV (idx1v hva)) <| .c 0 (fC hbe) <| .e) (by kernel_rfl)
     | false=>
      rw [hka] at hw
      cases hkb:asked S b with
      | true=>
       rw [hkb] at hw
       refine b1_is hw λj hvb hw=>?_
       obtain ⟨hf,hw⟩:=cond_f hw
       obtain ⟨f1,f2,f3,f4,f5⟩:=fits_ok hf
       have hbe:=above_ok hs d (.obj 2 s) hS a j f2 f3 f1 f4 f5
       rw [aboveG_ok,Option.some.inj hw] at hbe
       exact rn (.c 0 (fB (eq_enc a b hab)) <| .c 1 (idx0F a) <| .c 0 (idx0F b) <| .c 0 (fB (n_in a b hn)) <| .c 3 (fC (em_ok a (d + 4) σ)) <| .c 1 (fB (eq_any b hany)) <| .c 1 (SidesAt.fo hs) <| .c 0 (fC (isAsked_ok hs (d + 2) hS a)) <| .c 0 (fT hka) <| .c 0 (SidesAt.fo hs) <| .c 0 (fC (isAsked_ok hs (d + 2) hS b)) <| .c 0 (fT hkb) <| .c 0 (SearchAt.f h) <| .c 0 (fV (idx1v hvb)) <| .c 0 (fC hbe) <| .e) (by kernel_rfl)
      | false=>
       rw [hkb] at hw
       refine b1_is hw λw' hbf hw=>?_
       refine pr_is (M:=λw S'=>_ = some (V.lst (encW w),setRows σ r S')) hw (keep hs ?_)
       exact rn (.c 0 (fB (eq_enc a b hab)) <| .c 1 (idx0F a) <| .c 0 (idx0F b) <| .c 0 (fB (n_in a b hn)) <| .c 3 (fC (em_ok a (d + 4) σ)) <| .c 1 (fB (eq_any b hany)) <| .c 1 (SidesAt.fo hs) <| .c 0 (fC (isAsked_ok hs (d + 2) hS a)) <| .c 0 (fT hka) <| .c 0 (SidesAt.fo hs) <| .c 0 (fC (isAsked_ok hs (d + 2) hS b)) <| .c 0 (fT hkb) <| .c 0 (SearchAt.f h) <| .c 0 (fC (byForm_ok hB h hs d hS a b w' hbf)) <| .e) (by kernel_rfl)
noncomputable def mbL0:List At:=[.int,.st,.v0,.ar0,.us0,.ua0,.ui0,.tv0]
noncomputable def mb? (a:At):Bool:=decide (a ∈ mbL0)
noncomputable def sbL:Nat→List (At×At)
 | 1=>[(.v0,.v1),(.ar0,.ar1),(.us0,.us1),(.ua0,.ua1),(.ui0,.ui1),(.tv0,.tv1)]
 | _=>[(.v0,.v2),(.ar0,.ar2),(.us0,.us2),(.ua0,.ua2),(.ui0,.ui2),(.tv0,.tv2)]
noncomputable def sb (i:Nat) (a:At):At:=(look (sbL i) a).getD a
theorem sb_ok (i:Nat) (hi:i = 1∨i = 2) (a:At) (ha:mb? a = true) (d:Nat) (σ:H):evCall P 8000 (d + 20) 5 [enc a,.dct [key 0] [.tup [.str "var",.str (key i)]]] σ = some (enc (sb i a),σ):=by
 exact tab1 mb? (λa=>evCall P 8000 (d + 20) 5 [enc a,.dct [key 0] [.tup [.str "var",.str (key i)]]] σ) (λa=>some (enc (sb i a),σ)) (by rcases hi with rfl | rfl <;> kernel_rfl) a ha
noncomputable def occ (a:At):Nat×Bool:=(cond (decide (a ∈ [At.v0,.us0,.ui0,.tv0,.ua0])) 1 0,decide (a ∈ [At.ar0,.ua0]))
theorem occ_ok (a:At) (ha:mb? a = true) (d:Nat) (σ:H):evCall P 8000 (d + 20) 22 [enc a,.str (key 0)] σ = some (.tup [.int (occ a).1,.bool (occ a).2],σ):=
 tab1 mb? (λa=>evCall P 8000 (d + 20) 22 [enc a,.str (key 0)] σ) (λa=>some (.tup [.int (occ a).1,.bool (occ a).2],σ)) (by kernel_rfl) a ha
noncomputable def mbs (l:List At) (r:Option At):Bool:=(l ++ r.toList).all mb?
theorem mbs_l {l:List At} {r:Option At} (h:mbs l r = true):∀ a ∈ l,mb? a = true:=λa ha=>List.all_eq_true.mp h a (List.mem_append_left _ ha)
theorem mbs_r {l:List At} {a:At} (h:mbs l (some a) = true):mb? a = true:=List.all_eq_true.mp h a (List.mem_append_right _ (.head _))
theorem len_encs (l:List At):(encs l).length = l.length:=List.length_map ..
theorem short_of {l:List V} (h:l.length ≤ 200):shortL l = true:=Nat.ble_eq_true_of_le (Nat.le_trans h (by decide))
theorem short_encs {l:List At} (h:l.length ≤ 200):shortL (encs l) = true:=short_of (Nat.le_trans (Nat.le_of_eq (len_encs l)) h)
theorem l2 {n:Nat} (h:n ≤ 100):n ≤ 200:=Nat.le_trans h (by decide)
theorem list_ok {l:List At} (h:l.length ≤ 100):biOp .list [.tup (encs l)] = some (.lst (encs l)):=congrArg (λb=>gd b (some (V.lst (encs l)))) (short_encs (l2 h))
theorem len_ok {l:List At} (h:l.length ≤ 100):biOp .len [.tup (encs l)] = some (.int l.length):=(congrArg (λb=>gd b (some (V.int (encs l).length))) (short_encs (l2 h))).trans (congrArg (λn:Nat=>some (V.int n)) (len_encs l))
theorem tup_ok {l:List At} (h:l.length ≤ 100):biOp .tuple [.lst (encs l)] = some (.tup (encs l)):=congrArg (λb=>gd b (some (V.tup (encs l)))) (short_encs (l2 h))
theorem add_vs {l m:List V} (h:l.length ≤ 200) (h':m.length ≤ 200):binOp .add (.lst l) (.lst m) = some (.lst (l ++ m)):=congrArg (λb=>gd b (some (V.lst (l ++ m)))) (Bool.and_eq_true_iff.mpr ⟨short_of h,short_of h'⟩)
theorem add_l {l:List At} (h:l.length ≤ 100) (r:Option At):binOp .add (.lst (encs l)) (.lst (encs r.toList)) = some (.lst (encs (l ++ r.toList))):=
 (add_vs (Nat.le_trans (Nat.le_of_eq (len_encs l)) (l2 h)) (by cases r <;> exact Nat.le_of_ble_eq_true rfl)).trans (congrArg (λl=>some (V.lst l)) (List.map_append (f:=enc) (l₁:=l) (l₂:=r.toList)).symm)
theorem parts_ok (l:List At) (r:Option At) (hl:l.length ≤ 100) (d:Nat) (σ:H):evCall P 8000 (d + 21) 3 [tupV l r] σ = some (.lst (encs (l ++ r.toList)),σ):=by
 cases r with
 | none=>exact rn (.c 6 (fV (list_ok hl)) <| .c 2 (fV (add_l hl none)) <| .e) (by kernel_rfl)
 | some a=>exact rn (.c 6 (fV (list_ok hl)) <| .c 3 (fV (add_l hl (some a))) <| .e) (by kernel_rfl)
theorem small_n {n:Nat} (h:n ≤ 200):small (n:Int) = true:=Bool.and_eq_true_iff.mpr ⟨decide_eq_true (by omega),decide_eq_true (by omega)⟩
theorem place_n {l:List V} {n:Nat} {v:V} (h:n ≤ 200) (e:l[n]? = some v):place l (n:Int) = some v:=
 by unfold place; rw [small_n h,gd_true,if_pos (Int.natCast_nonneg n)]; exact e
theorem idx_l (l:List V) (k:Int):idxOp (.lst l) (.int k) = place l k:=rfl
theorem idx_t (l:List V) (k:Int):idxOp (.tup l) (.int k) = place l k:=rfl
theorem slc_v {z:List V} (n:Nat) (hz:z.length ≤ 200) (hn:n ≤ 200):slcOp .upto (.lst z) (.int n) = some (.lst (z.take n)):=
 congrArg (λb=>gd b (some (V.lst (z.take n)))) (Bool.and_eq_true_iff.mpr ⟨short_of hz,Bool.and_eq_true_iff.mpr ⟨decide_eq_true (Int.natCast_nonneg n),decide_eq_true (by omega)⟩⟩)
theorem optL (r:Option At):r.toList.length ≤ 1:=by cases r <;> exact Nat.le_of_ble_eq_true rfl
theorem slcUp_ok {m:List At} (r:Option At) {n:Nat} (hn:n ≤ 100) (hm:m.length = n):slcOp .upto (.lst (encs (m ++ r.toList))) (.int n) = some (.lst (encs m)):=
 (slc_v n (by rw [len_encs,List.length_append]; have:=optL r; omega) (l2 hn)).trans (congrArg (λl=>some (V.lst l)) (by unfold encs; rw [← List.map_take,← hm,List.take_left']; rfl))
theorem idxr_ok {m:List At} (b:At) {n:Nat} (hn:n ≤ 100) (hm:m.length = n):idxOp (.lst (encs (m ++ [b]))) (.int n) = some (enc b):=by
 rw [idx_l]
 refine place_n (l2 hn) ?_
 unfold encs
 rw [List.getElem?_map,← hm,List.getElem?_concat_length]
 rfl
theorem rebuilt_ok (l m:List At) (r r':Option At) (hl:l.length ≤ 100) (hm:m.length = l.length) (hr:r.isSome = r'.isSome) (d:Nat) (σ:H) :
 evCall P 8000 (d + 21) 4 [tupV l r,.lst (encs (m ++ r'.toList))] σ = some (tupV m r',σ):=by
 have hm':m.length ≤ 100:=hm ▸ hl
 cases r with
 | none=>
  cases r' with
  | some _=>exact nomatch hr
  | none=>exact rn (.c 6 (fV (len_ok hl)) <| .c 0 (fV (slcUp_ok none hl hm)) <| .c 0 (fV (tup_ok hm')) <| .e) (by kernel_rfl)
 | some a=>
  cases r' with
  | none=>exact nomatch hr
  | some b=>exact rn (.c 6 (fV (len_ok hl)) <| .c 0 (fV (slcUp_ok (some b) hl hm)) <| .c 0 (fV (tup_ok hm')) <| .c 2 (fV (idxr_ok b hl hm)) <| .e) (by kernel_rfl)
theorem map_map {f:At→At} {l:List At}:l.map (λa=>enc (f a)) = encs (l.map f):=by unfold encs; rw [List.map_map]; rfl
theorem sbs_ok (i:Nat) (hi:i = 1∨i = 2) (l:List At) (r:Option At) (hl:l.length ≤ 100) (hm:mbs l r = true) (d:Nat) (σ:H) :
 evCall P 8000 (d + 22) 5 [tupV l r,.dct [key 0] [.tup [.str "var",.str (key i)]]] σ = some (tupV (l.map (sb i)) (r.map (sb i)),σ):=by
 have h1:=parts_ok l r hl d σ
 cases hz:l ++ r.toList with
 | nil=>
  cases l with
  | nil=>cases r with
   | none=>exact rn (.c 6 (fC h1) <| .e) (by kernel_rfl)
   | some _=>exact nomatch hz
  | cons _ _=>exact nomatch hz
 | cons a z=>
  have h2:=rebuilt_ok l (l.map (sb i)) r (r.map (sb i)) hl (List.length_map ..) (by cases r <;> rfl) d σ
  have h4:l.map (sb i) ++ (r.map (sb i)).toList = (l ++ r.toList).map (sb i):=by cases r <;> simp
  rw [h4] at h2
  have hlen:(l ++ r.toList).length ≤ 4000:=by rw [List.length_append]; have:=optL r; omega
  have hc:evE (ev (d + 21)) c_sub (setV (rho0 [tupV l r,.dct [key 0] [.tup [.str "var",.str (key i)]]] 6) 4 (.lst (encs (l ++ r.toList)))) σ = some (.lst (encs ((l ++ r.toList).map (sb i))),σ):=
   (comp1 (l:=l ++ r.toList) enc (λa=>enc (sb i a)) (by kernel_rfl) (by kernel_rfl) hlen (λx hx=>by exact rnE (.c 0 (fC (sb_ok i hi x (List.all_eq_true.mp hm x hx) (d + 1) σ)) <| .e) (by kernel_rfl))).trans (congrArg (λl=>some (V.lst l,σ)) map_map)
  have he:eqOp (.lst (encs (l ++ r.toList))) (.lst []) = some false:=by rw [hz]; rfl
  exact rn (.c 6 (fC h1) <| .c 0 (fB he) <| .c 1 (fC hc) <| .c 0 (fC h2) <| .e) (by kernel_rfl)
theorem ints_mapf (f:At→Int):∀ z:List At,ints? (z.map λa=>.int (f a)) = some (z.map f)
 | []=>rfl
 | a :: z=>congrArg (λo=>b1 o λq=>some (f a :: q)) (ints_mapf f z)
theorem lay_bools (f:At→Bool):∀ z:List At,PyData.canLayAll0 (pys (z.map λa=>.bool (f a))) = true
 | []=>rfl
 | a :: z=>lay_bools f z
theorem eqv_bb (x b:Bool):PyData.eqv (py (.bool x)) (py (.bool b)) = (x == b):=by cases x <;> cases b <;> rfl
theorem any_bools (f:At→Bool) (b:Bool):∀ z:List At,((pys (z.map λa=>.bool (f a))).any λy=>PyData.eqv y (py (.bool b))) = z.any λa=>f a == b
 | []=>rfl
 | a :: z=>congr (congrArg or (eqv_bb (f a) b)) (any_bools f b z)
theorem isIn_bools (f:At→Bool) (b:Bool) (z:List At):isInOp (.bool b) (.lst (z.map λa=>.bool (f a))) = some (z.any λa=>f a == b):=by
 have h:okPair (.lst (z.map λa=>.bool (f a))) (.bool b) = true:=Bool.and_eq_true_iff.mpr ⟨lay_bools f z,Bool.and_eq_true_iff.mpr ⟨rfl,Nat.ble_eq_true_of_le (Nat.le_trans (Nat.min_le_right _ _) (Nat.le_of_ble_eq_true rfl))⟩⟩
 show gd _ (some _) = _
 rw [h,any_bools]
 rfl
noncomputable def occZ (l:List At) (r:Option At):List At:=l ++ r.casesOn [] λa=>[a,a]
noncomputable def occS (z:List At):Nat:=(z.map λa=>(occ a).1).sum
noncomputable def occW (z:List At):Bool:=z.any λa=>(occ a).2
noncomputable def isDiag (l:List At) (r:Option At):Bool:=Nat.ble 2 (occS (occZ l r)) && !occW (occZ l r)
noncomputable def ocV (a:At):V:=.tup [.int (occ a).1,.bool (occ a).2]
theorem occ_le (a:At):(occ a).1 ≤ 1:=by show cond _ 1 0 ≤ 1; cases decide (a ∈ [At.v0,.us0,.ui0,.tv0,.ua0]) <;> exact Nat.le_of_ble_eq_true rfl
theorem sum_cast:∀ z:List At,(z.map λa=>((occ a).1:Int)).sum = ((occS z:Nat):Int)
 | []=>rfl
 | a :: z=>(congrArg (λn:Int=>((occ a).1:Int) + n) (sum_cast z)).trans (Int.natCast_add _ _).symm
theorem sum_ok (z:List At) (hz:z.length ≤ 200):biOp .sum [.lst (z.map λa=>.int ((occ a).1:Int))] = some (.int (occS z:Nat)):=by
 have h1:Nat.ble (z.map λa=>((occ a).1:Int)).length 4000 = true:=Nat.ble_eq_true_of_le (by rw [List.length_map]; omega)
 have h2:((z.map λa=>((occ a).1:Int)).all λi=>decide (0 ≤ i) && decide (i < 1000)) = true:=List.all_eq_true.mpr λi hi=>by
  obtain ⟨a,_,e⟩:=List.mem_map.mp hi
  have:=occ_le a
  exact Bool.and_eq_true_iff.mpr ⟨decide_eq_true (by omega),decide_eq_true (by omega)⟩
 show b1 (ints? _) _ = _
 rw [ints_mapf,b1_some,h1,h2,sum_cast]
 rfl
theorem occZ_len {l:List At} (r:Option At) (hl:l.length ≤ 100):(occZ l r).length ≤ 200:=by
 unfold occZ; rw [List.length_append]; cases r <;> exact Nat.le_trans (Nat.add_le_add_right hl _) (Nat.le_of_ble_eq_true rfl)
theorem c8 (z:List At) (hz:z.length ≤ 200) (C:Orc) (K:V) (σ:H):evE C c_oc8 (setV (setV (rho0 [K,.str (key 0)] 10) 2 (.str "tuple")) 3 (.lst (z.map ocV))) σ = some (.lst (z.map λa=>.int (occ a).1),σ):=
 comp1 ocV (λa=>.int (occ a).1) (by kernel_rfl) (by kernel_rfl) (Nat.le_trans hz (by decide)) λx _=>by kernel_rfl
theorem c9 (z:List At) (hz:z.length ≤ 200) (C:Orc) (K:V) (σ:H):evE C c_oc9 (setV (setV (rho0 [K,.str (key 0)] 10) 2 (.str "tuple")) 3 (.lst (z.map ocV))) σ = some (.lst (z.map λa=>.bool (occ a).2),σ):=
 comp1 ocV (λa=>.bool (occ a).2) (by kernel_rfl) (by kernel_rfl) (Nat.le_trans hz (by decide)) λx _=>by kernel_rfl
theorem cT (l:List At) (r:Option At) (hl:l.length ≤ 100) (hm:mbs l r = true) (d:Nat) (σ:H):evE (ev (d + 20)) c_ocT (setV (rho0 [tupV l r,.str (key 0)] 10) 2 (.str "tuple")) σ = some (.lst (l.map ocV),σ):=
 comp1 enc ocV (by kernel_rfl) (by kernel_rfl) (Nat.le_trans hl (by decide)) λx hx=>by exact rnE (.c 0 (fC (occ_ok x (mbs_l hm x hx) d σ)) <| .e) (by kernel_rfl)
theorem any_occW (z:List At):isInOp (.bool true) (.lst (z.map λa=>.bool (occ a).2)) = some (occW z):=(isIn_bools (λa=>(occ a).2) true z).trans (congrArg some (by unfold occW; simp))
noncomputable def two (n:Nat):Int:=if (n:Int) < 2 then n else 2
theorem occs_ok (l:List At) (r:Option At) (hl:l.length ≤ 100) (hm:mbs l r = true) (d:Nat) (σ:H) :
 evCall P 8000 (d + 21) 22 [tupV l r,.str (key 0)] σ = some (.tup [.int (two (occS (occZ l r))),.bool (occW (occZ l r))],σ):=by
 have hz:=occZ_len r hl
 cases r with
 | none=>
  have e:occZ l none = l:=List.append_nil l
  rw [e] at hz ⊢
  exact rn (.c 7 (fC (cT l none hl hm d σ)) <| .c 2 (fC (c8 l hz (evCall P 8000 (d + 20)) (tupV l none) σ)) <| .c 0 (fV (sum_ok l hz)) <| .c 1 (fC (c9 l hz (evCall P 8000 (d + 20)) (tupV l none) σ)) <| .c 0 (fB (any_occW l)) <| .e) (by kernel_rfl)
 | some a=>
  have hb:binOp .add (.lst (l.map ocV)) (.lst [ocV a,ocV a]) = some (.lst ((occZ l (some a)).map ocV)):=(add_vs (by rw [List.length_map]; exact l2 hl) (Nat.le_of_ble_eq_true rfl)).trans (congrArg (λl=>some (V.lst l)) (List.map_append (f:=ocV) (l₁:=l) (l₂:=[a,a])).symm)
  exact rn (.c 7 (fC (cT l (some a) hl hm d σ)) <| .c 3 (fC (occ_ok a (mbs_r hm) d σ)) <| .c 1 (fV hb) <| .c 0 (fC (c8 (occZ l (some a)) hz (evCall P 8000 (d + 20)) (tupV l (some a)) σ)) <| .c 0 (fV (sum_ok (occZ l (some a)) hz)) <| .c 1 (fC (c9 (occZ l (some a)) hz (evCall P 8000 (d + 20)) (tupV l (some a)) σ)) <| .c 0 (fB (any_occW (occZ l (some a)))) <| .e) (by kernel_rfl)
theorem two_gt (n:Nat):decide (1 < two n) = Nat.ble 2 n:=by
 unfold two
 rw [Bool.eq_iff_iff,decide_eq_true_iff,Nat.ble_eq]
 split <;> omega
theorem isDiagonal_ok (l:List At) (r:Option At) (hl:l.length ≤ 100) (hm:mbs l r = true) (d:Nat) (σ:H) :
 evCall P 8000 (d + 22) 23 [tupV l r,.str (key 0)] σ = some (.bool (isDiag l r),σ):=by
 have e:=two_gt (occS (occZ l r))
 unfold isDiag
 cases hb:Nat.ble 2 (occS (occZ l r)) with
 | true=>exact rn (.c 0 (fC (occs_ok l r hl hm d σ)) <| .c 0 (fT (Eq.trans e hb)) <| .e) (by kernel_rfl)
 | false=>exact rn (.c 0 (fC (occs_ok l r hl hm d σ)) <| .c 0 (fT (Eq.trans e hb)) <| .e) (by kernel_rfl)
theorem any_ff (z:List At):isInOp (.bool true) (.lst (z.map λa=>.bool false)) = some false:=(isIn_bools (λ_=>false) true z).trans (congrArg some (by simp))
theorem empty_ok (l:List At) (r:Option At) (hl:l.length ≤ 100) (d:Nat) (σ:H):evCall P 8000 (d + 21) 26 [tupV l r] σ = some (.bool false,σ):=by
 have hc:evE (ev (d + 20)) c_emp (rho0 [tupV l r] 2) σ = some (.lst (l.map λ_=>.bool false),σ):=comp1 enc (λ_=>.bool false) (by kernel_rfl) (by kernel_rfl) (Nat.le_trans hl (by decide)) λx _=>by exact rnE (.c 0 (fC (em_ok x d σ)) <| .e) (by kernel_rfl)
 exact rn (.c 3 (fC hc) <| .c 0 (fB (any_ff l)) <| .e) (by kernel_rfl)
theorem emptyAll_ok (u:At) (l:List At) (r:Option At) (hl:l.length ≤ 100) (d:Nat) (σ:H):evCall P 8000 (d + 22) 26 [encO (.all u l r)] σ = some (.bool false,σ):=by
 exact rn (.c 7 (fC (empty_ok l r hl d σ)) <| .e) (by kernel_rfl)
theorem tail_ok (l:List At) (r:Option At) (d:Nat) (σ:H):evCall P 8000 (d + 21) 27 [tupV l r] σ = some (optV r,σ):=by
 cases r with
 | none=>exact rn (.e) (by kernel_rfl)
 | some a=>exact rn (.c 3 (fC (em_ok a d σ)) <| .e) (by kernel_rfl)
theorem tupleOf_ok (l:List V) (r:V) (d:Nat) (σ:H):evCall P 8000 (d + 20) 1 [.tup l,r] σ = some (.tup [.str "tuple",.tup l,r],σ):=by
 exact rn (.e) (by kernel_rfl)
noncomputable def zipG (l:List At) (l':List At) (r':Option At):List Goal:=
 (List.range l.length).map λi=>sub (l.getD i .any) (if i < l'.length then l'.getD i .any else r'.getD .any)
noncomputable def twG (l:List At) (r:Option At) (l':List At) (r':Option At):List (List Goal):=
 cond (decide (l.length < l'.length) || (r'.isNone && (!r.isNone || decide (l'.length < l.length)))) []
 [zipG l l' r' ++ r.casesOn [] λa=>[sub a (r'.getD .any)]]
theorem idx_at (l:List At) (i:Nat) (h:i < l.length) (hl:l.length ≤ 100):idxOp (.tup (encs l)) (.int i) = some (enc (l.getD i .any)):=by
 rw [idx_t]
 refine place_n (Nat.le_trans (Nat.le_of_lt h) (l2 hl)) ?_
 unfold encs
 rw [List.getElem?_map,List.getElem?_eq_getElem h]
 exact congrArg (λo:Option At=>some (enc (o.getD .any))) (List.getElem?_eq_getElem h).symm
theorem lt_cast {m n:Nat} {b:Bool} (h:decide (m < n) = b):decide ((m:Int) < n) = b:=(decide_eq_decide.mpr Int.ofNat_lt).trans h
theorem in_range {n:Nat} (h:n ≤ 100):(decide ((0:Int) ≤ n) && decide ((n:Int) < 4000)) = true:=Bool.and_eq_true_iff.mpr ⟨decide_eq_true (Int.natCast_nonneg n),decide_eq_true (by omega)⟩
theorem ctw (l l':List At) (r r':Option At) (hl:l.length ≤ 100) (hl':l'.length ≤ 100) (hc:∀ i,i < l.length→¬ i < l'.length→optV r' = enc (r'.getD .any)) (C:Orc) (K K' T:V) (σ:H) :
 evE C c_tw (rho0 [K,K',.tup (encs l),T,.tup (encs l'),optV r'] 8) σ = some (.lst (encGs (zipG l l' r')),σ):=
 (comp1 (l:=List.range l.length) (λi:Nat=>.int (i:Int)) (λi=>encG (sub (l.getD i .any) (if i < l'.length then l'.getD i .any else r'.getD .any))) (by kernel_rfl) (by exact rnI (.c 0 (fV (len_ok hl)) <| .c 0 (fT (in_range hl)) <| .e) (by kernel_rfl)) (by rw [List.length_range]; omega) λi hi=>by
  have hi:=List.mem_range.mp hi
  by_cases h:i < l'.length
  · rw [if_pos h]
    exact rnE (.c 0 (fV (idx_at l i hi hl)) <| .c 0 (fV (len_ok hl')) <| .c 0 (fT (lt_cast (decide_eq_true h))) <| .c 0 (fV (idx_at l' i h hl')) <| .e) (by kernel_rfl)
  · rw [if_neg h]
    have e:=hc i hi h
    rw [e]
    exact rnE (.c 0 (fV (idx_at l i hi hl)) <| .c 0 (fV (len_ok hl')) <| .c 0 (fT (lt_cast (decide_eq_false h))) <| .e) (by kernel_rfl)).trans (congrArg (λl=>some (V.lst l,σ)) (by unfold encGs zipG; rw [List.map_map]; rfl))
theorem zip_len {l:List At} (h:l.length ≤ 100) (l':List At) (r':Option At):(encGs (zipG l l' r')).length ≤ 200:=by
 unfold encGs zipG; rw [List.length_map,List.length_map,List.length_range]; exact l2 h
theorem add_gs {w:List Goal} (h:(encGs w).length ≤ 200) (v:List Goal) (h':(encGs v).length ≤ 200):binOp .add (.lst (encGs w)) (.lst (encGs v)) = some (.lst (encGs (w ++ v))):=
 (add_vs h h').trans (congrArg (λl=>some (V.lst l)) (List.map_append (f:=encG) (l₁:=w) (l₂:=v)).symm)
theorem tw_ok (l l':List At) (r r':Option At) (hl:l.length ≤ 100) (hl':l'.length ≤ 100) (d:Nat) (σ:H) :
 evCall P 8000 (d + 22) 43 [tupV l r,tupV l' r'] σ = some (.lst (encW (twG l r l' r')),σ):=by
 unfold twG
 have hz:=zip_len hl l' r'
 cases hlt:decide (l.length < l'.length) with
 | true=>exact rn (.c 1 (fC (tail_ok l r d σ)) <| .c 1 (fC (tail_ok l' r' d σ)) <| .c 0 (fV (len_ok hl)) <| .c 0 (fV (len_ok hl')) <| .c 0 (fT (lt_cast hlt)) <| .e) (by kernel_rfl)
 | false=>
  cases r' with
  | none=>
   cases r with
   | none=>
    cases hgt:decide (l'.length < l.length) with
    | true=>exact rn (.c 1 (fC (tail_ok l none d σ)) <| .c 1 (fC (tail_ok l' none d σ)) <| .c 0 (fV (len_ok hl)) <| .c 0 (fV (len_ok hl')) <| .c 0 (fT (lt_cast hlt)) <| .c 2 (fV (len_ok hl)) <| .c 0 (fV (len_ok hl')) <| .c 0 (fT (lt_cast hgt)) <| .e) (by kernel_rfl)
    | false=>
     exact rn (.c 1 (fC (tail_ok l none d σ)) <| .c 1 (fC (tail_ok l' none d σ)) <| .c 0 (fV (len_ok hl)) <| .c 0 (fV (len_ok hl')) <| .c 0 (fT (lt_cast hlt)) <| .c 2 (fV (len_ok hl)) <| .c 0 (fV (len_ok hl')) <| .c 0 (fT (lt_cast hgt)) <| .c 0 (fC (ctw l l' none none hl hl' (λi h h'=>absurd (Nat.lt_of_lt_of_le h (Nat.le_of_not_lt (of_decide_eq_false hgt))) h') (evCall P 8000 (d + 21)) (tupV l none) (tupV l' none) (optV none) σ)) <| .c 1 (fV (add_gs hz [] (Nat.le_of_ble_eq_true rfl))) <| .e) (by kernel_rfl)
   | some a=>exact rn (.c 1 (fC (tail_ok l (some a) d σ)) <| .c 1 (fC (tail_ok l' none d σ)) <| .c 0 (fV (len_ok hl)) <| .c 0 (fV (len_ok hl')) <| .c 0 (fT (lt_cast hlt)) <| .e) (by kernel_rfl)
  | some b=>
   cases r with
   | none=>exact rn (.c 1 (fC (tail_ok l none d σ)) <| .c 1 (fC (tail_ok l' (some b) d σ)) <| .c 0 (fV (len_ok hl)) <| .c 0 (fV (len_ok hl')) <| .c 0 (fT (lt_cast hlt)) <| .c 2 (fC (ctw l l' none (some b) hl hl' (λx x_1 x_2=>rfl) (evCall P 8000 (d + 21)) (tupV l none) (tupV l' (some b)) (optV none) σ)) <| .c 1 (fV (add_gs hz [] (Nat.le_of_ble_eq_true rfl))) <| .e) (by kernel_rfl)
   | some a=>exact rn (.c 1 (fC (tail_ok l (some a) d σ)) <| .c 1 (fC (tail_ok l' (some b) d σ)) <| .c 0 (fV (len_ok hl)) <| .c 0 (fV (len_ok hl')) <| .c 0 (fT (lt_cast hlt)) <| .c 2 (fC (ctw l l' (some a) (some b) hl hl' (λx x_1 x_2=>rfl) (evCall P 8000 (d + 21)) (tupV l (some a)) (tupV l' (some b)) (optV (some a)) σ)) <| .c 1 (fV (add_gs hz [sub a b] (Nat.le_of_ble_eq_true rfl))) <| .e) (by kernel_rfl)
theorem loopL_flat {α:Type} {f:V→H→List V→Option (List V×H)} {e:α→V} {g:α→List V} {σ:H}:∀ (l:List α) (acc:List V),(∀ x ∈ l,∀ acc:List V,acc.length + (g x).length ≤ 4000→f (e x) σ acc = some (acc ++ g x,σ))→acc.length + (l.flatMap g).length ≤ 4000→loopL f (l.map e) σ acc = some (acc ++ l.flatMap g,σ)
 | [],acc,_,_=>congrArg (λz=>some (z,σ)) (List.append_nil acc).symm
 | x :: l,acc,hf,hl=>by
  rw [List.flatMap_cons,List.length_append,← Nat.add_assoc] at hl
  have h1:=hf x (List.mem_cons_self ..) acc (Nat.le_trans (Nat.le_add_right _ _) hl)
  have h2:=loopL_flat l (acc ++ g x) (λy hy=>hf y (List.mem_cons_of_mem _ hy)) (by rw [List.length_append]; exact hl)
  rw [List.append_assoc] at h2
  exact (congrArg (λo=>b2 o λacc σ=>loopL f (l.map e) σ acc) h1).trans h2
theorem comp2 {α β:Type} {C:Orc} {elt:E} {i j:Nat} {it it2:It} {ρ:Rho} {σ:H} (e:α→V) (e2:β→V) (g:α→β→V) {l:List α} {m:α→List β} (hF:freeGs (noOwn ρ) [.mk (.one i) it [],.mk (.one j) it2 []] = true) (hI:evI C it (noOwn ρ) σ = some (l.map e,σ))
 (hF2:∀ x ∈ l,freeT (setV (noOwn ρ) i (e x)) (.one j) = true) (hI2:∀ x ∈ l,evI C it2 (setV (noOwn ρ) i (e x)) σ = some ((m x).map e2,σ)) (hl:(l.flatMap λx=>(m x).map (g x)).length ≤ 4000)
 (hb:∀ x ∈ l,∀ y ∈ m x,evE C elt (setV (setV (noOwn ρ) i (e x)) j (e2 y)) σ = some (g x y,σ)) :
 evE C (.comp elt [.mk (.one i) it [],.mk (.one j) it2 []]) ρ σ = some (.lst (l.flatMap λx=>(m x).map (g x)),σ):=by
 have hT:freeT (noOwn ρ) (.one i) = true:=(Bool.and_eq_true_iff.mp hF).1
 have h:=loopL_flat (f:=λx σ acc=>b1 (bindT (.one i) (noOwn ρ) x) λρ'=>b2 (evIfs C [] ρ' σ) λb σ=>cond b (evG C (λρ σ=>evE C elt ρ σ) [.mk (.one j) it2 []] ρ' σ acc) (some (acc,σ))) (e:=e) (g:=λx=>(m x).map (g x)) (σ:=σ) l [] (λx hx acc ha=>by
  have h:=loopL_map (f:=λy σ acc=>b1 (bindT (.one j) (setV (noOwn ρ) i (e x)) y) λρ'=>b2 (evIfs C [] ρ' σ) λb σ=>cond b (evG C (λρ σ=>evE C elt ρ σ) [] ρ' σ acc) (some (acc,σ))) (e:=e2) (g:=g x) (σ:=σ) (m x) acc (λy hy acc ha=>by
   refine (congrArg (λo=>b2 o λx σ=>gd (shortL acc) (some (acc ++ [x],σ))) (hb x hx y hy)).trans ?_
   exact congrArg (λb=>gd b _) ha) (by rw [List.length_map] at ha; exact ha)
  refine Eq.trans ?_ h
  refine Eq.trans (b:=gd (freeT (setV (noOwn ρ) i (e x)) (.one j)) (b2 (evI C it2 (setV (noOwn ρ) i (e x)) σ) λl σ=>loopL (λy σ acc=>b1 (bindT (.one j) (setV (noOwn ρ) i (e x)) y) λρ'=>b2 (evIfs C [] ρ' σ) λb σ=>cond b (evG C (λρ σ=>evE C elt ρ σ) [] ρ' σ acc) (some (acc,σ))) l σ acc)) rfl ?_
  rw [hF2 x hx,hI2 x hx]
  rfl) (by rw [List.length_nil,Nat.zero_add]; exact hl)
 show gd (freeGs (noOwn ρ) [.mk (.one i) it [],.mk (.one j) it2 []]) (b2 (gd (freeT (noOwn ρ) (.one i)) (b2 (evI C it (noOwn ρ) σ) λl σ=>loopL _ l σ [])) _) = _
 rw [hF,hT,hI]
 exact congrArg (λo=>b2 o λl σ=>some (V.lst l,σ)) h
noncomputable def lcL:List At:=[.i64,.bo,.st,.ai,.an,.sa,.ti,.tb,.int,.v0,.ar0,.us0,.ua0,.ui0,.tv0]
noncomputable def lc? (a:At):Bool:=decide (a ∈ lcL)
noncomputable def lcs (a:At):List At:=(unP a).casesOn [a] λp=>[p.1,p.2]
theorem lc_ok (a:At) (ha:lc? a = true) (d:Nat) (σ:H):evCall P 8000 (d + 22) 24 [enc a] σ = some (.lst (encs (lcs a)),σ):=
 tab1 lc? (λa=>evCall P 8000 (d + 22) 24 [enc a] σ) (λa=>some (.lst (encs (lcs a)),σ)) (by kernel_rfl) a ha
noncomputable def grow (rows:List (List At)) (cs:List At):List (List At):=rows.flatMap λrow=>cs.map λc=>row ++ [c]
noncomputable def tcs:List At→List (List At)→Option (List (List At))
 | [],rows=>some rows
 | a :: l,rows=>gd (lc? a && (Nat.ble (rows.length * (lcs a).length) 64)) (tcs l (grow rows (lcs a)))
noncomputable def rowV (row:List At):V:=.tup (encs row)
noncomputable def rowsV (rows:List (List At)):List V:=rows.map rowV
theorem lcs_len (a:At):(lcs a).length ≤ 2:=by unfold lcs; cases unP a <;> exact Nat.le_of_ble_eq_true rfl
theorem grow_len (rows:List (List At)) (cs:List At):(grow rows cs).length = rows.length * cs.length:=by
 induction rows with
 | nil=>exact (Nat.zero_mul _).symm
 | cons x r ih=>
  show ((cs.map λc=>x ++ [c]) ++ grow r cs).length = (r.length + 1) * cs.length
  rw [List.length_append,List.length_map,ih,Nat.add_mul,Nat.one_mul,Nat.add_comm]
theorem len_v {l:List V} {n:Nat} (h:l.length = n) (hn:n ≤ 200):biOp .len [.lst l] = some (.int n):=by
 subst h; exact congrArg (λb=>gd b (some (V.int l.length))) (short_of hn)
noncomputable def tcF (K:V) (rows:List (List At)) (x y:Option Slot):Rho:=[some (.v K),some (.v (.lst (rowsV rows))),x,y,none,none,none]
theorem mul_ii (i j:Int):binOp .mul (.int i) (.int j) = gd (small i && small j) (some (.int (i * j))):=rfl
theorem tc_step (rows:List (List At)) (a:At) (K:V) (y:Option Slot) (d:Nat) (σ:H) (ha:lc? a = true) (hk:rows.length * (lcs a).length ≤ 64) (hr:rows.length ≤ 64) (hrow:∀ row ∈ rows,row.length ≤ 100) :
 evSs (ev (d + 22)) 8000 b_tc (tcF K rows (some (.v (enc a))) y) σ = some (.next,tcF K (grow rows (lcs a)) (some (.v (enc a))) (some (.v (.lst (encs (lcs a))))),σ):=by
 have h3:=lcs_len a
 have h7:binOp .mul (.int rows.length) (.int (lcs a).length) = some (.int (rows.length * (lcs a).length:Nat)):=by
  have e:(small (rows.length:Int) && small ((lcs a).length:Int)) = true:=Bool.and_eq_true_iff.mpr ⟨small_n (by omega),small_n (by omega)⟩
  rw [mul_ii,e]
  exact congrArg (λi=>some (V.int i)) (Int.natCast_mul _ _).symm
 have h8:decide ((64:Int) < (rows.length * (lcs a).length:Nat)) = false:=decide_eq_false (by omega)
 have hg:evE (ev (d + 22)) c_tcG (tcF K rows (some (.v (enc a))) (some (.v (.lst (encs (lcs a)))))) σ = some (.lst (rowsV (grow rows (lcs a))),σ):=by
  have e:rowsV (grow rows (lcs a)) = rows.flatMap λrow=>(lcs a).map λc=>rowV (row ++ [c]):=by
   unfold rowsV grow
   rw [List.map_flatMap]
   simp only [List.map_map]; rfl
  have hlen:(rowsV (grow rows (lcs a))).length ≤ 4000:=by unfold rowsV; rw [List.length_map,grow_len]; omega
  rw [e] at hlen ⊢
  exact comp2 rowV enc (λrow c=>rowV (row ++ [c])) (by kernel_rfl) (by kernel_rfl) (λx _=>by kernel_rfl) (λx _=>by kernel_rfl) hlen λrow hr c _=>by exact rnE (.c 0 (fV (add_encs (Nat.le_trans (hrow row hr) (of_decide_eq_true (id (Eq.refl true)))) c)) <| .e) (by kernel_rfl)
 exact rnSs (.c 0 (fC (lc_ok a ha d σ)) <| .c 0 (fV (len_v (List.length_map rowV) (Nat.le_trans hr (of_decide_eq_true (id (Eq.refl true)))))) <| .c 0 (fV (len_v (len_encs (lcs a)) (Nat.le_trans h3 (of_decide_eq_true (id (Eq.refl true)))))) <| .c 0 (fV h7) <| .c 0 (fT h8) <| .c 0 (fC hg) <| .e) (by kernel_rfl)
noncomputable abbrev lpS (C:Orc) (i:Nat) (b:List S):V→Rho→H→R3:=λx ρ σ=>b1 (bindT (.one i) ρ x) λρ=>evSs C 8000 b ρ σ
theorem fr_ok {C:Orc} {i:Nat} {it:It} {b:List S} {ρ:Rho} {σ σ':H} {l:List V} {r:R3} (hI:evI C it ρ σ = some (l,σ')) (h:loopS (lpS C i b) l ρ σ' = r):evS C 8000 (.fr (.one i) it b) ρ σ = r:=
 (show (b2 (evI C it ρ σ) λl σ=>loopS (λx ρ σ=>b1 (bindT (.one i) ρ x) λρ=>evSs C 8000 b ρ σ) l ρ σ) = r from (congrArg (λo=>b2 o λl σ=>loopS (lpS C i b) l ρ σ) hI).trans h)
theorem lp_next {F:V→Rho→H→R3} {x:V} {l:List V} {ρ ρ':Rho} {σ σ':H} {r:R3} (h:F x ρ σ = some (.next,ρ',σ')) (h':loopS F l ρ' σ' = r):loopS F (x :: l) ρ σ = r:=(congrArg (λo=>b3 o (loopS F l)) h).trans h'
theorem lp_ret {F:V→Rho→H→R3} {x v:V} {l:List V} {ρ ρ':Rho} {σ σ':H} (h:F x ρ σ = some (.ret v,ρ',σ')):loopS F (x :: l) ρ σ = some (.ret v,ρ',σ'):=congrArg (λo=>b3 o (loopS F l)) h
theorem tc_loop (K:V) (d:Nat) (σ:H):∀ (l:List At) (rows:List (List At)) (x y:Option Slot) (R:List (List At)),tcs l rows = some R→rows.length ≤ 64→(∀ row ∈ rows,row.length + l.length ≤ 100)→
 ∃ x' y',loopS (lpS (ev (d + 22)) 2 b_tc) (encs l) (tcF K rows x y) σ = some (.next,tcF K R x' y',σ)
 | [],rows,x,y,R,h,_,_=>⟨x,y,Option.some.inj h ▸ rfl⟩
 | a :: l,rows,x,y,R,h,hr,hrow=>gd_is h λhc h=>by
  have hc:=Bool.and_eq_true_iff.mp hc
  have hk:=Nat.le_of_ble_eq_true hc.2
  obtain ⟨x',y',h2⟩:=tc_loop K d σ l (grow rows (lcs a)) (some (.v (enc a))) (some (.v (.lst (encs (lcs a))))) R h (by rw [grow_len]; exact hk) (by
   intro row hm
   obtain ⟨r',hr',hm⟩:=List.mem_flatMap.mp hm
   obtain ⟨c,_,rfl⟩:=List.mem_map.mp hm
   have:=hrow r' hr'
   rw [List.length_cons] at this
   rw [List.length_append,List.length_singleton]; omega)
  exact ⟨x',y',lp_next (tc_step rows a K y d σ hc.1 hk hr λrow hm=>by have:=hrow row hm; omega) h2⟩
theorem tcs_len:∀ (l:List At) (rows R:List (List At)),tcs l rows = some R→rows.length ≤ 64→R.length ≤ 64
 | [],rows,R,h,hr=>Option.some.inj h ▸ hr
 | a :: l,rows,R,h,hr=>gd_is h λhc h=>tcs_len l _ R h (by rw [grow_len]; exact Nat.le_of_ble_eq_true (Bool.and_eq_true_iff.mp hc).2)
theorem tupleCases_ok (l:List At) (r:Option At) (R:List (List At)) (h:tcs l [[]] = some R) (hl:l.length ≤ 100) (d:Nat) (σ:H) :
 evCall P 8000 (d + 23) 25 [tupV l r] σ = some (.lst (R.map λrow=>tupV row r),σ):=by
 have hR:=tcs_len l _ R h (by decide)
 obtain ⟨x',y',h1⟩:=tc_loop (tupV l r) d σ l [[]] none none R h (by decide) (λrow hr=>by rw [List.mem_singleton.mp hr,List.length_nil,Nat.zero_add]; exact hl)
 have h2:evS (ev (d + 22)) 8000 w_tc (tcF (tupV l r) [[]] none none) σ = _:=fr_ok (by kernel_rfl) h1
 have h3:evE (ev (d + 22)) c_tcR (tcF (tupV l r) R x' y') σ = some (.lst (R.map λrow=>tupV row r),σ):=comp1 rowV (λrow=>tupV row r) (by kernel_rfl) (by kernel_rfl) (Nat.le_trans hR (by decide)) λrow _=>by exact rnE (.c 1 (fC (tupleOf_ok (encs row) (optV r) (d + 2) σ)) <| .e) (by kernel_rfl)
 exact rn (.c 0 (fS h2) <| .c 0 (fC h3) <| .e) (by kernel_rfl)
noncomputable def leftT (l:List At) (r:Option At):Option (List Ko):=gd (Nat.ble l.length 100) (b1 (tcs l [[]]) λR=>some (R.map λrow=>.tup row r))
noncomputable def toAll (u:At) (k:Ko):Ko:=k.casesOn (λ_=>k) (λl r=>.all u l r) λ_ _ _=>k
noncomputable def leftC (k:Ko):Option (List Ko):=k.casesOn (λa=>gd (lc? a) (some ((lcs a).map .at))) leftT λu l r=>gd (mbs l r && Nat.ble l.length 100) (cond (isDiag l r) (some [.all u l r]) (b1 (leftT l r) λks=>some (ks.map (toAll u))))
theorem leftT_len {l:List At} {r:Option At} {ks:List Ko} (h:leftT l r = some ks):l.length ≤ 100∧∃ R,tcs l [[]] = some R∧R.length ≤ 64∧ks = R.map λrow=>.tup row r:=
 gd_is h λhl h=>b1_is h λR hR h=>⟨Nat.le_of_ble_eq_true hl,R,hR,tcs_len l _ R hR (by decide),(Option.some.inj h).symm⟩
theorem le64 {n:Nat} (h:n ≤ 64):decide ((n:Int) ≤ 64) = true:=decide_eq_true (by omega)
theorem encO_tup (R:List (List At)) (r:Option At):(R.map λrow=>tupV row r) = (R.map λrow=>Ko.tup row r).map encO:=by rw [List.map_map]; rfl
theorem leftTup_ok (l:List At) (r:Option At) (ks:List Ko) (h:leftT l r = some ks) (d:Nat) (σ:H) :
 evCall P 8000 (d + 24) 24 [tupV l r] σ = some (.lst (ks.map encO),σ):=by
 obtain ⟨hl,R,hR,h2,rfl⟩:=leftT_len h
 rw [← encO_tup]
 exact rn (.c 8 (fC (tupleCases_ok l r R hR hl d σ)) <| .c 0 (fV (len_v (List.length_map λrow=>tupV row r) (Nat.le_trans h2 (of_decide_eq_true (id (Eq.refl true)))))) <| .c 0 (fT (le64 h2)) <| .e) (by kernel_rfl)
theorem leftC_ok (k:Ko) (ks:List Ko) (h:leftC k = some ks) (d:Nat) (σ:H) :
 evCall P 8000 (d + 25) 24 [encO k] σ = some (.lst (ks.map encO),σ):=by
 cases k with
 | «at» a=>exact gd_is h λha h=>Option.some.inj h ▸ ((lc_ok a ha (d + 3) σ).trans (congrArg (λl=>some (V.lst l,σ)) (List.map_map (f:=Ko.at) (g:=encO) (l:=lcs a)).symm))
 | tup l r=>exact leftTup_ok l r ks h (d + 1) σ
 | all u l r=>
  refine gd_is h λhm h=>?_
  have hm:=Bool.and_eq_true_iff.mp hm
  have hl:=Nat.le_of_ble_eq_true hm.2
  have hd:=isDiagonal_ok l r hl hm.1 (d + 2) σ
  cases hdg:isDiag l r with
  | true=>
   rw [hdg] at h
   rw [← Option.some.inj h]
   exact rn (.c 7 (fC hd) <| .c 0 (fT (congrArg not hdg)) <| .e) (by kernel_rfl)
  | false=>
   rw [hdg] at h
   refine b1_is h λcs hL h=>?_
   rw [← Option.some.inj h]
   obtain ⟨_,R,hR,h2,e⟩:=leftT_len hL
   have h1:=leftTup_ok l r cs hL d σ
   have hc:evE (ev (d + 24)) c_lcA (rho0 [encO (.all u l r),.str "all"] 6) σ = some (.lst ((cs.map (toAll u)).map encO),σ):=by
    rw [e,List.map_map,List.map_map]
    rw [e,← encO_tup] at h1
    exact comp1 (λrow=>tupV row r) (λrow=>encO (.all u row r)) (by kernel_rfl) (by exact rnI (.c 1 (fC h1) <| .e) (by kernel_rfl)) (Nat.le_trans h2 (by decide)) λrow _=>by kernel_rfl
   have hlen:((cs.map (toAll u)).map encO).length = R.length:=by rw [e,List.length_map,List.length_map,List.length_map]
   exact rn (.c 7 (fC hd) <| .c 0 (fT (congrArg not hdg)) <| .c 0 (fC hc) <| .c 0 (fV (len_v hlen (Nat.le_trans h2 (of_decide_eq_true (id (Eq.refl true)))))) <| .c 0 (fT (le64 h2)) <| .e) (by kernel_rfl)
theorem ss_next {C:Orc} {N:Nat} {s:S} {ss:List S} {ρ ρ':Rho} {σ σ':H} (h:evS C N s ρ σ = some (.next,ρ',σ')):evSs C N (s :: ss) ρ σ = evSs C N ss ρ' σ':=congrArg (λo=>b3 o (evSs C N ss)) h
theorem ss_ret {C:Orc} {N:Nat} {s:S} {ss:List S} {ρ ρ':Rho} {σ σ':H} {v:V} (h:evS C N s ρ σ = some (.ret v,ρ',σ')):evSs C N (s :: ss) ρ σ = some (.ret v,ρ',σ'):=congrArg (λo=>b3 o (evSs C N ss)) h
noncomputable def setSides (σ:H) (o r:Nat) (S:Rows):H:=(σ.set o (.recd 1 [.ref r,.int S.length])).set r (.dict (keys S.length) (S.map encR))
theorem sides_ne {S:Rows} {σ:H} {o r:Nat} (h:SidesAt σ o r S):o ≠ r:=λe=>nomatch (h.obj.symm.trans (e ▸ h.rows):some (O.recd 1 [.ref r,.int S.length]) = some (O.dict (keys S.length) (S.map encR)))
theorem sides_lt {S:Rows} {σ:H} {o r:Nat} (h:SidesAt σ o r S):o < σ.length∧r < σ.length:=
 ⟨(List.getElem?_eq_some_iff.mp h.obj).1,(List.getElem?_eq_some_iff.mp h.rows).1⟩
theorem sides_put {S:Rows} {σ:H} {o r:Nat} (h:SidesAt σ o r S) (S':Rows):SidesAt (setSides σ o r S') o r S':=
 ⟨(List.getElem?_set_ne (Ne.symm (sides_ne h))).trans (List.getElem?_set_self (sides_lt h).1),List.getElem?_set_self (by rw [List.length_set]; exact (sides_lt h).2)⟩
theorem setSides_rows {S S':Rows} {σ:H} {o r:Nat} (h:SidesAt σ o r S) (hl:S'.length = S.length):setRows σ r S' = setSides σ o r S':=by
 obtain ⟨h1,h2⟩:=List.getElem?_eq_some_iff.mp h.obj
 unfold setRows setSides
 rw [hl,← h2,List.set_getElem_self h1]
@[elab_as_elim] theorem S1 {M:Rows→Prop} {S:Rows} (hS:S.length ≤ 1) (h0:M []) (h1:∀ a,M [a]):M S:=
 S.casesOn (motive:=λS=>S.length ≤ 1→M S) (λ_=>h0) (λa S=>S.casesOn (motive:=λS=>S.length + 1 ≤ 1→M (a :: S)) (λ_=>h1 a) λ_ _ h=>absurd h (Nat.not_le_of_gt (Nat.le_add_left 2 _))) hS
noncomputable def nS (n:Nat):Str:=n.casesOn "1" λ_=>"2"
theorem str_n {S:Rows} (h:S.length ≤ 1):biOp .str [.int ((S.length:Int) + 1)] = some (.str (nS S.length)):=S1 (M:=λS=>biOp .str [.int ((S.length:Int) + 1)] = some (.str (nS S.length))) h (by kernel_rfl) λ_=>by kernel_rfl
theorem add_n {S:Rows} (h:S.length ≤ 1):binOp .add (.str ("T.8" ++ "!")) (.str (nS S.length)) = some (.str (key (S.length + 1))):=S1 (M:=λS=>binOp .add (.str ("T.8" ++ "!")) (.str (nS S.length)) = some (.str (key (S.length + 1)))) h (by kernel_rfl) λ_=>by kernel_rfl
noncomputable def openRow (S:Rows) (ask:Bool) (u:At) (l:List At) (r:Option At):Row:=⟨ask,S.length + 1,[],if u = .any then [] else [u],isDiag l r⟩
theorem put_new (S:Rows) (hS:S.length ≤ 1) (v:Row):putAt (keys S.length) (S.map encR) (key (S.length + 1)) (encR v) = (keys (S.length + 1),(S ++ [v]).map encR):=
 S1 (M:=λS=>putAt (keys S.length) (S.map encR) (key (S.length + 1)) (encR v) = (keys (S.length + 1),(S ++ [v]).map encR)) hS (by kernel_rfl) λ_=>by kernel_rfl
theorem opened_ok {S:Rows} {σ:H} {o rr:Nat} (h:SidesAt σ o rr S) (d:Nat) (hS:S.length ≤ 1) (ask:Bool) (u:At) (l:List At) (r:Option At) (hl:l.length ≤ 100) (hm:mbs l r = true) :
 evCall P 8000 (d + 23) 15 [.obj 1 o,encO (.all u l r),.bool ask] σ = some (.tup [.str (key (S.length + 1)),tupV (l.map (sb (S.length + 1))) (r.map (sb (S.length + 1)))],setSides σ o rr (S ++ [openRow S ask u l r])):=by
 have g1:(σ.set o (.recd 1 [.ref rr,.int ((S.length:Int) + 1)]))[o]? = some (.recd 1 [.ref rr,.int ((S.length:Int) + 1)]):=List.getElem?_set_self (sides_lt h).1
 have g2:(σ.set o (.recd 1 [.ref rr,.int ((S.length:Int) + 1)]))[rr]? = some (.dict (keys S.length) (S.map encR)):=(List.getElem?_set_ne (sides_ne h)).trans h.rows
 have hst:stored (σ.set o (.recd 1 [.ref rr,.int ((S.length:Int) + 1)])) (.ref rr) (.str (key (S.length + 1))) (encR (openRow S ask u l r)) = some (setSides σ o rr (S ++ [openRow S ask u l r])):=by
  show storedO _ rr _ _ _ = _
  rw [g2]
  show gd (shortL (S.map encR)) (some (List.set _ rr (O.dict (putAt (keys S.length) (S.map encR) (key (S.length + 1)) (encR (openRow S ask u l r))).1 (putAt (keys S.length) (S.map encR) (key (S.length + 1)) (encR (openRow S ask u l r))).2))) = _
  rw [short_of (by rw [List.length_map]; exact Nat.le_trans hS (by decide)),put_new S hS]
  unfold setSides
  rw [List.length_append]
  rfl
 have hs:=sbs_ok (S.length + 1) (S1 (M:=λS=>S.length + 1 = 1∨S.length + 1 = 2) hS (.inl rfl) λ_=>.inr rfl) l r hl hm d (setSides σ o rr (S ++ [openRow S ask u l r]))
 have hd:=isDiagonal_ok l r hl hm d (σ.set o (.recd 1 [.ref rr,.int ((S.length:Int) + 1)]))
 unfold openRow at hst hs ⊢
 cases hu:decide (u = .any) with
 | true=>
  rw [if_pos (of_decide_eq_true hu)] at hst hs ⊢
  exact rn (.c 0 (SidesAt.fo h) <| .c 1 (SidesAt.fo h) <| .c 2 (fO g1) <| .c 0 (fV (str_n hS)) <| .c 0 (fV (add_n hS)) <| .c 2 (fB (eq_any u hu)) <| .c 1 (fO g1) <| .c 0 (fC hd) <| .c 1 (fO g1) <| .c 0 (fH hst) <| .c 0 (fC hs) <| .e) (by kernel_rfl)
 | false=>
  rw [if_neg (of_decide_eq_false hu)] at hst hs ⊢
  exact rn (.c 0 (SidesAt.fo h) <| .c 1 (SidesAt.fo h) <| .c 2 (fO g1) <| .c 0 (fV (str_n hS)) <| .c 0 (fV (add_n hS)) <| .c 2 (fB (eq_any u hu)) <| .c 1 (fO g1) <| .c 0 (fC hd) <| .c 1 (fO g1) <| .c 0 (fH hst) <| .c 0 (fC hs) <| .e) (by kernel_rfl)
theorem lay1 (a:At):(py (enc a)).canLay0 = true∧(py (enc a)).depth ≤ 10:=
 have h:=Bool.and_eq_true_iff.mp (lay_all a (mem_allAt a))
 ⟨h.1,Nat.le_of_ble_eq_true h.2⟩
theorem dep_encs:∀ l:List At,PyData.depthAll (pys (encs l)) ≤ 10
 | []=>Nat.le_of_ble_eq_true rfl
 | a :: l=>Nat.max_le.mpr ⟨(lay1 a).2,dep_encs l⟩
theorem lay_opt (r:Option At):(py (optV r)).canLay0 = true∧(py (optV r)).depth ≤ 10:=r.casesOn ⟨rfl,Nat.le_of_ble_eq_true rfl⟩ lay1
theorem ai {a b:Bool} (h1:a = true) (h2:b = true):(a && b) = true:=Bool.and_eq_true_iff.mpr ⟨h1,h2⟩
theorem mx {a b n:Nat} (h1:a ≤ n) (h2:b ≤ n):max a b ≤ n:=Nat.max_le.mpr ⟨h1,h2⟩
theorem lay_tup (l:List At) (r:Option At):(py (tupV l r)).canLay0 = true∧(py (tupV l r)).depth ≤ 12:=
 ⟨ai (by kernel_rfl) (ai (lay_pys l) (ai (lay_opt r).1 rfl)),Nat.succ_le_succ (mx (Nat.zero_le _) (mx (Nat.succ_le_succ (dep_encs l)) (mx (Nat.le_trans (lay_opt r).2 (by decide)) (Nat.zero_le _))))⟩
theorem layO (k:Ko):(py (encO k)).canLay0 = true∧(py (encO k)).depth ≤ 20:=by
 cases k with
 | «at» a=>exact ⟨(lay1 a).1,Nat.le_trans (lay1 a).2 (by decide)⟩
 | tup l r=>exact ⟨(lay_tup l r).1,Nat.le_trans (lay_tup l r).2 (by decide)⟩
 | all u l r=>exact ⟨ai (by kernel_rfl) (ai (by kernel_rfl) (ai (by kernel_rfl) (ai (lay1 u).1 (ai (lay_tup l r).1 rfl)))),Nat.succ_le_succ (mx (Nat.zero_le _) (mx (Nat.zero_le _) (mx (Nat.le_of_ble_eq_true (by kernel_rfl)) (mx (Nat.le_trans (lay1 u).2 (by decide)) (mx (Nat.le_trans (lay_tup l r).2 (by decide)) (Nat.zero_le _))))))⟩
theorem okO (k k':Ko):okPair (encO k) (encO k') = true:=ai (layO k).1 (ai (layO k').1 (Nat.ble_eq_true_of_le (Nat.le_trans (Nat.min_le_left _ _) (Nat.le_trans (layO k).2 (by decide)))))
theorem eqO {k k':Ko} {b:Bool} (h:PyData.eqv (py (encO k)) (py (encO k')) = b):eqOp (encO k) (encO k') = some b:=
 (congrArg (λc=>gd c (some (PyData.eqv (py (encO k)) (py (encO k'))))) (okO k k')).trans (congrArg some h)
theorem and_dec {p q r:Prop} [Decidable p] [Decidable q] [Decidable r] (h:p∧q ↔ r):(decide p && decide q) = decide r:=by
 rw [Bool.eq_iff_iff,Bool.and_eq_true_iff,decide_eq_true_iff,decide_eq_true_iff,decide_eq_true_iff]; exact h
theorem eqv_encs:∀ l l':List At,PyData.eqvAll (pys (encs l)) (pys (encs l')) = decide (l = l')
 | [],[]=>rfl
 | [],_ :: _=>rfl
 | _ :: _,[]=>rfl
 | a :: l,b :: l'=>(congr (congrArg and (eqv_enc a b)) (eqv_encs l l')).trans (and_dec (List.cons.injEq a l b l' ▸ Iff.rfl))
theorem eqv_opt (r r':Option At):PyData.eqv (py (optV r)) (py (optV r')) = decide (r = r'):=by
 cases r with
 | none=>cases r' <;> rfl
 | some a=>cases r' with
  | none=>rfl
  | some b=>exact (eqv_enc a b).trans (decide_eq_decide.mpr ⟨congrArg some,Option.some.inj⟩)
theorem eqv_tup (l l':List At) (r r':Option At):PyData.eqv (py (tupV l r)) (py (tupV l' r')) = (decide (l = l') && decide (r = r')):=
 (congr (congrArg and (eqv_encs l l')) ((congrArg (λb=>b && true) (eqv_opt r r')).trans (Bool.and_true _)):_)
theorem eq_tt (l l':List At) (r r':Option At):eqOp (tupV l r) (tupV l' r') = some (decide (l = l') && decide (r = r')):=eqO (k:=.tup l r) (k':=.tup l' r') (eqv_tup l l' r r')
theorem eq_aa (u u':At) (l l':List At) (r r':Option At):eqOp (encO (.all u l r)) (encO (.all u' l' r')) = some (decide (u = u') && (decide (l = l') && decide (r = r'))):=
 eqO (congr (congrArg and (eqv_enc u u')) ((congrArg (λb=>b && true) (eqv_tup l l' r r')).trans (Bool.and_true _)):_)
theorem eq_ta (l l':List At) (r r':Option At) (u:At):eqOp (tupV l r) (encO (.all u l' r')) = some false:=eqO (k:=.tup l r) (by kernel_rfl)
theorem eq_tany (l:List At) (r:Option At):eqOp (tupV l r) (enc .any) = some false:=eqO (k:=.tup l r) (k':=.at .any) (by kernel_rfl)
theorem eq_aany (u:At) (l:List At) (r:Option At):eqOp (encO (.all u l r)) (enc .any) = some false:=eqO (k':=.at .any) (by kernel_rfl)
theorem eq_it (l:List At) (r:Option At):eqOp (enc .i64) (tupV l r) = some false:=eqO (k:=.at .i64) (k':=.tup l r) (by kernel_rfl)
theorem eq_ia (u:At) (l:List At) (r:Option At):eqOp (enc .i64) (encO (.all u l r)) = some false:=eqO (k:=.at .i64) (by kernel_rfl)
theorem chosen_ok {S:Rows} {σ:H} {o rr:Nat} (h:SidesAt σ o rr S) (d:Nat) (hS:S.length ≤ 1) (sf X:V) (u:At) (l:List At) (r:Option At) (hl:l.length ≤ 100) (hm:mbs l r = true) :
 evCall P 8000 (d + 24) 35 [sf,X,encO (.all u l r),.obj 1 o] σ = some (.lst [glV "sub" X (tupV (l.map (sb (S.length + 1))) (r.map (sb (S.length + 1))))],setSides σ o rr (S ++ [openRow S true u l r])):=by
 have h':=sides_put h (S ++ [openRow S true u l r])
 have h2:=(side_ok h' (d + 2) (S.length + 1) (by rw [List.length_append]; exact Nat.succ_le_succ hS) (Nat.succ_le_succ hS)).trans (congrArg (λv=>some (encR v,_)) (show rowAt (S ++ [openRow S true u l r]) (S.length + 1) = openRow S true u l r from congrArg (λo:Option Row=>o.getD r0) List.getElem?_concat_length))
 exact rn (.c 0 (SidesAt.fo h) <| .c 0 (fC (opened_ok h d hS true u l r hl hm)) <| .c 0 (SidesAt.fo h') <| .c 0 (fC h2) <| .e) (by kernel_rfl)
theorem plain_tt {σ:H} {s:Nat} {f:Int} {q:V} (h:SearchAt σ s f q) (d:Nat) (l l':List At) (r r':Option At) (hl:l.length ≤ 100) (hl':l'.length ≤ 100) :
 evCall P 8000 (d + 23) 36 [.obj 2 s,tupV l r,tupV l' r'] σ = some (.lst (encW (twG l r l' r')),σ):=by
 exact rn (.c 6 (fC (tw_ok l l' r r' hl hl' d σ)) <| .e) (by kernel_rfl)
theorem bf_tt {σ:H} {s:Nat} {f:Int} {q:V} (h:SearchAt σ s f q) (d:Nat) (l l':List At) (r r':Option At) (hl:l.length ≤ 100) (hl':l'.length ≤ 100) (y:V) :
 evCall P 8000 (d + 24) 34 [.obj 2 s,tupV l r,tupV l' r',y] σ = some (.lst (encW (twG l r l' r')),σ):=by
 exact rn (.c 18 (SearchAt.f h) <| .c 0 (fC (plain_tt h d l l' r r' hl hl')) <| .e) (by kernel_rfl)
theorem bf_it {σ:H} {s:Nat} {f:Int} {q:V} (h:SearchAt σ s f q) (d:Nat) (l':List At) (r':Option At) (y:V) :
 evCall P 8000 (d + 24) 34 [.obj 2 s,enc .i64,tupV l' r',y] σ = some (.lst [],σ):=by
 exact rn (.c 18 (SearchAt.f h) <| .e) (by kernel_rfl)
theorem bf_all {S:Rows} {σ:H} {o rr:Nat} (h:SidesAt σ o rr S) (d:Nat) (hS:S.length ≤ 1) (sf Y:V) (u:At) (l:List At) (r:Option At) (hl:l.length ≤ 100) (hm:mbs l r = true) :
 evCall P 8000 (d + 24) 34 [sf,encO (.all u l r),Y,.obj 1 o] σ = some (.lst [.lst [glV "sub" (tupV (l.map (sb (S.length + 1))) (r.map (sb (S.length + 1)))) Y]],setSides σ o rr (S ++ [openRow S false u l r])):=by
 exact rn (.c 6 (SidesAt.fo h) <| .c 0 (fC (opened_ok h d hS false u l r hl hm)) <| .e) (by kernel_rfl)
theorem bf_ch {S:Rows} {σ:H} {o rr s:Nat} {f:Int} {q:V} (h:SidesAt σ o rr S) (hs:SearchAt σ s f q) (d:Nat) (hS:S.length ≤ 1) (X:List V) (u:At) (l:List At) (r:Option At) (hl:l.length ≤ 100) (hm:mbs l r = true)
 (w:Str) (hw:idxOp (.tup X) (.int 0) = some (.str w)) (hw1:eqOp (.str w) (.str "union") = some false) (hw2:eqOp (.str w) (.str "all") = some false) :
 evCall P 8000 (d + 25) 34 [.obj 2 s,.tup X,encO (.all u l r),.obj 1 o] σ = some (.lst [.lst [glV "sub" (.tup X) (tupV (l.map (sb (S.length + 1))) (r.map (sb (S.length + 1))))]],setSides σ o rr (S ++ [openRow S true u l r])):=by
 exact rn (.c 0 (fV hw) <| .c 0 (fB hw1) <| .c 1 (fV hw) <| .c 0 (fB hw2) <| .c 7 (SearchAt.f hs) <| .c 0 (fC (chosen_ok h d hS (V.obj 2 s) (V.tup X) u l r hl hm)) <| .e) (by kernel_rfl)
theorem step_form {S:Rows} {σ σ':H} {o rr s:Nat} {f:Int} {q:V} (h:SidesAt σ o rr S) (hs:SearchAt σ s f q) (d:Nat) (X Y:List V) (W:V) (wx wy:Str)
 (h1:eqOp (.tup X) (.tup Y) = some false) (h2:idxOp (.tup X) (.int 0) = some (.str wx)) (h3:idxOp (.tup Y) (.int 0) = some (.str wy))
 (h4:isInOp (.str "n") (.tup [.str wx,.str wy]) = some false) (h5:evCall P 8000 (d + 25) 26 [.tup X] σ = some (.bool false,σ)) (h6:eqOp (.tup Y) (enc .any) = some false)
 (h7:eqOp (.str wx) (.str "var") = some false) (h8:eqOp (.str wy) (.str "var") = some false)
 (h9:evCall P 8000 (d + 25) 34 [.obj 2 s,.tup X,.tup Y,.obj 1 o] σ = some (W,σ')) :
 evCall P 8000 (d + 26) 31 [.obj 2 s,glV "sub" (.tup X) (.tup Y),.obj 1 o] σ = some (W,σ'):=by
 have a1:evCall P 8000 (d + 25) 17 [.obj 1 o,.tup X] σ = some (.bool false,σ):=by exact rn (.c 0 (fV h2) <| .c 0 (fB h7) <| .e) (by kernel_rfl)
 have a2:evCall P 8000 (d + 25) 17 [.obj 1 o,.tup Y] σ = some (.bool false,σ):=by exact rn (.c 0 (fV h3) <| .c 0 (fB h8) <| .e) (by kernel_rfl)
 exact rn (.c 0 (fB h1) <| .c 1 (fV h2) <| .c 0 (fV h3) <| .c 0 (fB h4) <| .c 3 (fC h5) <| .c 1 (fB h6) <| .c 1 (SidesAt.fo h) <| .c 0 (fC a1) <| .c 1 (SidesAt.fo h) <| .c 0 (fC a2) <| .c 1 (SearchAt.f hs) <| .c 0 (fC h9) <| .e) (by kernel_rfl)
theorem step_eq {σ:H} {o s:Nat} (d:Nat) (X Y:List V) (h1:eqOp (.tup X) (.tup Y) = some true) :
 evCall P 8000 (d + 26) 31 [.obj 2 s,glV "sub" (.tup X) (.tup Y),.obj 1 o] σ = some (.lst [.lst []],σ):=by
 exact rn (.c 0 (fB h1) <| .e) (by kernel_rfl)
noncomputable def s100 (l:List At):Bool:=Nat.ble l.length 100
noncomputable def openK (i:Nat) (l:List At) (r:Option At):Ko:=.tup (l.map (sb i)) (r.map (sb i))
noncomputable def openM (S:Rows) (a:Ko) (u:At) (l:List At) (r:Option At):Option (List (List Goal)×Rows):=
 gd (s100 l && (mbs l r && Nat.ble S.length 1)) (some ([[⟨false,a,openK (S.length + 1) l r⟩]],S ++ [openRow S true u l r]))
noncomputable def stepM (S:Rows) (g:Goal):Option (List (List Goal)×Rows):=g.a.casesOn
 (λa=>g.b.casesOn (λb=>stepA S g.same a b) (λ_ _=>gd (!g.same && decide (a = .i64)) (some ([],S))) λu l r=>gd (!g.same && decide (a = .i64)) (openM S (.at .i64) u l r))
 (λl r=>g.b.casesOn (λ_=>none) (λl' r'=>gd (!g.same && (s100 l && s100 l')) (cond (decide (l = l') && decide (r = r')) (some ([[]],S)) (some (twG l r l' r',S)))) λu' l' r'=>gd (!g.same && s100 l) (openM S (.tup l r) u' l' r'))
 fun u l r=>g.b.casesOn (λ_=>none) (λ_ _=>none) λu' l' r'=>gd (!g.same && (s100 l && (mbs l r && Nat.ble S.length 1))) (cond (decide (u = u') && (decide (l = l') && decide (r = r'))) (some ([[]],S)) (some ([[⟨false,openK (S.length + 1) l r,.all u' l' r'⟩]],S ++ [openRow S false u l r])))
theorem setSides_same {S:Rows} {σ:H} {o r:Nat} (h:SidesAt σ o r S):setSides σ o r S = σ:=by
 rw [← setSides_rows h rfl,setRows_same h]
theorem belowG_len (S:Rows) (j:Nat) (a:At):(belowG S j a).2.length = S.length:=by
 unfold belowG
 cases hw j a
 · by_cases h:a ∈ (rowAt S j).up
   · rw [if_pos h]; rfl
   · rw [if_neg h]; exact addUp_len S j a
 · rfl
theorem aboveG_len (S:Rows) (j:Nat) (a:At):(aboveG S j a).2.length = S.length:=by
 unfold aboveG
 cases hw j a
 · by_cases h:a ∈ (rowAt S j).lo
   · rw [if_pos h]; rfl
   · rw [if_neg h]; exact addLo_len S j a
 · rfl
theorem cond_is {α:Type} {c:Bool} {x y:Option α} {r:α} {G:Prop} (h:cond c x y = some r) (h1:c = true→x = some r→G) (h2:c = false→y = some r→G):G:=
 c.casesOn (motive:=λb=>c = b→cond b x y = some r→G) h2 h1 rfl h
theorem stepA_len {S S':Rows} {sm:Bool} {a b:At} {w:List (List Goal)} (h:stepA S sm a b = some (w,S')):S'.length = S.length:=
 have e {x:List (List Goal)} {y:Rows} (h:some (x,y) = some (w,S')) (h':y.length = S.length):S'.length = S.length:=pr_is (M:=λ_ S'=>S'.length = S.length) h h'
 cond_is h (λ_ h=>e h rfl) λ_ h=>cond_is h (λ_=>nn) λ_ h=>cond_is h (λ_ h=>e h rfl) λ_ h=>cond_is h (λ_=>nn) λ_ h=>
  cond_is h (λ_ h=>b1_is h λj _ h=>cond_is h (λ_ h=>e h (belowG_len S j b)) λ_=>nn) λ_ h=>
   cond_is h (λ_ h=>b1_is h λj _ h=>cond_is h (λ_ h=>e h (aboveG_len S j a)) λ_=>nn) λ_ h=>b1_is h λ_ _ h=>e h rfl
theorem ble_of {l:List At} (h:s100 l = true):l.length ≤ 100:=Nat.le_of_ble_eq_true h
theorem an {a b:Bool} (h:(a && b) = true):a = true∧b = true:=Bool.and_eq_true_iff.mp h
theorem openM_ok {S S':Rows} {σ:H} {o rr s:Nat} {f:Int} {q:V} (hs:SearchAt σ s f q) (h:SidesAt σ o rr S) (d:Nat) (k:Ko) (u:At) (l:List At) (r:Option At) (w:List (List Goal)) (wx:Str)
 (h1:eqOp (encO k) (encO (.all u l r)) = some false) (h2:idxOp (encO k) (.int 0) = some (.str wx)) (h4:isInOp (.str "n") (.tup [.str wx,.str "all"]) = some false) (h5:evCall P 8000 (d + 25) 26 [encO k] σ = some (.bool false,σ))
 (hv:eqOp (.str wx) (.str "var") = some false) (hu:eqOp (.str wx) (.str "union") = some false) (ha:eqOp (.str wx) (.str "all") = some false) (e:openM S k u l r = some (w,S')) :
 evCall P 8000 (d + 26) 31 [.obj 2 s,glV "sub" (encO k) (encO (.all u l r)),.obj 1 o] σ = some (.lst (encW w),setSides σ o rr S'):=
 gd_is e λhc e=>pr_is (M:=λw S'=>_ = some (V.lst (encW w),setSides σ o rr S')) e (step_form h hs d _ _ _ wx "all" h1 h2 (by kernel_rfl) h4 h5 (eq_aany u l r) hv (by kernel_rfl)
  (bf_ch h hs d (Nat.le_of_ble_eq_true (an (an hc).2).2) _ u l r (ble_of (an hc).1) (an (an hc).2).1 wx h2 hu ha))
theorem stepM_ok {S S':Rows} {σ:H} {o rr s:Nat} {f:Int} {q:V} (hB:IsB σ) (hs:SearchAt σ s f q) (h:SidesAt σ o rr S) (d:Nat) (hS:S.length ≤ 2) (g:Goal) (w:List (List Goal)) (hw:stepM S g = some (w,S')) :
 evCall P 8000 (d + 26) 31 [.obj 2 s,encG g,.obj 1 o] σ = some (.lst (encW w),setSides σ o rr S'):=by
 obtain ⟨sm,x,y⟩:=g
 have same {X:V} {w':List (List Goal)} (e:evCall P 8000 (d + 26) 31 [.obj 2 s,X,.obj 1 o] σ = some (.lst (encW w'),σ)) (h':some (w',S) = some (w,S')):evCall P 8000 (d + 26) 31 [.obj 2 s,X,.obj 1 o] σ = some (.lst (encW w),setSides σ o rr S'):=
  pr_is (M:=λw S'=>_ = some (V.lst (encW w),setSides σ o rr S')) h' (e.trans (congrArg (λσ=>some (V.lst (encW w'),σ)) (setSides_same h).symm))
 cases x with
 | «at» a=>
  cases y with
  | «at» b=>exact (stepA_ok hB hs h (d + 1) hS sm a b w hw).trans (congrArg (λσ=>some (V.lst (encW w),σ)) (setSides_rows h (stepA_len hw)))
  | tup l r=>
   cases sm with
   | true=>exact nn hw
   | false=>
    refine gd_is (c:=decide (a = .i64)) hw λhc hw=>?_
    obtain rfl:=of_decide_eq_true hc
    exact same (w':=[]) (step_form h hs d _ _ _ "name" "tuple" (eq_it l r) (by kernel_rfl) (by kernel_rfl) (by kernel_rfl) (em_ok .i64 (d + 5) σ) (eq_tany l r) (by kernel_rfl) (by kernel_rfl) (bf_it hs (d + 1) l r _)) hw
  | all u l r=>
   cases sm with
   | true=>exact nn hw
   | false=>
    refine gd_is (c:=decide (a = .i64)) hw λhc hw=>?_
    obtain rfl:=of_decide_eq_true hc
    exact openM_ok hs h d (.at .i64) u l r w "name" (eq_ia u l r) (by kernel_rfl) (by kernel_rfl) (em_ok .i64 (d + 5) σ) (by kernel_rfl) (by kernel_rfl) (by kernel_rfl) hw
 | tup l r=>
  cases y with
  | «at» b=>exact nn hw
  | tup l' r'=>
   cases sm with
   | true=>exact nn hw
   | false=>
    refine gd_is (c:=s100 l && s100 l') hw λhc hw=>?_
    refine cond_is (c:=decide (l = l') && decide (r = r')) hw (λhe hw=>same (w':=[[]]) (step_eq d _ _ ((eq_tt l l' r r').trans (congrArg some he))) hw) λhe hw=>?_
    exact same (step_form h hs d _ _ _ "tuple" "tuple" ((eq_tt l l' r r').trans (congrArg some he)) (by kernel_rfl) (by kernel_rfl) (by kernel_rfl) (empty_ok l r (ble_of (an hc).1) (d + 4) σ) (eq_tany l' r') (by kernel_rfl) (by kernel_rfl) (bf_tt hs (d + 1) l l' r r' (ble_of (an hc).1) (ble_of (an hc).2) _)) hw
  | all u l' r'=>
   cases sm with
   | true=>exact nn hw
   | false=>
    refine gd_is (c:=s100 l) hw λhc hw=>?_
    exact openM_ok hs h d (.tup l r) u l' r' w "tuple" (eq_ta l l' r r' u) (by kernel_rfl) (by kernel_rfl) (empty_ok l r (ble_of hc) (d + 4) σ) (by kernel_rfl) (by kernel_rfl) (by kernel_rfl) hw
 | all u l r=>
  cases y with
  | «at» b=>exact nn hw
  | tup l' r'=>exact nn hw
  | all u' l' r'=>
   cases sm with
   | true=>exact nn hw
   | false=>
    refine gd_is (c:=s100 l && (mbs l r && Nat.ble S.length 1)) hw λhc hw=>?_
    refine cond_is (c:=decide (u = u') && (decide (l = l') && decide (r = r'))) hw (λhe hw=>same (w':=[[]]) (step_eq d _ _ ((eq_aa u u' l l' r r').trans (congrArg some he))) hw) λhe hw=>?_
    refine pr_is (M:=λw S'=>_ = some (V.lst (encW w),setSides σ o rr S')) hw ?_
    exact step_form h hs d _ _ _ "all" "all" ((eq_aa u u' l l' r r').trans (congrArg some he)) (by kernel_rfl) (by kernel_rfl) (by kernel_rfl) (emptyAll_ok u l r (ble_of (an hc).1) (d + 3) σ) (eq_aany u' l' r') (by kernel_rfl) (by kernel_rfl) (bf_all h (d + 1) (Nat.le_of_ble_eq_true (an (an hc).2).2) _ _ u l r (ble_of (an hc).1) (an (an hc).2).1)
structure Ent where
 l:Nat
 o:Nat
 r:Nat
 left:List Goal
 S:Rows
noncomputable def Ent.adr (e:Ent):List Nat:=[e.l,e.o,e.r]
structure EntAt (σ:H) (e:Ent):Prop where
 list:σ[e.l]? = some (.list (encGs e.left.reverse))
 sides:SidesAt σ e.o e.r e.S
 two:e.S.length ≤ 2
noncomputable def encEnt (e:Ent):V:=.tup [.ref e.l,.obj 1 e.o]
structure Inv (σ0 σ:H) (s w:Nat) (f:Int) (q:V) (E W:List Ent):Prop where
 ext:∃ τ,σ = σ0 ++ τ
 srch:σ[s]? = some (.recd 2 [kobj,.int f,q])
 wait:σ[w]? = some (.list (W.reverse.map encEnt))
 ents:∀ e ∈ E ++ W,EntAt σ e
 nd:(s :: w :: (E ++ W).flatMap Ent.adr).Nodup
 lo:∀ a ∈ s :: w :: (E ++ W).flatMap Ent.adr,σ0.length ≤ a
theorem al (e:Ent):e.l ∈ e.adr:=.head _
theorem ao (e:Ent):e.o ∈ e.adr:=.tail _ (.head _)
theorem ar (e:Ent):e.r ∈ e.adr:=.tail _ (.tail _ (.head _))
theorem adr_all {e:Ent} {M:Nat→Prop} (h1:M e.l) (h2:M e.o) (h3:M e.r):∀ a ∈ e.adr,M a:=λa ha=>(List.mem_cons.mp ha).elim (λh=>h ▸ h1) λha=>(List.mem_cons.mp ha).elim (λh=>h ▸ h2) λha=>List.mem_singleton.mp ha ▸ h3
theorem ent_frame {σ σ':H} {e:Ent} (h:EntAt σ e) (hf:∀ a ∈ e.adr,σ'[a]? = σ[a]?):EntAt σ' e:=
 ⟨(hf _ (al e)).trans h.list,⟨(hf _ (ao e)).trans h.sides.obj,(hf _ (ar e)).trans h.sides.rows⟩,h.two⟩
theorem ext_set {σ0 σ:H} {x:Nat} {v:O} (h:∃ τ,σ = σ0 ++ τ) (hx:σ0.length ≤ x):∃ τ,σ.set x v = σ0 ++ τ:=by
 obtain ⟨τ,rfl⟩:=h
 exact ⟨τ.set (x - σ0.length) v,by rw [List.set_append_right _ _ hx]⟩
theorem lt_of_some {σ:H} {a:Nat} {x:O} (h:σ[a]? = some x):a < σ.length:=(List.getElem?_eq_some_iff.mp h).1
theorem get_app {σ τ:H} {a:Nat} (h:a < σ.length):(σ ++ τ)[a]? = σ[a]?:=List.getElem?_append_left h
theorem ent_lt {σ:H} {e:Ent} (h:EntAt σ e):∀ a ∈ e.adr,a < σ.length:=adr_all (lt_of_some h.list) (lt_of_some h.sides.obj) (lt_of_some h.sides.rows)
theorem mem_adr {E:List Ent} {e:Ent} (h:e ∈ E) {a:Nat} (ha:a ∈ e.adr):a ∈ E.flatMap Ent.adr:=List.mem_flatMap.mpr ⟨e,h,ha⟩
theorem inv_app {σ0 σ:H} {s w:Nat} {f:Int} {q:V} {E W:List Ent} (h:Inv σ0 σ s w f q E W) (τ:H):Inv σ0 (σ ++ τ) s w f q E W:=
 ⟨h.ext.elim λτ0 e0=>⟨τ0 ++ τ,by rw [e0,List.append_assoc]⟩,(get_app (lt_of_some h.srch)).trans h.srch,(get_app (lt_of_some h.wait)).trans h.wait,λe he=>ent_frame (h.ents e he) λa ha=>get_app (ent_lt (h.ents e he) a ha),h.nd,h.lo⟩
theorem s_ne {s w:Nat} {X:List Nat} (h:(s :: w :: X).Nodup):s ≠ w∧(∀ a ∈ X,s ≠ a)∧∀ a ∈ X,w ≠ a:=
 have h1:=List.nodup_cons.mp h
 have h2:=List.nodup_cons.mp h1.2
 ⟨λe=>h1.1 (e ▸ .head _),λa ha e=>h1.1 (e ▸ .tail _ ha),λa ha e=>h2.1 (e ▸ ha)⟩
theorem inv_fuel {σ0 σ:H} {s w:Nat} {f:Int} {q:V} {E W:List Ent} (h:Inv σ0 σ s w f q E W) (f':Int):Inv σ0 (σ.set s (.recd 2 [kobj,.int f',q])) s w f' q E W:=
 have hn:=s_ne h.nd
 ⟨ext_set h.ext (h.lo s (.head _)),List.getElem?_set_self (lt_of_some h.srch),(List.getElem?_set_ne hn.1).trans h.wait,λe he=>ent_frame (h.ents e he) λa ha=>List.getElem?_set_ne (hn.2.1 a (mem_adr he ha)),h.nd,h.lo⟩
theorem nd_cur {s w:Nat} {c:Ent} {W:List Ent} (h:(s :: w :: ([c] ++ W).flatMap Ent.adr).Nodup) :
 (∀ a ∈ c.adr,s ≠ a∧w ≠ a∧∀ e ∈ W,a ∉ e.adr)∧c.l ≠ c.o∧c.l ≠ c.r:=
 have hn:=s_ne h
 have h2:(c.adr ++ W.flatMap Ent.adr).Nodup:=(List.nodup_cons.mp (List.nodup_cons.mp h).2).2
 have h3:=List.nodup_append.mp h2
 have h4:=(List.nodup_cons.mp h3.1).1
 ⟨λa ha=>⟨hn.2.1 a (List.mem_append_left _ ha),hn.2.2 a (List.mem_append_left _ ha),λe he ha'=>h3.2.2 a ha a (mem_adr he ha') rfl⟩,λe=>h4 (e ▸ .head _),λe=>h4 (e ▸ .tail _ (.head _))⟩
theorem in_c {c:Ent} {W:List Ent} {s w a:Nat} (h:a ∈ c.adr):a ∈ s :: w :: ([c] ++ W).flatMap Ent.adr:=.tail _ (.tail _ (List.mem_append_left _ h))
theorem ents_c {c:Ent} {W:List Ent} {M:Ent→Prop} (h1:M c) (h2:∀ e ∈ W,M e):∀ e ∈ [c] ++ W,M e:=λe he=>(List.mem_cons.mp he).elim (λh=>h ▸ h1) (h2 e)
theorem inv_left {σ0 σ:H} {s w:Nat} {f:Int} {q:V} {c:Ent} {W:List Ent} (h:Inv σ0 σ s w f q [c] W) (left':List Goal):Inv σ0 (σ.set c.l (.list (encGs left'.reverse))) s w f q [{ c with left:=left' }] W:=
 have ⟨hn,hlo,hlr⟩:=nd_cur h.nd
 have hl:=hn c.l (al c)
 have hc:=h.ents c (.head _)
 ⟨ext_set h.ext (h.lo c.l (in_c (al c))),(List.getElem?_set_ne (Ne.symm hl.1)).trans h.srch,(List.getElem?_set_ne (Ne.symm hl.2.1)).trans h.wait,
  ents_c ⟨List.getElem?_set_self (lt_of_some hc.list),⟨(List.getElem?_set_ne hlo).trans hc.sides.obj,(List.getElem?_set_ne hlr).trans hc.sides.rows⟩,hc.two⟩
   fun e he=>ent_frame (h.ents e (List.mem_append_right _ he)) λa ha=>List.getElem?_set_ne λe':c.l = a=>hl.2.2 e he (e' ▸ ha),h.nd,h.lo⟩
theorem inv_sides {σ0 σ:H} {s w:Nat} {f:Int} {q:V} {c:Ent} {W:List Ent} (h:Inv σ0 σ s w f q [c] W) (S':Rows) (hS':S'.length ≤ 2):Inv σ0 (setSides σ c.o c.r S') s w f q [{ c with S:=S' }] W:=
 have ⟨hn,hlo,hlr⟩:=nd_cur h.nd
 have ho:=hn c.o (ao c)
 have hr:=hn c.r (ar c)
 have hc:=h.ents c (.head _)
 have fr:∀ a,c.o ≠ a→c.r ≠ a→(setSides σ c.o c.r S')[a]? = σ[a]?:=λa h1 h2=>(List.getElem?_set_ne h2).trans (List.getElem?_set_ne h1)
 ⟨ext_set (ext_set h.ext (h.lo c.o (in_c (ao c)))) (h.lo c.r (in_c (ar c))),(fr s (Ne.symm ho.1) (Ne.symm hr.1)).trans h.srch,(fr w (Ne.symm ho.2.1) (Ne.symm hr.2.1)).trans h.wait,
  ents_c ⟨(fr c.l (Ne.symm hlo) (Ne.symm hlr)).trans hc.list,sides_put hc.sides S',hS'⟩
   fun e he=>ent_frame (h.ents e (List.mem_append_right _ he)) λa ha=>fr a (λe'=>ho.2.2 e he (e' ▸ ha)) λe'=>hr.2.2 e he (e' ▸ ha),h.nd,h.lo⟩
noncomputable def newEnt (n:Nat) (left:List Goal) (S:Rows):Ent:=⟨n,n + 2,n + 1,left,S⟩
noncomputable def three (left:List Goal) (S:Rows) (n:Nat):H:=[.list (encGs left.reverse),.dict (keys S.length) (S.map encR),.recd 1 [.ref (n + 1),.int S.length]]
theorem nd_ins {A B X:List Nat} (h:(B ++ X).Nodup) (hA:A.Nodup) (hd:∀ a ∈ A,∀ b ∈ B ++ X,a ≠ b):(B ++ (A ++ X)).Nodup:=by
 have p:(B ++ (A ++ X)).Perm (A ++ (B ++ X)):=by
  rw [← List.append_assoc,← List.append_assoc]
  exact List.perm_append_comm.append_right X
 exact p.nodup_iff.mpr (List.nodup_append.mpr ⟨hA,h,hd⟩)
theorem inv_push {σ0 σ:H} {s w:Nat} {f:Int} {q:V} {c:Ent} {W:List Ent} (h:Inv σ0 σ s w f q [c] W) (left':List Goal) :
 Inv σ0 ((σ ++ three left' c.S σ.length).set w (.list (W.reverse.map encEnt ++ [encEnt (newEnt σ.length left' c.S)]))) s w f q [c] (newEnt σ.length left' c.S :: W):=by
 have h1:=inv_app h (three left' c.S σ.length)
 have hc:=h.ents c (.head _)
 have hw:=lt_of_some h.wait
 have hn:=s_ne h.nd
 have h0:σ0.length ≤ σ.length:=h.ext.elim λτ0 e0=>by rw [e0,List.length_append]; exact Nat.le_add_right _ _
 have hadr:∀ a ∈ s :: w :: ([c] ++ W).flatMap Ent.adr,a < σ.length:=λa ha=>(List.mem_cons.mp ha).elim (λe=>e ▸ lt_of_some h.srch) λha=>(List.mem_cons.mp ha).elim (λe=>e ▸ hw) λha=>
  (List.mem_flatMap.mp ha).elim λe he=>ent_lt (h.ents e he.1) a he.2
 have hnw:∀ e ∈ [c] ++ W,∀ a ∈ e.adr,w ≠ a:=λe he a ha=>hn.2.2 a (mem_adr he ha)
 have t:∀ i,((σ ++ three left' c.S σ.length).set w (.list (W.reverse.map encEnt ++ [encEnt (newEnt σ.length left' c.S)])))[σ.length + i]? = (three left' c.S σ.length)[i]?:=λi=>
  (List.getElem?_set_ne (Nat.ne_of_lt (Nat.lt_of_lt_of_le hw (Nat.le_add_right _ _)))).trans ((List.getElem?_append_right (Nat.le_add_right _ _)).trans (congrArg (λj=>(three left' c.S σ.length)[j]?) (Nat.add_sub_cancel_left ..)))
 refine ⟨ext_set h1.ext (h.lo w (.tail _ (.head _))),(List.getElem?_set_ne (Ne.symm hn.1)).trans h1.srch,?_,ents_c ?_ λe he=>(List.mem_cons.mp he).elim (λe'=>Eq.subst (motive:=λe=>EntAt _ e) e'.symm ⟨t 0,⟨t 2,t 1⟩,hc.two⟩) λhe=>?_,?_,?_⟩
 · rw [List.getElem?_set_self (lt_of_some h1.wait),List.reverse_cons,List.map_append]; rfl
 · exact ent_frame (h1.ents c (.head _)) λa ha=>List.getElem?_set_ne (hnw c (.head _) a ha)
 · exact ent_frame (h1.ents e (.tail _ he)) λa ha=>List.getElem?_set_ne (hnw e (.tail _ he) a ha)
 · exact nd_ins (A:=[σ.length,σ.length + 2,σ.length + 1]) (B:=s :: w :: c.adr) (X:=W.flatMap Ent.adr) h.nd (by simp) λa ha b hb e=>Nat.lt_irrefl b (Nat.lt_of_lt_of_le (hadr b hb) (e ▸ adr_all (e:=newEnt σ.length left' c.S) (M:=λa=>σ.length ≤ a) (Nat.le_refl _) (Nat.le_add_right _ _) (Nat.le_add_right _ _) a ha))
 · intro a (ha:a ∈ (s :: w :: c.adr) ++ ((newEnt σ.length left' c.S).adr ++ W.flatMap Ent.adr))
   refine (List.mem_append.mp ha).elim (λha=>h.lo a (List.mem_append_left (W.flatMap Ent.adr) ha)) λha=>(List.mem_append.mp ha).elim (λha=>Nat.le_trans h0 ?_) λha=>h.lo a (List.mem_append_right (s :: w :: c.adr) ha)
   exact adr_all (e:=newEnt σ.length left' c.S) (M:=λa=>σ.length ≤ a) (Nat.le_refl _) (Nat.le_add_right _ _) (Nat.le_add_right _ _) a ha
theorem drop_c {s w a:Nat} {c:Ent} {W:List Ent} (h:a ∈ s :: w :: W.flatMap Ent.adr):a ∈ s :: w :: ([c] ++ W).flatMap Ent.adr:=
 (List.mem_cons.mp h).elim (λe=>e ▸ .head _) λh=>.tail _ ((List.mem_cons.mp h).elim (λe=>e ▸ .head _) λh=>.tail _ (List.mem_append_right _ h))
theorem inv_drop {σ0 σ:H} {s w:Nat} {f:Int} {q:V} {c:Ent} {W:List Ent} (h:Inv σ0 σ s w f q [c] W):Inv σ0 σ s w f q [] W:=
 have h1:=List.nodup_cons.mp h.nd
 have h2:=List.nodup_cons.mp h1.2
 have h3:(c.adr ++ W.flatMap Ent.adr).Nodup:=h2.2
 have hn:=s_ne h.nd
 ⟨h.ext,h.srch,h.wait,λe he=>h.ents e (List.mem_append_right _ he),List.nodup_cons.mpr ⟨λhs=>(List.mem_cons.mp hs).elim hn.1 λhs=>hn.2.1 s (List.mem_append_right _ hs) rfl,List.nodup_cons.mpr ⟨λhs=>hn.2.2 w (List.mem_append_right _ hs) rfl,(List.nodup_append.mp h3).2.1⟩⟩,λa ha=>h.lo a (drop_c ha)⟩
theorem inv_pop {σ0 σ:H} {s w:Nat} {f:Int} {q:V} {e:Ent} {W:List Ent} (h:Inv σ0 σ s w f q [] (e :: W)):Inv σ0 (σ.set w (.list (W.reverse.map encEnt))) s w f q [e] W:=
 have hn:=s_ne h.nd
 ⟨ext_set h.ext (h.lo w (.tail _ (.head _))),(List.getElem?_set_ne (Ne.symm hn.1)).trans h.srch,List.getElem?_set_self (lt_of_some h.wait),λe' he=>ent_frame (h.ents e' he) λa ha=>List.getElem?_set_ne (hn.2.2 a (mem_adr he ha)),h.nd,h.lo⟩
theorem sidesNew_ok (d:Nat) (σ:H):evCall P 8000 (d + 1) 13 [] σ = some (.obj 1 (σ.length + 1),σ ++ [.dict [] [],.recd 1 [.ref σ.length,.int 0]]):=by
 have h:evCall P 8000 (d + 1) 13 [] σ = some (.obj 1 (σ ++ [O.dict [] []]).length,(σ ++ [O.dict [] []]) ++ [.recd 1 [.ref σ.length,.int 0]]):=by kernel_rfl
 rw [List.length_append,List.append_assoc] at h
 exact h
theorem dict_ok {S:Rows} (hS:S.length ≤ 2):biOp .dict [.dct (keys S.length) (S.map encR)] = some (.dct (keys S.length) (S.map encR)):=
 congrArg (λb=>gd b (some (V.dct (keys S.length) (S.map encR)))) (Nat.ble_eq_true_of_le (by unfold keys; rw [List.length_map,List.length_range]; exact Nat.le_trans hS (by decide)))
theorem copied_ok {S:Rows} {σ:H} {o r:Nat} (h:SidesAt σ o r S) (d:Nat) (hS:S.length ≤ 2):evCall P 8000 (d + 2) 14 [.obj 1 o] σ = some (.obj 1 (σ.length + 1),σ ++ [.dict (keys S.length) (S.map encR),.recd 1 [.ref σ.length,.int S.length]]):=by
 have h':(σ ++ [O.dict (keys S.length) (S.map encR)])[o]? = some (.recd 1 [.ref r,.int S.length]):=(get_app (sides_lt h).1).trans h.obj
 have e:evCall P 8000 (d + 2) 14 [.obj 1 o] σ = some (.obj 1 (σ ++ [O.dict (keys S.length) (S.map encR)]).length,(σ ++ [O.dict (keys S.length) (S.map encR)]) ++ [.recd 1 [.ref σ.length,.int S.length]]):=by
  exact rn (.c 0 (SidesAt.fo h) <| .c 0 (SidesAt.fr h) <| .c 0 (fV (dict_ok hS)) <| .c 0 (fO h') <| .e) (by kernel_rfl)
 rw [List.length_append,List.append_assoc] at e
 exact e
noncomputable abbrev Wm:=List (List Goal×Rows)
noncomputable def nextM (k:List Goal→Rows→Wm→Option Bool) (W:Wm):Option Bool:=W.casesOn (some false) λp W=>k p.1 p.2 W
noncomputable def okLens (left w0:List Goal) (ws:List (List Goal)) (W:Wm):Bool:=Nat.ble left.length 1000 && (Nat.ble ws.length 100 && (Nat.ble W.length 1000 && ((w0 :: ws).all λw=>Nat.ble w.length 1000)))
noncomputable def askAt (S:Rows) (o:Option Nat):Bool:=o.casesOn false λj=>(rowAt S j).asked
noncomputable def hasAt (S:Rows) (g:Goal):Bool:=g.a.casesOn (λ_=>g.b.casesOn (λb=>askAt S (vix b)) (λ_ _=>false) λ_ _ _=>false) (λ_ _=>false) λ_ _ _=>false
noncomputable def hasOk (S:Rows) (g:Goal) (ws:List (List Goal)):Bool:=ws.casesOn true λ_ _=>hasAt S g
noncomputable def exS (ex:List Goal→Rows→Wm→Option Bool) (g:Goal) (left:List Goal) (W:Wm) (p:List (List Goal)×Rows):Option Bool:=
 p.1.casesOn (gd (Nat.ble left.length 1000 && Nat.ble p.2.length 2) (nextM ex W)) λw0 ws=>gd (okLens left w0 ws W && (hasOk p.2 g ws && Nat.ble p.2.length 2)) (ex (w0.reverse ++ left) p.2 (ws.map (λw=>(w.reverse ++ left,p.2)) ++ W))
noncomputable def exM (conc:Rows→Option Bool):Nat→List Goal→Rows→Wm→Option Bool
 | 0,_,_,_=>none
 | n + 1,l,S,W=>l.casesOn (b1 (conc S) λc=>cond c (some true) (nextM (exM conc n) W)) λg left=>b1 (stepM S g) (exS (exM conc n) g left W)
noncomputable def R (s l o w:Nat) (x y z:Option Slot):Rho:=[some (.v (.obj 2 s)),some (.v (.ref l)),some (.v (.obj 1 o)),some (.v (.ref w)),x,y,z]
theorem eq_nil (L:List V) {b:Bool} (h:L.isEmpty = b):eqOp (.lst L) (.lst []) = some b:=by cases L <;> exact congrArg some h
theorem s4 {L:List V} (h:L.length ≤ 4000):shortL L = true:=Nat.ble_eq_true_of_le h
theorem popL_ok (L:List V) (v:V) (hl:L.length ≤ 3000):popL (L ++ [v]) = some (L,v):=by
 have hs:shortL (L ++ [v]) = true:=s4 (by rw [List.length_append]; exact Nat.le_trans (Nat.add_le_add_right hl 1) (by decide))
 have h (M:List V) (hM:M ≠ []):popL M = gd (shortL M) (b1 M.getLast? λz=>some (M.dropLast,z)):=by
  cases M with
  | nil=>exact absurd rfl hM
  | cons a r=>rfl
 rw [h _ (by simp),hs,List.getLast?_concat,List.dropLast_concat]
 rfl
theorem len_w {ws:List (List Goal)} (h:ws.length ≤ 200):biOp .len [.lst (encW ws)] = some (.int ws.length):=len_v (List.length_map ..) h
theorem encGs_app (a b:List Goal):encGs a ++ encGs b = encGs (a ++ b):=List.map_append.symm
theorem encGs_len (a:List Goal):(encGs a).length = a.length:=List.length_map ..
theorem rev_app (a b:List Goal):encGs b.reverse ++ encGs a = encGs (a.reverse ++ b).reverse:=by rw [encGs_app,List.reverse_append,List.reverse_reverse]
theorem app_ok {σ:H} {s l o w r:Nat} {S:Rows} (h:SidesAt σ o r S) (d:Nat) (hS:S.length ≤ 2) (x y:Option Slot) (L M W:List V) (hl:σ[l]? = some (.list L)) (hL:L.length ≤ 4000) (hM:M.length ≤ 4000) (hw:σ[w]? = some (.list W)) (hW:W.length ≤ 4000) :
 evSs (ev (d + 26)) 8000 b_push (R s l o w x y (some (.v (.lst M)))) σ = some (.next,R s l o w x y (some (.v (.lst M))),List.set (σ ++ ([O.list (L ++ M),O.dict (keys S.length) (S.map encR),O.recd 1 [.ref (σ.length + 1),.int S.length]]:List O)) w (O.list (W ++ [V.tup [.ref σ.length,.obj 1 (σ.length + 2)]]))):=by
 have hs':SidesAt (σ ++ [.list (L ++ M)]) o r S:=⟨(get_app (sides_lt h).1).trans h.obj,(get_app (sides_lt h).2).trans h.rows⟩
 have hc:=copied_ok hs' (d + 24) hS
 rw [List.length_append,List.append_assoc] at hc
 have hw':(σ ++ ([O.list (L ++ M),O.dict (keys S.length) (S.map encR),O.recd 1 [.ref (σ.length + 1),.int S.length]]:List O))[w]? = some (.list W):=(get_app (lt_of_some hw)).trans hw
 have hb:binOp .add (.lst L) (.lst M) = some (.lst (L ++ M)):=congrArg (λb=>gd b (some (V.lst (L ++ M)))) (Bool.and_eq_true_iff.mpr ⟨s4 hL,s4 hM⟩)
 have h2:(shortL W && shortL [V.tup [.ref σ.length,.obj 1 (σ.length + 2)]]) = true:=Bool.and_eq_true_iff.mpr ⟨s4 hW,rfl⟩
 exact rnSs (.c 0 (fO hw) <| .c 0 (fO hl) <| .c 0 (fV hb) <| .c 0 (SidesAt.fo hs') <| .c 0 (fC hc) <| .c 0 (fO hw') <| .c 0 (fT h2) <| .e) (by kernel_rfl)
noncomputable def entM (e:Ent):List Goal×Rows:=(e.left,e.S)
theorem push_loop {σ0:H} {s w:Nat} {f:Int} {q:V} {c:Ent} (x y:Option Slot) (d:Nat):∀ (wys:List (List Goal)) (We:List Ent) (σ:H) (z:Option Slot),Inv σ0 σ s w f q [c] We→c.left.length ≤ 1000→(∀ wy ∈ wys,wy.length ≤ 1000)→We.length + wys.length ≤ 2000→
 ∃ σ' z' We',loopS (lpS (ev (d + 26)) 6 b_push) (encW wys) (R s c.l c.o w x y z) σ = some (.next,R s c.l c.o w x y z',σ')∧Inv σ0 σ' s w f q [c] We'∧We'.map entM = (wys.reverse.map λwy=>(wy.reverse ++ c.left,c.S)) ++ We.map entM
 | [],We,σ,z,h,_,_,_=>⟨σ,z,We,rfl,h,rfl⟩
 | wy :: wys,We,σ,z,h,hl,hwy,hn=>by
  have hc:=h.ents c (.head _)
  have hn:We.length + 1 + wys.length ≤ 2000:=by rw [List.length_cons] at hn; omega
  have ha:=app_ok (s:=s) hc.sides d hc.two x y (encGs c.left.reverse) (encGs wy) (We.reverse.map encEnt) hc.list (by rw [encGs_len,List.length_reverse]; omega) (by rw [encGs_len]; exact Nat.le_trans (hwy wy (.head _)) (by decide)) h.wait (by rw [List.length_map,List.length_reverse]; omega)
  have hp:=inv_push h (wy.reverse ++ c.left)
  rw [rev_app] at ha
  obtain ⟨σ',z',We',h1,h2,h3⟩:=push_loop x y d wys _ _ (some (.v (.lst (encGs wy)))) hp hl (λwy' hm=>hwy wy' (.tail _ hm)) hn
  refine ⟨σ',z',We',lp_next ha h1,h2,h3.trans ?_⟩
  rw [List.reverse_cons,List.map_append,List.append_assoc]
  rfl
theorem push_ok {σ0 σ:H} {s w:Nat} {f:Int} {q:V} {c:Ent} {We:List Ent} (x z:Option Slot) (d:Nat) (w0:List Goal) (ws:List (List Goal)) (h:Inv σ0 σ s w f q [c] We) (hl:c.left.length ≤ 1000) (hwy:∀ wy ∈ ws,wy.length ≤ 1000) (hn:We.length ≤ 1000) (hws:ws.length ≤ 100) :
 ∃ σ' z' We',evS (ev (d + 26)) 8000 w_push (R s c.l c.o w x (some (.v (.lst (encW (w0 :: ws))))) z) σ = some (.next,R s c.l c.o w x (some (.v (.lst (encW (w0 :: ws))))) z',σ')∧
  Inv σ0 σ' s w f q [c] We'∧We'.map entM = (ws.map λwy=>(wy.reverse ++ c.left,c.S)) ++ We.map entM:=by
 obtain ⟨σ',z',We',h1,h2,h3⟩:=push_loop x (some (.v (.lst (encW (w0 :: ws))))) d ws.reverse We σ z h hl (λwy hm=>hwy wy (List.mem_reverse.mp hm)) (by rw [List.length_reverse]; omega)
 rw [List.reverse_reverse] at h3
 have hs:slcOp .revTo1 (.lst (encW (w0 :: ws))) .none = some (.lst (encW ws.reverse)):=
  (congrArg (λb=>gd b (some (V.lst (encW ws).reverse))) (s4 (by show (ws.map _).length + 1 ≤ 4000; rw [List.length_map]; omega))).trans (congrArg (λl=>some (V.lst l)) List.map_reverse.symm)
 exact ⟨σ',z',We',fr_ok (by exact rnI (.c 0 (fV hs) <| .e) (by kernel_rfl)) h1,h2,h3⟩
theorem isB_of {σ0 σ:H} (hB:IsB σ0) (h:∃ τ,σ = σ0 ++ τ):IsB σ:=by
 obtain ⟨k,τ0,rfl⟩:=hB
 obtain ⟨τ,rfl⟩:=h
 exact ⟨k,τ0 ++ τ,rfl⟩
theorem inv_step {σ0 σ:H} {s w:Nat} {f:Int} {q:V} {c:Ent} {We:List Ent} (h:Inv σ0 σ s w f q [c] We) (g:Goal) (left:List Goal) (hg:c.left = g :: left) :
 σ[c.l]? = some (.list (encGs left.reverse ++ [encG g])):=by
 have:=(h.ents c (.head _)).list
 rw [hg,List.reverse_cons,← encGs_app] at this
 exact this
theorem ge0 {f:Int} (h:1 ≤ f):decide (0 ≤ f - 1) = true:=decide_eq_true (by omega)
theorem round_fail {σ0 σ:H} {s w:Nat} {f:Int} {q:V} {c:Ent} {We:List Ent} (hB:IsB σ0) (h:Inv σ0 σ s w f q [c] We) (x y z:Option Slot) (d:Nat) (g:Goal) (left:List Goal) (S':Rows) (hg:c.left = g :: left) (hl:left.length ≤ 1000) (hS':S'.length ≤ 2) (hst:stepM c.S g = some ([],S')) (hf:1 ≤ f) :
 ∃ σ' ρ',evSs (ev (d + 26)) 8000 b_set (R s c.l c.o w x y z) σ = some (.ret .none,ρ',σ')∧Inv σ0 σ' s w (f - 1) q [] We:=by
 have h1:=inv_fuel h (f - 1)
 have h2:=inv_left h1 left
 have hp:=inv_step h1 g left hg
 have hc:=h2.ents _ (.head _)
 have h3:=inv_sides h2 S' hS'
 have hs:=stepM_ok (isB_of hB h2.ext) ⟨h2.srch⟩ hc.sides d hc.two g [] hst
 have hpo:=popL_ok (encGs left.reverse) (encG g) (by rw [encGs_len,List.length_reverse]; omega)
 have h4:=h2.srch
 have h5:=h.srch
 refine ⟨_,R s c.l c.o w (some (.v (encG g))) (some (.v (.lst []))) z,?_,inv_drop h3⟩
 exact rnSs (.c 0 (fO h5) <| .c 1 (fO h5) <| .c 0 (fO hp) <| .c 0 (fP hpo) <| .c 0 (fO h4) <| .c 0 (fT (ge0 hf)) <| .c 0 (fO h4) <| .c 0 (fC hs) <| .e) (by kernel_rfl)
theorem round_go {σ0 σ:H} {s w:Nat} {f:Int} {q:V} {c:Ent} {We:List Ent} (hB:IsB σ0) (h:Inv σ0 σ s w f q [c] We) (x y z:Option Slot) (d:Nat) (g:Goal) (left:List Goal) (S':Rows) (w0:List Goal) (ws:List (List Goal)) (hg:c.left = g :: left) (hl:left.length ≤ 1000) (hS':S'.length ≤ 2) (hst:stepM c.S g = some (w0 :: ws,S')) (hf:1 ≤ f)
 (hw:∀ wy ∈ w0 :: ws,wy.length ≤ 1000) (hn:We.length ≤ 1000) (hws:ws.length ≤ 100) (hh:hasOk S' g ws = true) :
 ∃ σ' x' y' z' We',evSs (ev (d + 26)) 8000 b_set (R s c.l c.o w x y z) σ = some (.next,R s c.l c.o w x' y' z',σ')∧Inv σ0 σ' s w (f - 1) q [⟨c.l,c.o,c.r,w0.reverse ++ left,S'⟩] We'∧We'.map entM = (ws.map λwy=>(wy.reverse ++ left,S')) ++ We.map entM:=by
 have h1:=inv_fuel h (f - 1)
 have h2:=inv_left h1 left
 have hp:=inv_step h1 g left hg
 have hc:=h2.ents _ (.head _)
 have h3:=inv_sides h2 S' hS'
 have hc3:=h3.ents _ (.head _)
 have hs:=stepM_ok (isB_of hB h2.ext) ⟨h2.srch⟩ hc.sides d hc.two g (w0 :: ws) hst
 obtain ⟨σ4,z',We',e4,h4,hm4⟩:=push_ok (some (.v (encG g))) z d w0 ws h3 hl (λwy hm=>hw wy (.tail _ hm)) hn hws
 have hc4:=(h4.ents _ (.head _)).list
 have h5:=inv_left h4 (w0.reverse ++ left)
 rw [← rev_app] at h5
 have hpo:=popL_ok (encGs left.reverse) (encG g) (by rw [encGs_len,List.length_reverse]; omega)
 have h6:=h2.srch
 have h7:=h.srch
 have hsh:(shortL (encGs left.reverse) && shortL (encGs w0)) = true:=Bool.and_eq_true_iff.mpr ⟨s4 (by rw [encGs_len,List.length_reverse]; omega),s4 (by rw [encGs_len]; exact Nat.le_trans (hw w0 (.head _)) (by decide))⟩
 refine ⟨_,some (.v (encG g)),some (.v (.lst (encW (w0 :: ws)))),z',We',?_,h5,hm4⟩
 cases ws with
 | nil=>exact rnSs (.c 0 (fO h7) <| .c 1 (fO h7) <| .c 0 (fO hp) <| .c 0 (fP hpo) <| .c 0 (fO h6) <| .c 0 (fT (ge0 hf)) <| .c 0 (fO h6) <| .c 0 (fC hs) <| .c 5 (fS e4) <| .c 0 (fO hc4) <| .c 1 (fO hc4) <| .c 0 (fT hsh) <| .e) (by kernel_rfl)
 | cons w1 ws=>
  have hln:=len_w (ws:=w0 :: w1 :: ws) (Nat.le_trans (Nat.succ_le_succ hws) (by decide))
  have hlt:decide ((1:Int) < ((w0 :: w1 :: ws).length:Nat)) = true:=decide_eq_true (by show (1:Int) < ((ws.length + 1 + 1:Nat):Int); omega)
  obtain ⟨sm,ka,kb⟩:=g
  cases ka with
  | tup _ _=>exact ff hh
  | all _ _ _=>exact ff hh
  | «at» a=>
   cases kb with
   | tup _ _=>exact ff hh
   | all _ _ _=>exact ff hh
   | «at» b=>
    cases hv:vix b with
    | none=>exact ff ((congrArg (askAt S') hv).symm.trans hh)
    | some j=>
     have ha:(rowAt S' j).asked = true:=(congrArg (askAt S') hv).symm.trans hh
     exact rnSs (.c 0 (fO h7) <| .c 1 (fO h7) <| .c 0 (fO hp) <| .c 0 (fP hpo) <| .c 0 (fO h6) <| .c 0 (fT (ge0 hf)) <| .c 0 (fO h6) <| .c 0 (fC hs) <| .c 0 (fV hln) <| .c 0 (fT hlt) <| .c 0 (SidesAt.fo hc3.sides) <| .c 1 (fC (hasAsked_ok hc3.sides (d + 4) hc3.two a b j hv ha)) <| .c 3 (fS e4) <| .c 0 (fO hc4) <| .c 1 (fO hc4) <| .c 0 (fT hsh) <| .e) (by kernel_rfl)
noncomputable def ConcOk (conc:Rows→Option Bool) (d:Nat):Prop:=∀ (σ:H) (s:Nat) (f:Int) (q:V) (o r:Nat) (S:Rows) (b:Bool),IsB σ→SearchAt σ s f q→SidesAt σ o r S→S.length ≤ 2→conc S = some b→∃ τ,evCall P 8000 (d + 26) 38 [.obj 2 s,.obj 1 o] σ = some (.bool b,σ ++ τ)
noncomputable def lwS (C:Orc) (t:E) (b ss:List S) (N:Nat) (ρ:Rho) (σ:H):R3:=b3 (loopW (evE C t) (evSs C 8000 b) N ρ σ) (evSs C 8000 ss)
section
variable {C:Orc} {t:E} {b ss:List S} {N:Nat} {ρ ρ':Rho} {σ σ' σ'':H} {v:V}
theorem lw_stop (h:evE C t ρ σ = some (.bool false,σ')):lwS C t b ss (N + 1) ρ σ = evSs C 8000 ss ρ σ':=
 congrArg (λo=>b3 (bT o (λσ=>b3 (evSs C 8000 b ρ σ) (loopW (evE C t) (evSs C 8000 b) N)) λσ=>some (.next,ρ,σ)) (evSs C 8000 ss)) h
theorem lw_go (h:evE C t ρ σ = some (.bool true,σ')) (hb:evSs C 8000 b ρ σ' = some (.next,ρ',σ'')):lwS C t b ss (N + 1) ρ σ = lwS C t b ss N ρ' σ'':=
 (congrArg (λo=>b3 (bT o (λσ=>b3 (evSs C 8000 b ρ σ) (loopW (evE C t) (evSs C 8000 b) N)) λσ=>some (.next,ρ,σ)) (evSs C 8000 ss)) h).trans (congrArg (λo=>b3 (b3 o (loopW (evE C t) (evSs C 8000 b) N)) (evSs C 8000 ss)) hb)
theorem lw_ret (h:evE C t ρ σ = some (.bool true,σ')) (hb:evSs C 8000 b ρ σ' = some (.ret v,ρ',σ'')):lwS C t b ss (N + 1) ρ σ = some (.ret v,ρ',σ''):=
 (congrArg (λo=>b3 (bT o (λσ=>b3 (evSs C 8000 b ρ σ) (loopW (evE C t) (evSs C 8000 b) N)) λσ=>some (.next,ρ,σ)) (evSs C 8000 ss)) h).trans (congrArg (λo=>b3 (b3 o (loopW (evE C t) (evSs C 8000 b) N)) (evSs C 8000 ss)) hb)
end
noncomputable def stRet:S:=(.ret (.ife (.callM 38 2 (.var 0) [(.var 2)]) (.var 2) (.cst .none)))
inductive Out (conc:Rows→Option Bool) (σ0:H) (s w:Nat) (q:V) (n:Nat) (b:Bool) (o:Nat):R3→Prop where
 | yes (hb:b = true) (σ':H) (ρ':Rho) (h:∃ τ,σ' = σ0 ++ τ):Out conc σ0 s w q n b o (some (.ret (.obj 1 o),ρ',σ'))
 | no (σ':H) (ρ':Rho) (f':Int) (n':Nat) (We':List Ent) (h:Inv σ0 σ' s w f' q [] We') (hn:n' < n) (hf:(n':Int) ≤ f') (hW:We'.length ≤ 2000) (e:nextM (exM conc n') (We'.map entM) = some b):Out conc σ0 s w q n b o (some (.ret .none,ρ',σ'))
theorem Out.more {conc:Rows→Option Bool} {σ0:H} {s w:Nat} {q:V} {n:Nat} {b:Bool} {o:Nat} {r:R3} (h:Out conc σ0 s w q n b o r):Out conc σ0 s w q (n + 1) b o r:=
 h.casesOn (motive:=λr _=>Out conc σ0 s w q (n + 1) b o r) (λhb σ' ρ' h=>.yes hb σ' ρ' h) λσ' ρ' f' n' We' h hn hf hW e=>.no σ' ρ' f' n' We' h (Nat.lt_succ_of_lt hn) hf hW e
theorem t_nil (C:Orc) {σ:H} (s l o w:Nat) (x y z:Option Slot) (h:σ[l]? = some (.list [])):evE C t_set (R s l o w x y z) σ = some (.bool false,σ):=by exact rnE (.c 0 (fO h) <| .e) (by kernel_rfl)
theorem t_cons (C:Orc) {σ:H} (s l o w:Nat) (x y z:Option Slot) (L:List V) (v:V) (h:σ[l]? = some (.list (L ++ [v]))):evE C t_set (R s l o w x y z) σ = some (.bool true,σ):=by
 have e:=eq_nil (L ++ [v]) (b:=false) (by cases L <;> rfl)
 exact rnE (.c 0 (fO h) <| .c 0 (fB e) <| .e) (by kernel_rfl)
theorem settled_loop {conc:Rows→Option Bool} {d:Nat} (HC:ConcOk conc d) {σ0:H} (hB:IsB σ0) {s w:Nat} {q:V}:∀ (n:Nat) (N:Nat) (σ:H) (f:Int) (c:Ent) (We:List Ent) (b:Bool) (x y z:Option Slot),n ≤ N→(n:Int) ≤ f→We.length ≤ 2000→Inv σ0 σ s w f q [c] We→exM conc n c.left c.S (We.map entM) = some b→
 Out conc σ0 s w q n b c.o (lwS (ev (d + 26)) t_set b_set [stRet] N (R s c.l c.o w x y z) σ)
 | 0,_,_,_,_,_,_,_,_,_,_,_,_,_,e=>nn e
 | _ + 1,0,_,_,_,_,_,_,_,_,hN,_,_,_,_=>absurd hN (Nat.not_succ_le_zero _)
 | n + 1,N + 1,σ,f,⟨cl,co,cr,[],S⟩,We,b,x,y,z,hN,hf,hW,h,e=>by
  show Out conc σ0 s w q (n + 1) b co (lwS (ev (d + 26)) t_set b_set [stRet] (N + 1) (R s cl co w x y z) σ)
  have hc:=h.ents _ (.head _)
  rw [lw_stop (t_nil _ s cl co w x y z hc.list)]
  refine b1_is (o:=conc S) (k:=λc=>cond c (some true) (nextM (exM conc n) (We.map entM))) e λcb hcc e=>?_
  obtain ⟨τ,hk⟩:=HC σ s f q co cr S cb (isB_of hB h.ext) ⟨h.srch⟩ hc.sides hc.two hcc
  have h1:=h.srch
  cases cb with
  | true=>
   have g:evSs (ev (d + 26)) 8000 [stRet] (R s cl co w x y z) σ = some (.ret (.obj 1 co),R s cl co w x y z,σ ++ τ):=by exact rnSs (.c 0 (fO h1) <| .c 0 (fC hk) <| .e) (by kernel_rfl)
   rw [g]
   exact .yes (Option.some.inj e).symm _ _ (h.ext.elim λτ0 e0=>⟨τ0 ++ τ,by rw [e0,List.append_assoc]⟩)
  | false=>
   have g:evSs (ev (d + 26)) 8000 [stRet] (R s cl co w x y z) σ = some (.ret .none,R s cl co w x y z,σ ++ τ):=by exact rnSs (.c 0 (fO h1) <| .c 0 (fC hk) <| .e) (by kernel_rfl)
   rw [g]
   exact .no _ _ f n We (inv_app (inv_drop h) τ) (Nat.lt_succ_self n) (by omega) hW e
 | n + 1,N + 1,σ,f,⟨cl,co,cr,g :: left,S⟩,We,b,x,y,z,hN,hf,hW,h,e=>by
  show Out conc σ0 s w q (n + 1) b co (lwS (ev (d + 26)) t_set b_set [stRet] (N + 1) (R s cl co w x y z) σ)
  have ht:=t_cons (ev (d + 26)) s cl co w x y z _ _ (inv_step h g left rfl)
  have h1f:1 ≤ f:=by omega
  have hf':(n:Int) ≤ f - 1:=by omega
  refine b1_is (o:=stepM S g) (k:=exS (exM conc n) g left (We.map entM)) e λp hst e=>?_
  obtain ⟨ws0,S'⟩:=p
  cases ws0 with
  | nil=>
   refine gd_is (c:=Nat.ble left.length 1000 && Nat.ble S'.length 2) e λhcond e=>?_
   have hcond:=an hcond
   obtain ⟨σ',ρ',h1,h2⟩:=round_fail hB h x y z d g left S' rfl (Nat.le_of_ble_eq_true hcond.1) (Nat.le_of_ble_eq_true hcond.2) hst h1f
   rw [lw_ret ht h1]
   exact .no σ' ρ' (f - 1) n We h2 (Nat.lt_succ_self n) hf' hW e
  | cons w0 ws=>
   refine gd_is (c:=okLens left w0 ws (We.map entM) && (hasOk S' g ws && Nat.ble S'.length 2)) e λhcond e=>?_
   have k1:=an hcond
   have k2:=an k1.1
   have k3:=an k2.2
   have k4:=an k3.2
   have k5:=an k1.2
   have l2:ws.length ≤ 100:=Nat.le_of_ble_eq_true k3.1
   have l3:We.length ≤ 1000:=by have:=Nat.le_of_ble_eq_true k4.1; rw [List.length_map] at this; exact this
   obtain ⟨σ',x',y',z',We',h1,h2,h3⟩:=round_go hB h x y z d g left S' w0 ws rfl (Nat.le_of_ble_eq_true k2.1) (Nat.le_of_ble_eq_true k5.2) hst h1f
    (λwy hm=>Nat.le_of_ble_eq_true (List.all_eq_true.mp k4.2 wy hm)) l3 l2 k5.1
   rw [lw_go ht h1]
   refine (settled_loop HC hB n N σ' (f - 1) ⟨cl,co,cr,w0.reverse ++ left,S'⟩ We' b x' y' z' (Nat.le_of_succ_le_succ hN) hf' ?_ h2 (by rw [h3]; exact e)).more
   have:=congrArg List.length h3
   rw [List.length_map,List.length_append,List.length_map,List.length_map] at this
   omega
theorem settled_ok {conc:Rows→Option Bool} {d:Nat} (HC:ConcOk conc d) {σ0:H} (hB:IsB σ0) {s w:Nat} {q:V} (n:Nat) (σ:H) (f:Int) (c:Ent) (We:List Ent) (b:Bool) (hn:n ≤ 8000) (hf:(n:Int) ≤ f) (hW:We.length ≤ 2000) (h:Inv σ0 σ s w f q [c] We) (e:exM conc n c.left c.S (We.map entM) = some b) :
 ∃ r,evCall P 8000 (d + 27) 30 [.obj 2 s,.ref c.l,.obj 1 c.o,.ref w] σ = b1 r (λp=>some (retV p.1,p.2.2))∧Out conc σ0 s w q n b c.o r:=
 ⟨lwS (ev (d + 26)) t_set b_set [stRet] 8000 (R s c.l c.o w none none none) σ,by kernel_rfl,settled_loop HC hB n 8000 σ f c We b none none none hn hf hW h e⟩
noncomputable def RR (s w:Nat) (G o:V) (x y z:Option Slot):Rho:=[some (.v (.obj 2 s)),some (.v G),some (.v o),some (.v (.ref w)),x,y,z]
noncomputable def resV (b:Bool) (v:V):Prop:=cond b (∃ i,v = .obj 1 i) (v = .none)
theorem rt_nil (C:Orc) {σ:H} (s w:Nat) (G o:V) (x y z:Option Slot) (h:σ[w]? = some (.list [])):evE C t_run (RR s w G o x y z) σ = some (.bool false,σ):=by exact rnE (.c 0 (fO h) <| .e) (by kernel_rfl)
theorem rt_cons (C:Orc) {σ:H} {s w:Nat} {f:Int} {q:V} (G o:V) (x y z:Option Slot) (L:List V) (v:V) (h:σ[w]? = some (.list (L ++ [v]))) (hs:σ[s]? = some (.recd 2 [kobj,.int f,q])) (hf:decide (0 < f) = true):evE C t_run (RR s w G o x y z) σ = some (.bool true,σ):=by
 have e:=eq_nil (L ++ [v]) (b:=false) (by cases L <;> rfl)
 have hf':(V.bool (decide (0 < f))) = .bool true:=congrArg V.bool hf
 refine (show evE C t_run (RR s w G o x y z) σ = some (.bool (decide (0 < f)),σ) from ?_).trans (congrArg (λb=>some (V.bool b,σ)) hf)
 exact rnE (.c 0 (fO h) <| .c 0 (fB e) <| .c 1 (fO hs) <| .e) (by kernel_rfl)
section
variable {d:Nat} {σ σ':H} {s w:Nat} {f:Int} {q:V} (G o:V) (x y z:Option Slot) (L:List V) (l i:Nat) (v:V) (h:σ[w]? = some (.list (L ++ [.tup [.ref l,.obj 1 i]]))) (hl:L.length ≤ 3000) (hs:(σ.set w (.list L))[s]? = some (.recd 2 [kobj,.int f,q]))
include h hl hs
theorem rb_none (hc:evCall P 8000 (d + 27) 30 [.obj 2 s,.ref l,.obj 1 i,.ref w] (σ.set w (.list L)) = some (.none,σ')) :
 evSs (ev (d + 27)) 8000 b_run (RR s w G o x y z) σ = some (.next,RR s w G o (some (.v (.ref l))) (some (.v (.obj 1 i))) (some (.v .none)),σ'):=by
 have e:=popL_ok L (.tup [.ref l,.obj 1 i]) hl
 exact rnSs (.c 0 (fO h) <| .c 0 (fP e) <| .c 0 (fO hs) <| .c 0 (fC hc) <| .e) (by kernel_rfl)
theorem rb_some (hc:evCall P 8000 (d + 27) 30 [.obj 2 s,.ref l,.obj 1 i,.ref w] (σ.set w (.list L)) = some (.obj 1 i,σ')) :
 evSs (ev (d + 27)) 8000 b_run (RR s w G o x y z) σ = some (.ret (.obj 1 i),RR s w G o (some (.v (.ref l))) (some (.v (.obj 1 i))) (some (.v (.obj 1 i))),σ'):=by
 have e:=popL_ok L (.tup [.ref l,.obj 1 i]) hl
 exact rnSs (.c 0 (fO h) <| .c 0 (fP e) <| .c 0 (fO hs) <| .c 0 (fC hc) <| .e) (by kernel_rfl)
end
theorem run_loop {conc:Rows→Option Bool} {d:Nat} (HC:ConcOk conc d) {σ0:H} (hB:IsB σ0) {s w:Nat} {q:V} (G o:V):∀ (n:Nat) (N:Nat) (σ:H) (f:Int) (We:List Ent) (b:Bool) (x y z:Option Slot),n + 1 ≤ N→n ≤ 8000→(n:Int) ≤ f→We.length ≤ 2000→Inv σ0 σ s w f q [] We→nextM (exM conc n) (We.map entM) = some b→
 ∃ σ' ρ' v,lwS (ev (d + 27)) t_run b_run [.ret (.cst .none)] N (RR s w G o x y z) σ = some (.ret v,ρ',σ')∧resV b v∧∃ τ,σ' = σ0 ++ τ:=by
 intro n
 induction n using Nat.strongRecOn with
 | _ n ih=>
  intro N σ f We b x y z hN hn8 hf hlen h e
  cases N with
  | zero=>exact absurd hN (Nat.not_succ_le_zero _)
  | succ N=>
  cases We with
  | nil=>
   refine ⟨σ,RR s w G o x y z,.none,?_,?_,h.ext⟩
   · exact (lw_stop (rt_nil _ s w G o x y z h.wait)).trans (by kernel_rfl)
   · rw [← Option.some.inj e]; exact rfl
  | cons c We=>
   have h0:n ≠ 0:=λh0=>by rw [h0] at e; exact nn e
   have hw:=h.wait
   rw [List.reverse_cons,List.map_append] at hw
   have ht:=rt_cons (ev (d + 27)) G o x y z (We.reverse.map encEnt) (.tup [.ref c.l,.obj 1 c.o]) hw h.srch (decide_eq_true (by omega))
   have hp:=inv_pop h
   have hl:We.length + 1 ≤ 2000:=hlen
   have hL:(We.reverse.map encEnt).length ≤ 3000:=by rw [List.length_map,List.length_reverse]; omega
   obtain ⟨r,h1,h2⟩:=settled_ok HC hB n _ f c We b hn8 hf (by omega) hp e
   cases h2 with
   | yes hb σ' ρ' hx=>exact ⟨_,_,_,lw_ret ht (rb_some G o x y z _ _ _ hw hL hp.srch h1),by rw [hb]; exact ⟨c.o,rfl⟩,hx⟩
   | no σ' ρ' f' n' We' h2 h3 h4 h5 h6=>
    rw [lw_go ht (rb_none G o x y z _ _ _ hw hL hp.srch h1)]
    exact ih n' h3 N σ' f' We' b _ _ _ (by omega) (by omega) h4 h5 h2 h6
theorem at_app (σ τ:H) (i:Nat):(σ ++ τ)[σ.length + i]? = τ[i]?:=(List.getElem?_append_right (Nat.le_add_right _ _)).trans (congrArg (λj=>τ[j]?) (Nat.add_sub_cancel_left ..))
theorem searchMake_ok (d:Nat) (σ:H) (k:V) (f:Int):evCall P 8000 (d + 1) 28 [k,.int f] σ = some (.obj 2 (σ.length + 1),σ ++ [.dict [] [],.recd 2 [k,.int f,.ref σ.length]]):=by
 have h:evCall P 8000 (d + 1) 28 [k,.int f] σ = some (.obj 2 (σ ++ [O.dict [] []]).length,(σ ++ [O.dict [] []]) ++ [.recd 2 [k,.int f,.ref σ.length]]):=by kernel_rfl
 rw [List.length_append,List.append_assoc] at h
 exact h
noncomputable def rnInit:S:=.asg 3 (.shr (.lst [(.tup [(.shr (.bi .list [(.var 1)])),(.var 2)])]))
theorem rnInit_ok (C:Orc) (σ:H) (s:Nat) (L:List V) (o:V) (hL:L.length ≤ 4000) :
 evS C 8000 rnInit (rho0 [.obj 2 s,.lst L,o] 7) σ = some (.next,RR s (σ.length + 1) (.lst L) o none none none,σ ++ [.list L,.list [.tup [.ref σ.length,o]]]):=by
 have e:biOp .list [.lst L] = some (.lst L):=congrArg (λb=>gd b (some (V.lst L))) (s4 hL)
 have h:evS C 8000 rnInit (rho0 [.obj 2 s,.lst L,o] 7) σ = some (.next,RR s (σ ++ [O.list L]).length (.lst L) o none none none,(σ ++ [O.list L]) ++ [.list [.tup [.ref σ.length,o]]]):=by exact rnS (.c 0 (fV e) <| .e) (by kernel_rfl)
 rw [List.length_append,List.append_assoc] at h
 exact h
theorem run_ok {conc:Rows→Option Bool} {d:Nat} (HC:ConcOk conc d) {σ0 σ:H} (hB:IsB σ0) {s o r:Nat} {f:Int} {q:V} {S:Rows} (hext:∃ τ,σ = σ0 ++ τ) (hs:σ[s]? = some (.recd 2 [kobj,.int f,q])) (hsd:SidesAt σ o r S) (hS:S.length ≤ 2)
 (hso:s ≠ o) (hsr:s ≠ r) (hs0:σ0.length ≤ s) (ho0:σ0.length ≤ o) (hr0:σ0.length ≤ r) (goals:List Goal) (hg:goals.length ≤ 100) (n:Nat) (hn:n ≤ 7999) (hf:(n:Int) ≤ f) (b:Bool) (e:exM conc n goals.reverse S [] = some b) :
 ∃ σ' v,evCall P 8000 (d + 28) 29 [.obj 2 s,.lst (encGs goals),.obj 1 o] σ = some (v,σ')∧resV b v∧∃ τ,σ' = σ0 ++ τ:=by
 have hlt:=sides_lt hsd
 have hls:=lt_of_some hs
 have hor:=sides_ne hsd
 have t0:=at_app σ [.list (encGs goals),.list [.tup [.ref σ.length,.obj 1 o]]]
 have h0:σ0.length ≤ σ.length:=hext.elim λτ e=>by rw [e,List.length_append]; exact Nat.le_add_right _ _
 have inv:Inv σ0 (σ ++ [.list (encGs goals),.list [.tup [.ref σ.length,.obj 1 o]]]) s (σ.length + 1) f q [] [⟨σ.length,o,r,goals.reverse,S⟩]:=by
  refine ⟨hext.elim λτ e=>⟨τ ++ _,by rw [e,List.append_assoc]⟩,(get_app hls).trans hs,t0 1,λe' he=>?_,?_,?_⟩
  · obtain rfl:=List.mem_singleton.mp he
    refine ⟨(t0 0).trans ?_,⟨(get_app hlt.1).trans hsd.obj,(get_app hlt.2).trans hsd.rows⟩,hS⟩
    rw [List.reverse_reverse]
    rfl
  · show [s,σ.length + 1,σ.length,o,r].Nodup
    simp only [List.nodup_cons,List.mem_cons,List.not_mem_nil,or_false,not_false_eq_true,List.nodup_nil,and_true]
    omega
  · intro a (ha:a ∈ [s,σ.length + 1,σ.length,o,r])
    simp only [List.mem_cons,List.not_mem_nil,or_false] at ha
    omega
 obtain ⟨σ',ρ',v,h1,h2,h3⟩:=run_loop HC hB (.lst (encGs goals)) (.obj 1 o) n 8000 _ f _ b none none none (Nat.succ_le_succ hn) (Nat.le_succ_of_le hn) hf (Nat.le_of_ble_eq_true rfl) inv e
 refine ⟨σ',v,?_,h2,h3⟩
 have k:evCall P 8000 (d + 28) 29 [.obj 2 s,.lst (encGs goals),.obj 1 o] σ = b1 (b3 (evS (ev (d + 27)) 8000 rnInit (rho0 [.obj 2 s,.lst (encGs goals),.obj 1 o] 7) σ) λρ σ=>lwS (ev (d + 27)) t_run b_run [.ret (.cst .none)] 8000 ρ σ) λp=>some (retV p.1,p.2.2):=by kernel_rfl
 rw [k,rnInit_ok _ σ s _ _ (by rw [encGs_len]; exact Nat.le_trans hg (by decide))]
 exact congrArg (λo:R3=>b1 o λp=>some (retV p.1,p.2.2)) h1
noncomputable def allM (f:Ko→Option Bool):List Ko→Option Bool
 | []=>some true
 | c :: cs=>b1 (f c) λb=>cond b (allM f cs) (some false)
noncomputable def runM (conc:Rows→Option Bool) (n:Nat) (one other:Ko):Option Bool:=exM conc n [⟨false,one,other⟩] [] []
noncomputable def eqK (k k':Ko):Option Bool:=k.casesOn
 (λa=>k'.casesOn (λb=>some (decide (a = b))) (λ_ _=>none) λ_ _ _=>gd (decide (a = .i64)) (some false))
 (λl r=>k'.casesOn (λ_=>none) (λl' r'=>some (decide (l = l') && decide (r = r'))) λ_ _ _=>some false)
 fun u l r=>k'.casesOn (λ_=>none) (λ_ _=>none) λu' l' r'=>some (decide (u = u') && (decide (l = l') && decide (r = r')))
theorem eqK_ok (k k':Ko) (b:Bool) (h:eqK k k' = some b):eqOp (encO k) (encO k') = some b:=by
 cases k with
 | «at» a=>cases k' with
  | «at» a'=>exact (eqOp_enc a a').trans h
  | tup l r=>exact nn h
  | all u l r=>exact gd_is (c:=decide (a = .i64)) h λhc h=>(of_decide_eq_true hc ▸ eq_ia u l r).trans h
 | tup l r=>cases k' with
  | «at» a'=>exact nn h
  | tup l' r'=>exact (eq_tt l l' r r').trans h
  | all u l' r'=>exact (eq_ta l l' r r' u).trans h
 | all u l r=>cases k' with
  | «at» a'=>exact nn h
  | tup l' r'=>exact nn h
  | all u' l' r'=>exact (eq_aa u u' l l' r r').trans h
noncomputable def isSub (conc:Rows→Option Bool) (n:Nat) (one other:Ko):Option Bool:=b1 (eqK one other) λq=>cond q (some true) (b1 (leftC one) λcs=>allM (λc=>runM conc n c other) cs)
noncomputable def RS (k k':V) (x y:Option Slot):Rho:=[some (.v kobj),some (.v k),some (.v k'),some (.v (.int 4000)),x,y]
noncomputable def subR (b:Bool) (ρ:Rho) (σ:H):R3:=cond b (some (.next,ρ,σ)) (some (.ret (.bool false),ρ,σ))
theorem sub_run {d:Nat} {σ σ1 σ2 σ':H} {i o:Nat} {v k c other:V} {L:List V} {y:Option Slot} (h1:ev (d + 28) 28 [kobj,.int 4000] σ = some (.obj 2 i,σ1)) (h2:ev (d + 28) 13 [] σ1 = some (.obj 1 o,σ2)) (t:σ1[i]? = some (.recd 2 L))
 (h3:ev (d + 28) 29 [.obj 2 i,.lst [.tup [.str "sub",c,other]],.obj 1 o] σ2 = some (v,σ')) (b:Bool) (hv:resV b v):evSs (ev (d + 28)) 8000 b_is (RS k other (some (.v c)) y) σ = subR b (RS k other (some (.v c)) (some (.v (.obj 2 i)))) σ':=by
 cases b with
 | true=>
  obtain ⟨j,rfl⟩:=hv
  exact rnSs (.c 0 (fC h1) <| .c 0 (fO t) <| .c 0 (fC h2) <| .c 0 (fC h3) <| .e) (by kernel_rfl)
 | false=>
  have hv:v = .none:=hv
  subst hv
  exact rnSs (.c 0 (fC h1) <| .c 0 (fO t) <| .c 0 (fC h2) <| .c 0 (fC h3) <| .e) (by kernel_rfl)
theorem sub_round {conc:Rows→Option Bool} {d:Nat} (HC:ConcOk conc d) {σ:H} (hB:IsB σ) (k:V) (c other:Ko) (y:Option Slot) (n:Nat) (hn:n ≤ 4000) (b:Bool) (e:runM conc n c other = some b) :
 ∃ σ' y',(∃ τ,σ' = σ ++ τ)∧evSs (ev (d + 28)) 8000 b_is (RS k (encO other) (some (.v (encO c))) y) σ = subR b (RS k (encO other) (some (.v (encO c))) y') σ':=by
 have h1:=searchMake_ok (d + 27) σ kobj 4000
 generalize hσ1:σ ++ [.dict [] [],.recd 2 [kobj,.int 4000,.ref σ.length]] = σ1 at h1
 have l1:σ1.length = σ.length + 2:=by rw [← hσ1,List.length_append]; rfl
 have t1:σ1[σ.length + 1]? = some (.recd 2 [kobj,.int 4000,.ref σ.length]):=by rw [← hσ1]; exact at_app σ _ 1
 have h2:=sidesNew_ok (d + 27) σ1
 have t2:=at_app σ1 [.dict [] [],.recd 1 [.ref σ1.length,.int 0]]
 have s2:SidesAt (σ1 ++ [.dict [] [],.recd 1 [.ref σ1.length,.int 0]]) (σ1.length + 1) σ1.length []:=⟨t2 1,t2 0⟩
 obtain ⟨σ',v,h3,h4,h5⟩:=run_ok HC hB (f:=4000) (S:=[]) ⟨_,by rw [← hσ1,List.append_assoc]⟩ ((get_app (by omega)).trans t1) s2 (Nat.zero_le _) (by omega) (by omega) (by omega) (by omega) (by omega) [⟨false,c,other⟩] (Nat.le_of_ble_eq_true rfl) n (by omega) (by omega) b e
 exact ⟨σ',_,h5,sub_run h1 h2 t1 h3 b h4⟩
theorem sub_loop {conc:Rows→Option Bool} {d:Nat} (HC:ConcOk conc d) (k:V) (other:Ko) (n:Nat) (hn:n ≤ 4000):∀ (cs:List Ko) (σ:H) (x y:Option Slot) (b:Bool),IsB σ→allM (λc=>runM conc n c other) cs = some b→
 ∃ σ' x' y',(∃ τ,σ' = σ ++ τ)∧loopS (lpS (ev (d + 28)) 4 b_is) (cs.map encO) (RS k (encO other) x y) σ = subR b (RS k (encO other) x' y') σ'
 | [],σ,x,y,b,hB,e=>⟨σ,x,y,⟨[],(List.append_nil σ).symm⟩,Option.some.inj e ▸ rfl⟩
 | c :: cs,σ,x,y,b,hB,e=>by
  refine b1_is (o:=runM conc n c other) (k:=λb=>cond b (allM (λc=>runM conc n c other) cs) (some false)) e λb1 hr e=>?_
  obtain ⟨σ1,y1,⟨τ1,e1⟩,h1⟩:=sub_round HC hB k c other y n hn b1 hr
  cases b1 with
  | false=>exact ⟨σ1,some (.v (encO c)),y1,⟨τ1,e1⟩,Option.some.inj e ▸ lp_ret h1⟩
  | true=>
   obtain ⟨σ',x',y',⟨τ2,e2⟩,h2⟩:=sub_loop HC k other n hn cs σ1 (some (.v (encO c))) y1 b (isB_of hB ⟨τ1,e1⟩) e
   exact ⟨σ',x',y',⟨τ1 ++ τ2,by rw [e2,e1,List.append_assoc]⟩,lp_next h1 h2⟩
theorem isSub_run {d:Nat} {σ σ':H} {k1 k2:List V} {b:Bool} {x y:Option Slot} (h1:eqOp (.tup k1) (.tup k2) = some false) (h:evS (ev (d + 28)) 8000 w_is (RS (.tup k1) (.tup k2) none none) σ = subR b (RS (.tup k1) (.tup k2) x y) σ') :
 evCall P 8000 (d + 29) 44 [kobj,.tup k1,.tup k2] σ = some (.bool b,σ'):=by
 cases b with
 | true=>
  have h':evS (ev (d + 28)) 8000 w_is (RS (.tup k1) (.tup k2) none none) σ = some (.next,RS (.tup k1) (.tup k2) x y,σ'):=h
  exact rn (.c 0 (fB h1) <| .c 1 (fS h') <| .e) (by kernel_rfl)
 | false=>
  have h':evS (ev (d + 28)) 8000 w_is (RS (.tup k1) (.tup k2) none none) σ = some (.ret (.bool false),RS (.tup k1) (.tup k2) x y,σ'):=h
  exact rn (.c 0 (fB h1) <| .c 1 (fS h') <| .e) (by kernel_rfl)
theorem isSub_yes (d:Nat) (σ:H) (k1 k2:List V) (h1:eqOp (.tup k1) (.tup k2) = some true):evCall P 8000 (d + 29) 44 [kobj,.tup k1,.tup k2] σ = some (.bool true,σ):=by exact rn (.c 0 (fB h1) <| .e) (by kernel_rfl)
theorem isSub_ok {conc:Rows→Option Bool} {d:Nat} (HC:ConcOk conc d) (n:Nat) (hn:n ≤ 4000) (one other:Ko) (σ:H) (hB:IsB σ) (b:Bool) (h:isSub conc n one other = some b) :
 ∃ τ,evCall P 8000 (d + 29) 44 [kobj,encO one,encO other] σ = some (.bool b,σ ++ τ):=by
 refine b1_is (o:=eqK one other) h λbq hq h=>?_
 have h1:=eqK_ok one other bq hq
 cases bq with
 | true=>exact ⟨[],Option.some.inj h ▸ ((isSub_yes d σ _ _ h1).trans (congrArg (λσ=>some (V.bool true,σ)) (List.append_nil σ).symm))⟩
 | false=>
  refine b1_is (o:=leftC one) (k:=λcs=>allM (λc=>runM conc n c other) cs) h λcs hl h=>?_
  have h2:=leftC_ok one cs hl (d + 3) σ
  obtain ⟨σ',x',y',⟨τ,e⟩,h3⟩:=sub_loop HC (encO one) other n hn cs σ none none b hB h
  exact ⟨τ,e ▸ isSub_run h1 (fr_ok (by exact rnI (.c 0 (fC h2) <| .e) (by kernel_rfl)) h3)⟩
noncomputable def conc0 (S:Rows):Option Bool:=S.casesOn (some true) λ_ _=>none
theorem conc0_ok (d:Nat):ConcOk conc0 d:=λσ s f q o r S b hB hs hsd hS h=>by
 cases S with
 | cons _ _=>exact nn h
 | nil=>
  refine ⟨[],?_⟩
  rw [← Option.some.inj h,List.append_nil]
  exact rn (.c 1 (SidesAt.fo hsd) <| .c 0 (SidesAt.fr hsd) <| .e) (by kernel_rfl)
noncomputable def p8:List At:=[.i64,.bo,.st,.ai,.an,.sa,.ti,.tb]
theorem differ:∀ a ∈ p8,∀ b ∈ p8,a ≠ b→isSub conc0 60 (.at a) (.at b) = some false:=by decide +kernel
theorem sameKind_ok (a b:At) (ha:a ∈ p8) (hb:b ∈ p8) (hab:a ≠ b) (d:Nat) (σ:H) (hB:IsB σ):∃ τ,evCall P 8000 (d + 30) 45 [kobj,enc a,enc b] σ = some (.bool false,σ ++ τ):=by
 obtain ⟨τ,h⟩:=isSub_ok (conc0_ok d) 60 (by decide) (.at a) (.at b) σ hB false (differ a ha b hb hab)
 exact ⟨τ,by exact rn (.c 0 (fB (eq_enc a b (decide_eq_false hab))) <| .c 1 (fC h) <| .e) (by kernel_rfl)⟩
noncomputable def concT (a:At):Option Bool:=cond (decide (a ∈ p8)) (some true) (gd (decide (a ∈ [At.int,.real,.any,.ar1,.ar2])) (some false))
theorem concT_ok (a:At) (b:Bool) (h:concT a = some b) (d:Nat) (σ:H) (hB:IsB σ):evCall P 8000 (d + 20) 53 [kobj,enc a] σ = some (.bool b,σ):=by
 obtain ⟨k,τ,rfl⟩:=hB
 exact (tab1 (λa=>(concT a).isSome) (λa=>evCall P 8000 (d + 20) 53 [kobj,enc a] (base k τ)) (λa=>some (.bool ((concT a).getD false),base k τ)) (by kernel_rfl) a (congrArg Option.isSome h)).trans (congrArg (λo:Option Bool=>some (V.bool (o.getD false),base k τ)) h)
noncomputable def anyV (k a:At):Bool:=(isV k).isSome || (isV a).isSome
theorem var_in (k a:At) {b:Bool} (h:anyV k a = b):isInOp (.str "var") (.tup [.str (wd k),.str (wd a)]) = some b:=
 (tabL (λa b=>isInOp (.str "var") (.tup [.str (wd a),.str (wd b)])) (λa b=>some (anyV a b)) (by kernel_rfl) (mem_allAt k) (mem_allAt a)).trans (congrArg some h)
noncomputable def RO (s:Nat) (r:V) (o:Nat) (k:At) (x:Option Slot):Rho:=[some (.v (.obj 2 s)),some (.v r),some (.v (.obj 1 o)),some (.v (enc k)),x]
noncomputable def oneL (k:At):List At→Option Bool
 | []=>some true
 | a :: l=>cond (decide (a = k)) (oneL k l) (cond (anyV k a) (some false) (gd (decide (k ∈ p8) && decide (a ∈ p8)) (some false)))
theorem app_nil (σ:H):∃ τ,σ = σ ++ τ:=⟨[],(List.append_nil σ).symm⟩
theorem on_loop {s:Nat} {f:Int} {q:V} (r:V) (o:Nat) (k:At) (d:Nat):∀ (l:List At) (σ:H) (x:Option Slot) (b:Bool),IsB σ→SearchAt σ s f q→oneL k l = some b→
 ∃ σ' x',(∃ τ,σ' = σ ++ τ)∧(b = true→σ' = σ)∧loopS (lpS (ev (d + 30)) 4 b_one) (encs l) (RO s r o k x) σ = subR b (RO s r o k x') σ'
 | [],σ,x,b,hB,hs,e=>⟨σ,x,app_nil σ,λ_=>rfl,Option.some.inj e ▸ rfl⟩
 | a :: l,σ,x,b,hB,hs,e=>by
  refine cond_is (c:=decide (a = k)) e (λhak e=>?_) λhak e=>?_
  · obtain ⟨σ',x',h1,h2,h3⟩:=on_loop r o k d l σ (some (.v (enc a))) b hB hs e
    have g:evSs (ev (d + 30)) 8000 b_one (RO s r o k (some (.v (enc a)))) σ = some (.next,RO s r o k (some (.v (enc a))),σ):=by exact rnSs (.c 0 (fB (eq_enc a k hak)) <| .e) (by kernel_rfl)
    exact ⟨σ',x',h1,h2,lp_next g h3⟩
  · refine cond_is (c:=anyV k a) e (λhv e=>?_) λhv e=>?_
    · have g:evSs (ev (d + 30)) 8000 b_one (RO s r o k (some (.v (enc a)))) σ = some (.ret (.bool false),RO s r o k (some (.v (enc a))),σ):=by exact rnSs (.c 0 (fB (eq_enc a k hak)) <| .c 1 (idx0F k) <| .c 0 (idx0F a) <| .c 0 (fB (var_in k a hv)) <| .e) (by kernel_rfl)
      exact ⟨σ,some (.v (enc a)),app_nil σ,λ_=>rfl,Option.some.inj e ▸ lp_ret g⟩
    · refine gd_is (c:=decide (k ∈ p8) && decide (a ∈ p8)) e λhp e=>?_
      have hp:=an hp
      obtain ⟨τ,hk⟩:=sameKind_ok k a (of_decide_eq_true hp.1) (of_decide_eq_true hp.2) (λe=>of_decide_eq_false hak e.symm) d σ hB
      have g:evSs (ev (d + 30)) 8000 b_one (RO s r o k (some (.v (enc a)))) σ = some (.ret (.bool false),RO s r o k (some (.v (enc a))),σ ++ τ):=by exact rnSs (.c 0 (fB (eq_enc a k hak)) <| .c 1 (idx0F k) <| .c 0 (idx0F a) <| .c 0 (fB (var_in k a hv)) <| .c 1 (SearchAt.f hs) <| .c 0 (fC hk) <| .e) (by kernel_rfl)
      exact ⟨σ ++ τ,some (.v (enc a)),⟨τ,rfl⟩,λh=>(nomatch h.symm.trans (Option.some.inj e).symm),Option.some.inj e ▸ lp_ret g⟩
noncomputable def finM (S:Rows) (k:At):Option Bool:=(isV k).casesOn (concT k) λj=>some (rowAt S j).diag
noncomputable def oneM (S:Rows) (row:Row):Option Bool:=row.lo.casesOn (some true) λk l=>gd (Nat.ble l.length 3000) (b1 (oneL k l) λb=>cond b (finM S k) (some false))
theorem isOne_ok {S:Rows} {σ:H} {o r s:Nat} {f:Int} {q:V} (hB:IsB σ) (hs:SearchAt σ s f q) (h:SidesAt σ o r S) (d:Nat) (hS:S.length ≤ 2) (row:Row) (b:Bool) (e:oneM S row = some b) :
 ∃ τ,evCall P 8000 (d + 31) 39 [.obj 2 s,encR row,.obj 1 o] σ = some (.bool b,σ ++ τ):=by
 obtain ⟨ra,rn',lo,up,dg⟩:=row
 cases lo with
 | nil=>
  refine ⟨[],?_⟩
  rw [← Option.some.inj e,List.append_nil]
  exact rn (.e) (by kernel_rfl)
 | cons k l=>
  refine gd_is (c:=Nat.ble l.length 3000) e λhlen e=>b1_is (o:=oneL k l) (k:=λb=>cond b (finM S k) (some false)) e λb1 hL e=>?_
  have hsl:slcOp .from1 (.tup (encs (k :: l))) .none = some (.tup (encs l)):=congrArg (λb=>gd b (some (V.tup (encs l)))) (s4 (by rw [List.length_map]; exact Nat.le_trans (Nat.le_of_ble_eq_true hlen) (by decide)))
  have hne:=eqOp_nil k l
  obtain ⟨σ',x',⟨τ,h1⟩,h2,h3⟩:=on_loop (encR ⟨ra,rn',k :: l,up,dg⟩) o k d l σ none b1 hB hs hL
  have hI:evI (ev (d + 30)) (.plain (.slc .from1 (.attr (.var 1) 0 2 "lowers") .bad)) (RO s (encR ⟨ra,rn',k :: l,up,dg⟩) o k none) σ = some (encs l,σ):=by exact rnI (.c 0 (fV hsl) <| .e) (by kernel_rfl)
  have hw:=fr_ok hI h3
  have hw:evS (ev (d + 30)) 8000 w_one (RO s (encR ⟨ra,rn',k :: l,up,dg⟩) o k none) σ = subR b1 (RO s (encR ⟨ra,rn',k :: l,up,dg⟩) o k x') σ':=hw
  cases b1 with
  | false=>
   have hw:evS (ev (d + 30)) 8000 w_one (RO s (encR ⟨ra,rn',k :: l,up,dg⟩) o k none) σ = some (.ret (.bool false),RO s (encR ⟨ra,rn',k :: l,up,dg⟩) o k x',σ'):=hw
   refine ⟨τ,?_⟩
   rw [← h1,← Option.some.inj e]
   exact rn (.c 0 (fB hne) <| .c 2 (fS hw) <| .e) (by kernel_rfl)
  | true=>
   have hw:evS (ev (d + 30)) 8000 w_one (RO s (encR ⟨ra,rn',k :: l,up,dg⟩) o k none) σ = some (.next,RO s (encR ⟨ra,rn',k :: l,up,dg⟩) o k x',σ'):=hw
   rw [h2 rfl] at hw
   refine ⟨[],?_⟩
   rw [List.append_nil]
   cases hv:isV k with
   | some j=>
    unfold finM at e
    rw [hv] at e
    have e:some (rowAt S j).diag = some b:=e
    rw [← Option.some.inj e]
    exact rn (.c 0 (fB hne) <| .c 2 (fS hw) <| .c 0 (idx0F k) <| .c 0 (wVar k (isV_wd hv)) <| .c 1 (SidesAt.fo h) <| .c 0 (fV (idx1v hv)) <| .c 0 (fC (side_ok h (d + 9) j hS (isV_le hv))) <| .e) (by kernel_rfl)
   | none=>
    unfold finM at e
    rw [hv] at e
    exact rn (.c 0 (fB hne) <| .c 2 (fS hw) <| .c 0 (idx0F k) <| .c 0 (wVar k (wd_nv hv)) <| .c 1 (SearchAt.f hs) <| .c 0 (IsB.f hB) <| .c 0 (fC (concT_ok k b e (d + 10) σ hB)) <| .e) (by kernel_rfl)
noncomputable def rowM (S:Rows) (r:Row):Option Bool:=cond (r.asked && r.diag) (oneM S r) (some true)
noncomputable def concM (S:Rows):Option Bool:=S.casesOn (some true) λr1 S=>S.casesOn (rowM [r1] r1) λr2 S=>S.casesOn (cond (r1.asked && r1.diag) none (rowM [r1,r2] r2)) λ_ _=>none
noncomputable def AC (s o:Nat) (j x:Option Slot):Rho:=[some (.v (.obj 2 s)),some (.v (.obj 1 o)),j,x]
noncomputable def kS' (j:Nat):Option Slot:=some (.v (.str (key j)))
theorem ac_round {S:Rows} {σ:H} {o r s:Nat} {f:Int} {q:V} (hB:IsB σ) (hs:SearchAt σ s f q) (h:SidesAt σ o r S) (d:Nat) (hS:S.length ≤ 2) (j:Nat) (hj:1 ≤ j) (hj':j ≤ S.length) (b:Bool) (e:rowM S (rowAt S j) = some b) (x:Option Slot) :
 ∃ σ' x',(∃ τ,σ' = σ ++ τ)∧(((rowAt S j).asked && (rowAt S j).diag) = false→σ' = σ)∧evSs (ev (d + 31)) 8000 b_ac (AC s o (kS' j) x) σ = subR b (AC s o (kS' j) x') σ':=by
 have h4:=idxRow j hS hj hj'
 refine cond_is (c:=(rowAt S j).asked && (rowAt S j).diag) e (λhc e=>?_) λhc e=>?_
 · have hc':=an hc
   obtain ⟨τ,ho⟩:=isOne_ok hB hs h d hS (rowAt S j) b e
   refine ⟨σ ++ τ,some (.v (encR (rowAt S j))),⟨τ,rfl⟩,λhx=>(nomatch hc.symm.trans hx),?_⟩
   have ha:=hc'.1
   have hd:=hc'.2
   cases b with
   | true=>
    show _ = some (Fl.next,_,_)
    exact rnSs (.c 0 (SidesAt.fo h) <| .c 0 (SidesAt.fr h) <| .c 0 (fV h4) <| .c 0 (fT ha) <| .c 0 (fT hd) <| .c 0 (SearchAt.f hs) <| .c 0 (fC ho) <| .e) (by kernel_rfl)
   | false=>
    show _ = some (Fl.ret (V.bool false),_,_)
    exact rnSs (.c 0 (SidesAt.fo h) <| .c 0 (SidesAt.fr h) <| .c 0 (fV h4) <| .c 0 (fT ha) <| .c 0 (fT hd) <| .c 0 (SearchAt.f hs) <| .c 0 (fC ho) <| .e) (by kernel_rfl)
 · refine ⟨σ,some (.v (encR (rowAt S j))),app_nil σ,λ_=>rfl,?_⟩
   rw [← Option.some.inj e]
   show _ = some (Fl.next,_,_)
   cases ha:(rowAt S j).asked with
   | false=>exact rnSs (.c 0 (SidesAt.fo h) <| .c 0 (SidesAt.fr h) <| .c 0 (fV h4) <| .c 0 (fT ha) <| .e) (by kernel_rfl)
   | true=>
    have hd:(rowAt S j).diag = false:=(congrArg (λb=>b && (rowAt S j).diag) ha).symm.trans hc
    exact rnSs (.c 0 (SidesAt.fo h) <| .c 0 (SidesAt.fr h) <| .c 0 (fV h4) <| .c 0 (fT ha) <| .c 0 (fT hd) <| .e) (by kernel_rfl)
theorem ac_end {C:Nat} {σ σ':H} {s o:Nat} {b:Bool} {j x:Option Slot} {l:List V} (hI:evI (ev C) (.plain (.bi .sorted [(.attr (.var 1) 1 0 "rows")])) (AC s o none none) σ = some (l,σ)) (h:loopS (lpS (ev C) 2 b_ac) l (AC s o none none) σ = subR b (AC s o j x) σ') :
 evCall P 8000 (C + 1) 38 [.obj 2 s,.obj 1 o] σ = some (.bool b,σ'):=by
 have h:=fr_ok hI h
 cases b with
 | true=>
  have h:evS (ev C) 8000 w_ac (AC s o none none) σ = some (.next,AC s o j x,σ'):=h
  exact rn (.c 0 (fS h) <| .e) (by kernel_rfl)
 | false=>
  have h:evS (ev C) 8000 w_ac (AC s o none none) σ = some (.ret (.bool false),AC s o j x,σ'):=h
  exact rn (.c 0 (fS h) <| .e) (by kernel_rfl)
theorem concM_ok (d:Nat):ConcOk concM (d + 6):=λσ s f q o r S b hB hs h hS e=>by
 cases S with
 | nil=>
  refine ⟨[],?_⟩
  rw [← Option.some.inj e,List.append_nil]
  exact ac_end (b:=true) (C:=d + 31) (l:=[]) (j:=none) (x:=none) (by exact rnI (.c 0 (SidesAt.fo h) <| .c 0 (SidesAt.fr h) <| .e) (by kernel_rfl)) rfl
 | cons r1 S=>cases S with
  | nil=>
   obtain ⟨σ',x',⟨τ,h3⟩,_,h5⟩:=ac_round hB hs h d hS 1 (Nat.le_refl 1) (Nat.le_refl 1) b e none
   refine ⟨τ,?_⟩
   rw [← h3]
   refine ac_end (C:=d + 31) (l:=[.str (key 1)]) (j:=kS' 1) (x:=x') (by exact rnI (.c 0 (SidesAt.fo h) <| .c 0 (SidesAt.fr h) <| .e) (by kernel_rfl)) ?_
   cases b with
   | true=>exact lp_next h5 rfl
   | false=>exact lp_ret h5
  | cons r2 S=>cases S with
   | nil=>
    refine cond_is (c:=r1.asked && r1.diag) e (λ_=>nn) λhc e=>?_
    have e1:rowM [r1,r2] (rowAt [r1,r2] 1) = some true:=congrArg (λc=>cond c (oneM [r1,r2] r1) (some true)) hc
    obtain ⟨σ1,x1,_,h4,h5⟩:=ac_round hB hs h d hS 1 (Nat.le_refl 1) (Nat.le_succ 1) true e1 none
    obtain rfl:=h4 hc
    obtain ⟨σ',x',⟨τ,h6⟩,_,h7⟩:=ac_round hB hs h d hS 2 (Nat.le_succ 1) (Nat.le_refl 2) b e x1
    refine ⟨τ,?_⟩
    rw [← h6]
    refine ac_end (C:=d + 31) (l:=[.str (key 1),.str (key 2)]) (j:=kS' 2) (x:=x') (by exact rnI (.c 0 (SidesAt.fo h) <| .c 0 (SidesAt.fr h) <| .e) (by kernel_rfl)) (lp_next h5 ?_)
    cases b with
    | true=>exact lp_next h7 rfl
    | false=>exact lp_ret h7
   | cons r3 S=>exact nn e
noncomputable def sbt (one other:Ko):Option Bool:=isSub concM 3900 one other
theorem sbt_ok (one other:Ko) (σ:H) (hB:IsB σ) (b:Bool) (h:sbt one other = some b) (d:Nat):∃ τ,evCall P 8000 (d + 35) 44 [kobj,encO one,encO other] σ = some (.bool b,σ ++ τ):=
 isSub_ok (concM_ok d) 3900 (by decide) one other σ hB b h
noncomputable def memb:Nat→At
 | 0=>.v0
 | 1=>.int
 | 2=>.ar0
 | 3=>.us0
 | 4=>.ua0
 | _=>.ui0
noncomputable def kindM (ways:List Nat) (tail:Option Nat) (u:At):Ko:=.all u (ways.map memb) (tail.map memb)
noncomputable def useT:Nat→Bool
 | 0 | 3 | 4 | 5=>true
 | _=>false
noncomputable def arrT:Nat→Bool
 | 2 | 4=>true
 | _=>false
noncomputable def oftenN (ways:List Nat) (tail:Option Nat):Nat:=(ways.map λw=>if useT w then 1 else 0).sum + (match tail with | some t=>if useT t then 2 else 0 | none=>0)
noncomputable def oftenA (ways:List Nat) (tail:Option Nat):Bool:=(ways ++ tail.toList).any arrT
noncomputable def dgM (ways:List Nat) (tail:Option Nat):Bool:=Nat.ble 2 (oftenN ways tail) && !oftenA ways tail
noncomputable def bnd1 (ways:List Nat) (tail:Option Nat) (u:At):Bool:=sbt (kindM ways tail u) (kindM ways tail .any) == some true && sbt (.at .i64) (kindM ways tail u) == some false
noncomputable def bnd2 (ways:List Nat) (tail:Option Nat) (u:At):Bool:=(dgM ways none != dgM ways tail) || sbt (kindM ways none u) (kindM ways tail u) == some true
noncomputable def w6:List Nat:=[0,1,2,3,4,5]
noncomputable def allWays:List (List Nat):=[[]] ++ w6.map (λa=>[a]) ++ w6.flatMap (λa=>w6.map λb=>[a,b])
noncomputable def allTails:List (Option Nat):=none :: w6.map some
noncomputable def allUps:List At:=[.any,.real,.int]
theorem next_mono {f g:List Goal→Rows→Wm→Option Bool} (H:∀ l S W r,f l S W = some r→g l S W = some r) {W:Wm} {r:Bool} (h:nextM f W = some r):nextM g W = some r:=by
 cases W with
 | nil=>exact h
 | cons p W=>exact H _ _ _ _ h
theorem exM_mono (conc:Rows→Option Bool):∀ (n:Nat) (l:List Goal) (S:Rows) (W:Wm) (r:Bool),exM conc n l S W = some r→exM conc (n + 1) l S W = some r
 | 0,l,S,W,r,h=>nn h
 | n + 1,[],S,W,r,h=>by
  refine b1_is (o:=conc S) (k:=λc=>cond c (some true) (nextM (exM conc n) W)) h λc hc h=>?_
  refine (congrArg (λo=>b1 o λc=>cond c (some true) (nextM (exM conc (n + 1)) W)) hc).trans ?_
  cases c with
  | true=>exact h
  | false=>exact next_mono (exM_mono conc n) h
 | n + 1,g :: left,S,W,r,h=>by
  refine b1_is (o:=stepM S g) (k:=exS (exM conc n) g left W) h λp hp h=>?_
  refine (congrArg (λo=>b1 o (exS (exM conc (n + 1)) g left W)) hp).trans ?_
  obtain ⟨ws,S'⟩:=p
  cases ws with
  | nil=>exact gd_is (c:=Nat.ble left.length 1000 && Nat.ble S'.length 2) h λhc h=>(congrArg (λc=>gd c (nextM (exM conc (n + 1)) W)) hc).trans (next_mono (exM_mono conc n) h)
  | cons w0 ws=>exact gd_is (c:=okLens left w0 ws W && (hasOk S' g ws && Nat.ble S'.length 2)) h λhc h=>(congrArg (λc=>gd c (exM conc (n + 1) (w0.reverse ++ left) S' (ws.map (λw=>(w.reverse ++ left,S')) ++ W))) hc).trans (exM_mono conc n _ _ _ r h)
theorem exM_more (conc:Rows→Option Bool) (n:Nat):∀ (k:Nat) (l:List Goal) (S:Rows) (W:Wm) (r:Bool),exM conc n l S W = some r→exM conc (n + k) l S W = some r
 | 0,l,S,W,r,h=>h
 | k + 1,l,S,W,r,h=>exM_mono conc (n + k) l S W r (exM_more conc n k l S W r h)
theorem nextM_more (conc:Rows→Option Bool) (n k:Nat) (W:Wm) (r:Bool) (h:nextM (exM conc n) W = some r):nextM (exM conc (n + k)) W = some r:=next_mono (λl S W r=>exM_more conc n k l S W r) h
structure Goodb (m:Nat) (left:List Goal) (S:Rows) (b:Bool) (k:Nat):Prop where
 yes:b = true→∀ n (W:Wm),W.length + m ≤ 500→exM concM (n + k) left S W = some true
 no:b = false→∀ n (W:Wm) r,W.length + m ≤ 500→nextM (exM concM n) W = some r→exM concM (n + k) left S W = some r
theorem Goodb.more {m m':Nat} {left:List Goal} {S:Rows} {b:Bool} {k k':Nat} (h:Goodb m left S b k) (hk:k ≤ k') (hm:m ≤ m'):Goodb m' left S b k':=by
 obtain ⟨i,rfl⟩:=Nat.le.dest hk
 refine ⟨λhb n W hW=>?_,λhb n W r hW hr=>?_⟩
 · rw [Nat.add_comm k,← Nat.add_assoc]
   exact h.yes hb (n + i) W (Nat.le_trans (Nat.add_le_add_left hm _) hW)
 · rw [Nat.add_comm k,← Nat.add_assoc]
   exact h.no hb (n + i) W r (Nat.le_trans (Nat.add_le_add_left hm _) hW) (nextM_more concM n i W r hr)
theorem good_nil {m:Nat} {S:Rows} {b:Bool} (h:concM S = some b):Goodb m [] S b 1:=
 ⟨λhb n W _=>(congrArg (λo=>b1 o λc=>cond c (some true) (nextM (exM concM n) W)) (h.trans (congrArg some hb))),λhb n W r _ hr=>(congrArg (λo=>b1 o λc=>cond c (some true) (nextM (exM concM n) W)) (h.trans (congrArg some hb))).trans hr⟩
theorem bl {a b c:Nat} (h:a ≤ b) (h':b ≤ c):Nat.ble a c = true:=Nat.ble_eq_true_of_le (Nat.le_trans h h')
theorem ex_0 {n:Nat} {g:Goal} {left:List Goal} {S S':Rows} {W:Wm} (h:stepM S g = some ([],S')) (hl:left.length ≤ 900) (hS:S'.length ≤ 2):exM concM (n + 1) (g :: left) S W = nextM (exM concM n) W:=
 (congrArg (λo=>b1 o (exS (exM concM n) g left W)) h).trans (congrArg (λc=>gd c (nextM (exM concM n) W)) (ai (bl hl (by decide)) (Nat.ble_eq_true_of_le hS)))
theorem ex_1 {n:Nat} {g:Goal} {left w:List Goal} {ws:List (List Goal)} {S S':Rows} {W:Wm} (h:stepM S g = some (w :: ws,S')) (hl:left.length ≤ 900) (hW:W.length ≤ 500) (hn:ws.length ≤ 100) (hw:((w :: ws).all λw=>Nat.ble w.length 1000) = true) (hS:S'.length ≤ 2) (hh:hasOk S' g ws = true) :
 exM concM (n + 1) (g :: left) S W = exM concM n (w.reverse ++ left) S' (ws.map (λw=>(w.reverse ++ left,S')) ++ W):=
 (congrArg (λo=>b1 o (exS (exM concM n) g left W)) h).trans (congrArg (λc=>gd c (exM concM n (w.reverse ++ left) S' (ws.map (λw=>(w.reverse ++ left,S')) ++ W))) (ai (ai (bl hl (by decide)) (ai (Nat.ble_eq_true_of_le hn) (ai (bl hW (by decide)) hw))) (ai hh (Nat.ble_eq_true_of_le hS))))
theorem good_0 {m:Nat} {g:Goal} {left:List Goal} {S S':Rows} (h:stepM S g = some ([],S')) (hl:left.length ≤ 900) (hS:S'.length ≤ 2):Goodb m (g :: left) S false 1:=
 ⟨λh=>(nomatch h),λ_ n W r _ hr=>(ex_0 h hl hS).trans hr⟩
theorem W5 {W:Wm} {m:Nat} (h:W.length + m ≤ 500):W.length ≤ 500:=Nat.le_trans (Nat.le_add_right _ _) h
theorem good_1 {m:Nat} {g:Goal} {left w:List Goal} {S S':Rows} {b:Bool} {k:Nat} (h:stepM S g = some ([w],S')) (hl:left.length ≤ 900) (hw:w.length ≤ 900) (hS:S'.length ≤ 2) (hg:Goodb m (w.reverse ++ left) S' b k):Goodb m (g :: left) S b (k + 1):=
 have h1 {n:Nat} {W:Wm} (hW:W.length + m ≤ 500):exM concM (n + k + 1) (g :: left) S W = exM concM (n + k) (w.reverse ++ left) S' W:=ex_1 (ws:=[]) h hl (W5 hW) (Nat.zero_le _) (ai (bl hw (by decide)) rfl) hS rfl
 ⟨λhb n W hW=>(h1 hW).trans (hg.yes hb n W hW),λhb n W r hW hr=>(h1 hW).trans (hg.no hb n W r hW hr)⟩
theorem good_2 {m:Nat} {g:Goal} {left w1 w2:List Goal} {S S':Rows} {b1 b2:Bool} {k1 k2:Nat} (h:stepM S g = some ([w1,w2],S')) (hl:left.length ≤ 900) (hw1:w1.length ≤ 900) (hw2:w2.length ≤ 900) (hS:S'.length ≤ 2) (hh:hasOk S' g [w2] = true) (hg1:Goodb m (w1.reverse ++ left) S' b1 k1) (hg2:Goodb m (w2.reverse ++ left) S' b2 k2):Goodb (m + 1) (g :: left) S (b1 || b2) (k2 + k1 + 1):=by
 have h1 {n:Nat} {W:Wm} (hW:W.length + (m + 1) ≤ 500):exM concM (n + (k2 + k1 + 1)) (g :: left) S W = exM concM (n + k2 + k1) (w1.reverse ++ left) S' ((w2.reverse ++ left,S') :: W):=by
  rw [← Nat.add_assoc,← Nat.add_assoc]
  exact ex_1 (ws:=[w2]) h hl (W5 hW) (Nat.le_of_ble_eq_true rfl) (ai (bl hw1 (by decide)) (ai (bl hw2 (by decide)) rfl)) hS hh
 have hW1 {W:Wm} (hW:W.length + (m + 1) ≤ 500):W.length + 1 + m ≤ 500:=by rw [Nat.add_assoc,Nat.add_comm 1]; exact hW
 have hW2 {W:Wm} (hW:W.length + (m + 1) ≤ 500):W.length + m ≤ 500:=Nat.le_trans (Nat.le_succ _) hW
 cases b1 with
 | true=>exact ⟨λ_ n W hW=>(h1 hW).trans (hg1.yes rfl (n + k2) _ (hW1 hW)),λh=>(nomatch h)⟩
 | false=>exact ⟨λhb n W hW=>(h1 hW).trans (hg1.no rfl (n + k2) _ true (hW1 hW) (hg2.yes hb n W (hW2 hW))),λhb n W r hW hr=>(h1 hW).trans (hg1.no rfl (n + k2) _ r (hW1 hW) (hg2.no hb n W r (hW2 hW) hr))⟩
noncomputable def x9:List At:=.int :: p8
noncomputable def u4:List At:=[.i64,.int,.st,.real]
noncomputable def leU (x u:At):Bool:=decide (x = u) || chain x u
theorem tabX {α γ:Type} {l:List α} (f g:α→γ) (h:l.map f = l.map g) {x:α} (hx:x ∈ l):f x = g x:=List.map_inj_left.mp h x hx
theorem step_closed (S:Rows) (x u:At) (hx:x ∈ x9) (hu:u ∈ u4):stepM S (sub x u) = some (cond (leU x u) [[]] [],S):=
 tabL (λx u=>stepM S (sub x u)) (λx u=>some (cond (leU x u) [[]] [],S)) (by kernel_rfl) hx hu
theorem len_app {α β:Type} {f:α→β} {l:List α} {r:List β}:(l.map f ++ r).length = l.length + r.length:=by rw [List.length_append,List.length_map]
theorem good_closed {β:Type} (e1 e2:β→At) {m:Nat} {S:Rows} {left:List Goal} {b:Bool} {k:Nat} (hS:S.length ≤ 2) (hk:1 ≤ k):∀ (gs:List β),(∀ g ∈ gs,e1 g ∈ x9∧e2 g ∈ u4)→gs.length + left.length ≤ 800→((gs.all λg=>leU (e1 g) (e2 g)) = true→Goodb m left S b k)→
 Goodb m (gs.map (λg=>sub (e1 g) (e2 g)) ++ left) S ((gs.all λg=>leU (e1 g) (e2 g)) && b) (k + gs.length)
 | [],_,_,hg=>hg rfl
 | g :: gs,h,hl,hg=>by
  have h1:=step_closed S (e1 g) (e2 g) (h g (.head _)).1 (h g (.head _)).2
  have hl':gs.length + left.length ≤ 800:=Nat.le_trans (Nat.add_le_add_right (Nat.le_succ _) _) hl
  have hl9:(gs.map (λg=>sub (e1 g) (e2 g)) ++ left).length ≤ 900:=by rw [len_app]; exact Nat.le_trans hl' (by decide)
  show Goodb m (sub (e1 g) (e2 g) :: (gs.map (λg=>sub (e1 g) (e2 g)) ++ left)) S ((leU (e1 g) (e2 g) && gs.all λg=>leU (e1 g) (e2 g)) && b) (k + gs.length + 1)
  have hg':(leU (e1 g) (e2 g) && gs.all λg=>leU (e1 g) (e2 g)) = true→Goodb m left S b k:=hg
  cases hle:leU (e1 g) (e2 g) with
  | true=>
   rw [hle] at h1 hg'
   exact good_1 h1 hl9 (Nat.zero_le _) hS (good_closed e1 e2 hS hk gs (λg' hm=>h g' (.tail _ hm)) hl' hg')
  | false=>
   rw [hle] at h1
   exact (good_0 h1 hl9 hS).more (Nat.succ_le_succ (Nat.zero_le _)) (Nat.le_refl _)
noncomputable def rw1 (lo up:List At) (dg:Bool):Row:=⟨true,1,lo,up,dg⟩
theorem bb {l m:List At} (h1:l.length ≤ 800) (h2:m.length ≤ 800):(Nat.ble m.length 3000 && Nat.ble l.length 3000) = true:=ai (bl h2 (by decide)) (bl h1 (by decide))
noncomputable def up2 (x:At) (lo up:List At) (dg:Bool):List (List Goal)×Rows:=cond (decide (x ∈ lo)) ([[]],[rw1 lo up dg]) ([up.map λu=>sub x u],[rw1 (lo ++ [x]) up dg])
noncomputable def dn2 (x:At) (lo up:List At) (dg:Bool):List (List Goal)×Rows:=cond (decide (x ∈ up)) ([[]],[rw1 lo up dg]) ([lo.map λl=>sub l x],[rw1 lo (up ++ [x]) dg])
theorem ite_cond {α:Type} (p:Prop) [Decidable p] (a b:α):(if p then a else b) = cond (decide p) a b:=by
 by_cases h:p
 · rw [if_pos h,decide_eq_true h]; rfl
 · rw [if_neg h,decide_eq_false h]; rfl
theorem step_up (x:At) (hx:x ∈ x9) (lo up:List At) (dg:Bool) (h1:lo.length ≤ 800) (h2:up.length ≤ 800) :
 stepM [rw1 lo up dg] (sub x .v1) = some (up2 x lo up dg):=by
 refine (tabX (λx=>stepM [rw1 lo up dg] (sub x .v1)) (λx=>cond (Nat.ble up.length 3000 && Nat.ble lo.length 3000) (some (if x ∈ lo then ([[]],[rw1 lo up dg]) else ([up.map λu=>sub x u],[rw1 (lo ++ [x]) up dg]))) none) (by kernel_rfl) hx).trans ?_
 rw [bb h1 h2,ite_cond]
 rfl
theorem step_dn (x:At) (hx:x ∈ u4) (lo up:List At) (dg:Bool) (h1:lo.length ≤ 800) (h2:up.length ≤ 800) :
 stepM [rw1 lo up dg] (sub .v1 x) = some (dn2 x lo up dg):=by
 refine (tabX (λx=>stepM [rw1 lo up dg] (sub .v1 x)) (λx=>cond (Nat.ble up.length 3000 && Nat.ble lo.length 3000) (some (if x ∈ up then ([[]],[rw1 lo up dg]) else ([lo.map λl=>sub l x],[rw1 lo (up ++ [x]) dg]))) none) (by kernel_rfl) hx).trans ?_
 rw [bb h1 h2,ite_cond]
 rfl
noncomputable def addL (x:At) (lo up:List At):Option (List At):=cond (decide (x ∈ lo)) (some lo) (gd (up.all λu=>leU x u) (some (lo ++ [x])))
noncomputable def addU (x:At) (lo up:List At):Option (List At):=cond (decide (x ∈ up)) (some up) (gd (lo.all λl=>leU l x) (some (up ++ [x])))
theorem good_add {m:Nat} {g:Goal} {left:List Goal} {S S1 S2:Rows} {b c:Bool} {k:Nat} {l:List At} {e1 e2:At→At} (hs:stepM S g = some (cond c ([[]],S1) ([l.map λu=>sub (e1 u) (e2 u)],S2))) (hS1:S1.length ≤ 2) (hS2:S2.length ≤ 2) (hl:l.length ≤ 100) (hl':left.length ≤ 300) (hk:1 ≤ k)
 (he:∀ g ∈ l,e1 g ∈ x9∧e2 g ∈ u4) (h1:c = true→Goodb m left S1 b k) (h2:c = false→(l.all λu=>leU (e1 u) (e2 u)) = true→Goodb m left S2 b k) (h3:c = false→(l.all λu=>leU (e1 u) (e2 u)) = false→b = false):Goodb m (g :: left) S b (k + l.length + 1):=by
 cases c with
 | true=>exact (good_1 hs (Nat.le_trans hl' (by decide)) (Nat.zero_le _) hS1 (h1 rfl)).more (Nat.succ_le_succ (Nat.le_add_right _ _)) (Nat.le_refl _)
 | false=>
  have h:=good_closed (m:=m) (left:=left) (b:=b) (k:=k) e1 e2 hS2 hk l.reverse (λg hg=>he g (List.mem_reverse.mp hg)) (by rw [List.length_reverse]; exact Nat.le_trans (Nat.add_le_add hl hl') (by decide)) (by rw [List.all_reverse]; exact h2 rfl)
  rw [List.all_reverse,List.map_reverse,List.length_reverse] at h
  refine good_1 hs (Nat.le_trans hl' (by decide)) (by rw [List.length_map]; exact Nat.le_trans hl (by decide)) hS2 ?_
  cases ha:l.all λu=>leU (e1 u) (e2 u) with
  | true=>rw [ha] at h; exact h
  | false=>rw [ha] at h; rw [h3 rfl ha]; exact h
theorem c_false {α:Type} {c:Bool} {x y:Option α} (h:c = false):cond c x y = y:=by rw [h]; rfl
theorem c_true {α:Type} {c:Bool} {x y:Option α} (h:c = true):cond c x y = x:=by rw [h]; rfl
theorem good_addL {m:Nat} {left:List Goal} {x:At} (hx:x ∈ x9) {lo up:List At} {dg:Bool} (hup:∀ u ∈ up,u ∈ u4) (h1:lo.length ≤ 100) (h2:up.length ≤ 100) (hl:left.length ≤ 300) (b:Bool) (k:Nat)
 (hg:∀ lo',addL x lo up = some lo'→Goodb m left [rw1 lo' up dg] b k) (hb:addL x lo up = none→b = false) (hk:1 ≤ k):Goodb m (sub x .v1 :: left) [rw1 lo up dg] b (k + up.length + 1):=
 good_add (e1:=λ_=>x) (e2:=λu=>u) (step_up x hx lo up dg (Nat.le_trans h1 (by decide)) (Nat.le_trans h2 (by decide))) (by decide:1 ≤ 2) (by decide:1 ≤ 2) h2 hl hk (λu hu=>⟨hx,hup u hu⟩) (λhc=>hg lo (c_true hc)) (λhc ha=>hg _ ((c_false hc).trans (congrArg (λc=>gd c (some (lo ++ [x]))) ha))) λhc ha=>hb ((c_false hc).trans (congrArg (λc=>gd c (some (lo ++ [x]))) ha))
theorem good_addU {m:Nat} {left:List Goal} {x:At} (hx:x ∈ u4) {lo up:List At} {dg:Bool} (hlo:∀ l ∈ lo,l ∈ x9) (h1:lo.length ≤ 100) (h2:up.length ≤ 100) (hl:left.length ≤ 300) (b:Bool) (k:Nat)
 (hg:∀ up',addU x lo up = some up'→Goodb m left [rw1 lo up' dg] b k) (hb:addU x lo up = none→b = false) (hk:1 ≤ k):Goodb m (sub .v1 x :: left) [rw1 lo up dg] b (k + lo.length + 1):=
 good_add (e1:=λu=>u) (e2:=λ_=>x) (step_dn x hx lo up dg (Nat.le_trans h1 (by decide)) (Nat.le_trans h2 (by decide))) (by decide:1 ≤ 2) (by decide:1 ≤ 2) h1 hl hk (λu hu=>⟨hlo u hu,hx⟩) (λhc=>hg up (c_true hc)) (λhc ha=>hg _ ((c_false hc).trans (congrArg (λc=>gd c (some (up ++ [x]))) ha))) λhc ha=>hb ((c_false hc).trans (congrArg (λc=>gd c (some (up ++ [x]))) ha))
noncomputable abbrev LU:=List At×List At
noncomputable def aV (p:At) (lo up:List At):List LU:=(addL p lo up).casesOn [] λlo'=>[(lo',up)]
noncomputable def aC (c p:At) (lo up:List At):List LU:=cond (leU p c) [(lo,up)] []
noncomputable def aA1 (x:At) (lo up:List At):List LU:=(addU x lo up).casesOn [] λup'=>aV x lo up'
noncomputable def aA (p:At) (lo up:List At):List LU:=(arIt p).casesOn [] λx=>aA1 x lo up
noncomputable def aT (p:At) (lo up:List At):List LU:=(tuIt p).casesOn [] λx=>aV x lo up
noncomputable def alts (w:Nat) (p:At) (lo up:List At):List LU:=match w with
 | 0=>aV p lo up
 | 1=>aC .int p lo up
 | 2=>aA p lo up
 | 3=>aC .st p lo up ++ aV p lo up
 | 4=>aA p lo up ++ aV p lo up
 | _=>aC .int p lo up ++ aT p lo up
@[elab_as_elim] theorem way6 {M:Nat→Prop} (w:Nat) (h0:M 0) (h1:M 1) (h2:M 2) (h3:M 3) (h4:M 4) (h5:∀ n,M (n + 5)):M w:=
 w.casesOn h0 λw=>w.casesOn h1 λw=>w.casesOn h2 λw=>w.casesOn h3 λw=>w.casesOn h4 h5
noncomputable def gl (q:At×Nat):Goal:=sub q.1 (sb 1 (memb q.2))
theorem step_arr (S:Rows) (p:At) (hp:p ∈ p8):stepM S (sub p .ar1) = some ((arIt p).casesOn [] λx=>[[same x .v1,same .n1 .n1]],S):=
 tabX (λp=>stepM S (sub p .ar1)) (λp=>some ((arIt p).casesOn [] λx=>[[same x .v1,same .n1 .n1]],S)) (by kernel_rfl) hp
theorem step_tv (S:Rows) (p:At) (hp:p ∈ p8):stepM S (sub p .tv1) = some ((tuIt p).casesOn [] λx=>[[sub x .v1]],S):=
 tabX (λp=>stepM S (sub p .tv1)) (λp=>some ((tuIt p).casesOn [] λx=>[[sub x .v1]],S)) (by kernel_rfl) hp
theorem step_us (S:Rows) (p:At) (hp:p ∈ p8):stepM S (sub p .us1) = some ([[sub p .st],[sub p .v1]],S):=tabX (λp=>stepM S (sub p .us1)) (λp=>some ([[sub p .st],[sub p .v1]],S)) (by kernel_rfl) hp
theorem step_ua (S:Rows) (p:At) (hp:p ∈ p8):stepM S (sub p .ua1) = some ([[sub p .ar1],[sub p .v1]],S):=tabX (λp=>stepM S (sub p .ua1)) (λp=>some ([[sub p .ar1],[sub p .v1]],S)) (by kernel_rfl) hp
theorem step_ui (S:Rows) (p:At) (hp:p ∈ p8):stepM S (sub p .ui1) = some ([[sub p .int],[sub p .tv1]],S):=tabX (λp=>stepM S (sub p .ui1)) (λp=>some ([[sub p .int],[sub p .tv1]],S)) (by kernel_rfl) hp
theorem step_same (S:Rows) (x:At) (hx:x ∈ u4):stepM S (same x .v1) = some ([[sub x .v1,sub .v1 x]],S):=tabX (λx=>stepM S (same x .v1)) (λx=>some ([[sub x .v1,sub .v1 x]],S)) (by kernel_rfl) hx
theorem p8_x9 {p:At} (h:p ∈ p8):p ∈ x9:=.tail _ h
theorem arIt_u4 {p:At} (hp:p ∈ p8) {x:At} (h:arIt p = some x):x ∈ u4∧x ∈ x9:=
 have e:=tabX (λp=>(arIt p).all λx=>decide (x ∈ u4) && decide (x ∈ x9)) (λ_=>true) (by kernel_rfl) hp
 have e:=an ((congrArg (λo:Option At=>o.all λx=>decide (x ∈ u4) && decide (x ∈ x9)) h).symm.trans e)
 ⟨of_decide_eq_true e.1,of_decide_eq_true e.2⟩
theorem tuIt_p8 {p:At} (hp:p ∈ p8) {x:At} (h:tuIt p = some x):x ∈ p8:=
 have e:=tabX (λp=>(tuIt p).all λx=>decide (x ∈ p8)) (λ_=>true) (by kernel_rfl) hp
 of_decide_eq_true ((congrArg (λo:Option At=>o.all λx=>decide (x ∈ p8)) h).symm.trans e)
structure Ok (lo up:List At) (j:Nat):Prop where
 lo9:∀ l ∈ lo,l ∈ x9
 up4:∀ u ∈ up,u ∈ u4
 llen:lo.length ≤ j
 ulen:up.length ≤ j
theorem all_snoc {l:List At} {x:At} {m:List At} (h:∀ a ∈ l,a ∈ m) (hx:x ∈ m):∀ a ∈ l ++ [x],a ∈ m:=λa ha=>(List.mem_append.mp ha).elim (h a) λha=>List.mem_singleton.mp ha ▸ hx
theorem len_snoc {l:List At} {x:At} {j:Nat} (h:l.length ≤ j):(l ++ [x]).length ≤ j + 1:=by rw [List.length_append]; exact Nat.succ_le_succ h
theorem addL_is {x:At} {lo up lo':List At} {G:Prop} (e:addL x lo up = some lo') (h1:x ∈ lo→lo = lo'→G) (h2:x ∉ lo→(up.all λu=>leU x u) = true→lo ++ [x] = lo'→G):G:=
 cond_is (c:=decide (x ∈ lo)) e (λhc e=>h1 (of_decide_eq_true hc) (Option.some.inj e)) λhc e=>gd_is (c:=up.all λu=>leU x u) e λha e=>h2 (of_decide_eq_false hc) ha (Option.some.inj e)
theorem addU_is {x:At} {lo up up':List At} {G:Prop} (e:addU x lo up = some up') (h1:x ∈ up→up = up'→G) (h2:x ∉ up→(lo.all λl=>leU l x) = true→up ++ [x] = up'→G):G:=
 cond_is (c:=decide (x ∈ up)) e (λhc e=>h1 (of_decide_eq_true hc) (Option.some.inj e)) λhc e=>gd_is (c:=lo.all λl=>leU l x) e λha e=>h2 (of_decide_eq_false hc) ha (Option.some.inj e)
theorem addL_ok {x:At} (hx:x ∈ x9) {lo lo' up:List At} {j:Nat} (h:Ok lo up j) (e:addL x lo up = some lo'):Ok lo' up (j + 1):=
 addL_is e (λ_ e=>e ▸ ⟨h.lo9,h.up4,Nat.le_succ_of_le h.llen,Nat.le_succ_of_le h.ulen⟩) λ_ _ e=>e ▸ ⟨all_snoc h.lo9 hx,h.up4,len_snoc h.llen,Nat.le_succ_of_le h.ulen⟩
theorem addU_ok {x:At} (hx:x ∈ u4) {lo up up':List At} {j:Nat} (h:Ok lo up j) (e:addU x lo up = some up'):Ok lo up' (j + 1):=
 addU_is e (λ_ e=>e ▸ ⟨h.lo9,h.up4,Nat.le_succ_of_le h.llen,Nat.le_succ_of_le h.ulen⟩) λ_ _ e=>e ▸ ⟨h.lo9,all_snoc h.up4 hx,Nat.le_succ_of_le h.llen,len_snoc h.ulen⟩
theorem le100 {n j:Nat} (h:n ≤ j) (hj:j ≤ 9):n ≤ 100:=Nat.le_trans h (Nat.le_trans hj (by decide))
section
variable {m:Nat} {left:List Goal} {lo up:List At} {dg:Bool} {j:Nat} (c:LU→Bool) (k:Nat)
theorem any1 (s:LU):[s].any c = c s:=Bool.or_false _
theorem good_V {x:At} (hx:x ∈ x9) (h:Ok lo up j) (hj:j ≤ 9) (hl:left.length ≤ 300) (hk:1 ≤ k)
 (hg:∀ s ∈ aV x lo up,Goodb m left [rw1 s.1 s.2 dg] (c s) k):Goodb m (sub x .v1 :: left) [rw1 lo up dg] ((aV x lo up).any c) (k + 12):=by
 refine (good_addL hx h.up4 (le100 h.llen hj) (le100 h.ulen hj) hl _ k (λlo' e=>?_) (λe=>?_) hk).more (Nat.add_le_add_left (Nat.le_trans (Nat.succ_le_succ (Nat.le_trans h.ulen hj)) (by decide:10 ≤ 12)) k) (Nat.le_refl _)
 · unfold aV at hg ⊢
   rw [e] at hg ⊢
   exact any1 c (lo',up) ▸ hg _ (.head _)
 · unfold aV
   rw [e]; rfl
theorem one2 {l u:List At}:[rw1 l u dg].length ≤ 2:=by show 1 ≤ 2; decide
theorem good_C {x u:At} (hx:x ∈ x9) (hu:u ∈ u4) (hl:left.length ≤ 300)
 (hg:∀ s ∈ aC u x lo up,Goodb m left [rw1 s.1 s.2 dg] (c s) k):Goodb m (sub x u :: left) [rw1 lo up dg] ((aC u x lo up).any c) (k + 1):=by
 have h1:=step_closed [rw1 lo up dg] x u hx hu
 have h9:=Nat.le_trans hl (by decide:300 ≤ 900)
 unfold aC at hg ⊢
 cases hle:leU x u with
 | true=>
  rw [hle] at h1 hg
  exact (any1 c (lo,up)).symm ▸ good_1 h1 h9 (Nat.zero_le _) one2 (hg (lo,up) (.head _))
 | false=>
  rw [hle] at h1
  exact (good_0 h1 h9 one2).more (Nat.succ_le_succ (Nat.zero_le _)) (Nat.le_refl _)
theorem good_A {p:At} (hp:p ∈ p8) (h:Ok lo up j) (hj:j ≤ 8) (hl:left.length ≤ 290) (hk:1 ≤ k)
 (hg:∀ s ∈ aA p lo up,Goodb m left [rw1 s.1 s.2 dg] (c s) k):Goodb m (sub p .ar1 :: left) [rw1 lo up dg] ((aA p lo up).any c) (k + 26):=by
 have h1:=step_arr [rw1 lo up dg] p hp
 have h9:=Nat.le_trans hl (by decide:290 ≤ 898)
 unfold aA at hg ⊢
 cases ha:arIt p with
 | none=>
  rw [ha] at h1
  exact (good_0 h1 (Nat.le_trans h9 (by decide)) one2).more (Nat.succ_le_succ (Nat.zero_le _)) (Nat.le_refl _)
 | some x=>
  rw [ha] at h1 hg
  obtain ⟨hx4,hx9⟩:=arIt_u4 hp ha
  have g5:Goodb m (sub .v1 x :: (sub x .v1 :: left)) [rw1 lo up dg] ((aA1 x lo up).any c) (k + 12 + lo.length + 1):=by
   refine good_addU hx4 h.lo9 (le100 h.llen (Nat.le_succ_of_le hj)) (le100 h.ulen (Nat.le_succ_of_le hj)) (Nat.le_trans (Nat.succ_le_succ hl) (by decide)) _ (k + 12) (λup' e=>?_) (λe=>?_) (Nat.le_add_right_of_le hk)
   · have hg:∀ s ∈ aA1 x lo up,Goodb m left [rw1 s.1 s.2 dg] (c s) k:=hg
     unfold aA1 at hg ⊢
     rw [e] at hg ⊢
     exact good_V c k hx9 (addU_ok hx4 h e) (Nat.succ_le_succ hj) (Nat.le_trans hl (by decide)) hk hg
   · unfold aA1
     rw [e]; rfl
  have g4:=good_1 (step_same [rw1 lo up dg] x hx4) (Nat.le_trans h9 (by decide)) (Nat.le_of_ble_eq_true rfl) one2 g5
  have g3:=good_1 (left:=same x .v1 :: left) (S:=[rw1 lo up dg]) (g:=same .n1 .n1) (w:=[]) (S':=[rw1 lo up dg]) (by kernel_rfl) (Nat.succ_le_succ (Nat.le_trans h9 (by decide:898 ≤ 899))) (Nat.zero_le _) one2 g4
  exact (good_1 h1 (Nat.le_trans h9 (by decide)) (Nat.le_of_ble_eq_true rfl) one2 g3).more (by have:=h.llen; omega) (Nat.le_refl _)
theorem good_T {p:At} (hp:p ∈ p8) (h:Ok lo up j) (hj:j ≤ 8) (hl:left.length ≤ 290) (hk:1 ≤ k)
 (hg:∀ s ∈ aT p lo up,Goodb m left [rw1 s.1 s.2 dg] (c s) k):Goodb m (sub p .tv1 :: left) [rw1 lo up dg] ((aT p lo up).any c) (k + 26):=by
 have h1:=step_tv [rw1 lo up dg] p hp
 have h9:=Nat.le_trans hl (by decide:290 ≤ 900)
 unfold aT at hg ⊢
 cases ha:tuIt p with
 | none=>
  rw [ha] at h1
  exact (good_0 h1 h9 one2).more (Nat.succ_le_succ (Nat.zero_le _)) (Nat.le_refl _)
 | some x=>
  rw [ha] at h1 hg
  have g5:=good_V (m:=m) (left:=left) (dg:=dg) c k (p8_x9 (tuIt_p8 hp ha)) h (Nat.le_succ_of_le hj) (Nat.le_trans hl (by decide)) hk hg
  exact (good_1 h1 h9 (Nat.le_of_ble_eq_true rfl) one2 g5).more (Nat.add_le_add_left (by decide:13 ≤ 26) k) (Nat.le_refl _)
theorem good_or {g:Goal} {p a b:At} (hs:stepM [rw1 lo up dg] g = some ([[sub p a],[sub p b]],[rw1 lo up dg])) (hh:hasAt [rw1 lo up dg] g = true) (hl:left.length ≤ 280) {l1 l2:List LU} {k1 k2:Nat} (hk:k2 + k1 + 1 ≤ 2 * k + 60)
 (g1:Goodb m (sub p a :: left) [rw1 lo up dg] (l1.any c) k1) (g2:Goodb m (sub p b :: left) [rw1 lo up dg] (l2.any c) k2):Goodb (m + 1) (g :: left) [rw1 lo up dg] ((l1 ++ l2).any c) (2 * k + 60):=by
 rw [List.any_append]
 exact (good_2 hs (Nat.le_trans hl (by decide)) (Nat.le_of_ble_eq_true rfl) (Nat.le_of_ble_eq_true rfl) one2 hh g1 g2).more hk (Nat.le_refl _)
theorem good_pos {p:At} (w:Nat) (hp:p ∈ p8) (h:Ok lo up j) (hj:j ≤ 8) (hl:left.length ≤ 280) (hk:1 ≤ k) :
 (∀ s ∈ alts w p lo up,Goodb m left [rw1 s.1 s.2 dg] (c s) k)→Goodb (m + 1) (gl (p,w) :: left) [rw1 lo up dg] ((alts w p lo up).any c) (2 * k + 60):=
 have l3:=Nat.le_trans hl (by decide:280 ≤ 300)
 have l2:=Nat.le_trans hl (by decide:280 ≤ 290)
 have m1:=Nat.le_succ m
 have e:2 * k = k + k:=Nat.two_mul k
 way6 (M:=λw=>(∀ s ∈ alts w p lo up,Goodb m left [rw1 s.1 s.2 dg] (c s) k)→Goodb (m + 1) (gl (p,w) :: left) [rw1 lo up dg] ((alts w p lo up).any c) (2 * k + 60)) w
  (λhg=>(good_V c k (p8_x9 hp) h (Nat.le_succ_of_le hj) l3 hk hg).more (by omega) m1)
  (λhg=>(good_C c k (p8_x9 hp) (by decide) l3 hg).more (by omega) m1)
  (λhg=>(good_A c k hp h hj l2 hk hg).more (by omega) m1)
  (λhg=>good_or c k (step_us _ p hp) rfl hl (by omega) (good_C c k (p8_x9 hp) (by decide) l3 λs hs=>hg s (List.mem_append_left _ hs)) (good_V c k (p8_x9 hp) h (Nat.le_succ_of_le hj) l3 hk λs hs=>hg s (List.mem_append_right _ hs)))
  (λhg=>good_or c k (step_ua _ p hp) rfl hl (by omega) (good_A c k hp h hj l2 hk λs hs=>hg s (List.mem_append_left _ hs)) (good_V c k (p8_x9 hp) h (Nat.le_succ_of_le hj) l3 hk λs hs=>hg s (List.mem_append_right _ hs)))
  fun n hg=>good_or c k (step_ui _ p hp) rfl hl (by omega) (good_C c k (p8_x9 hp) (by decide) l3 λs hs=>hg s (List.mem_append_left _ hs)) (good_T c k hp h hj l2 hk λs hs=>hg s (List.mem_append_right _ hs))
end
noncomputable def allSame (l:List At):Bool:=l.casesOn true λk l=>l.all λa=>decide (a = k)
theorem no_anyV {k a:At} (hk:k ∈ p8) (ha:a ∈ p8):anyV k a = false:=tabL (λk a=>anyV k a) (λ_ _=>false) (by kernel_rfl) hk ha
theorem oneL_p8 (k:At) (hk:k ∈ p8):∀ l:List At,(∀ a ∈ l,a ∈ p8)→oneL k l = some (l.all λa=>decide (a = k))
 | [],_=>rfl
 | a :: l,h=>by
  have ha:=h a (.head _)
  have ih:=oneL_p8 k hk l λa hm=>h a (.tail _ hm)
  show cond (decide (a = k)) (oneL k l) (cond (anyV k a) (some false) (gd (decide (k ∈ p8) && decide (a ∈ p8)) (some false))) = some (decide (a = k) && l.all λa=>decide (a = k))
  cases decide (a = k) with
  | true=>exact ih
  | false=>rw [no_anyV hk ha,decide_eq_true hk,decide_eq_true ha]; rfl
theorem finM_p8 (S:Rows) {k:At} (hk:k ∈ p8):finM S k = some true:=tabX (λk=>finM S k) (λ_=>some true) (by kernel_rfl) hk
theorem conc_val (lo up:List At) (dg:Bool) (h:dg = true→∀ l ∈ lo,l ∈ p8) (hl:lo.length ≤ 100):concM [rw1 lo up dg] = some (!dg || allSame lo):=by
 cases dg with
 | false=>rfl
 | true=>
  have h':=h rfl
  cases lo with
  | nil=>rfl
  | cons k l=>
   have hk:=h' k (.head _)
   show gd (Nat.ble l.length 3000) (b1 (oneL k l) λb=>cond b (finM [rw1 (k :: l) up true] k) (some false)) = some (l.all λa=>decide (a = k))
   rw [bl (Nat.le_of_succ_le hl) (by decide),oneL_p8 k hk l λa hm=>h' a (.tail _ hm),finM_p8 _ hk]
   cases (l.all λa=>decide (a = k)) <;> rfl
noncomputable def sol (dg:Bool):List (At×Nat)→List At→List At→Bool
 | [],lo,_=>!dg || allSame lo
 | q :: L,lo,up=>(alts q.2 q.1 lo up).any λs=>sol dg L s.1 s.2
section
variable {p x u:At} {lo up:List At} {j:Nat} {s:LU} {G:Prop}
theorem aV_is (h:s ∈ aV x lo up) (k:∀ lo',addL x lo up = some lo'→s = (lo',up)→G):G:=by
 unfold aV at h
 cases e:addL x lo up with
 | none=>rw [e] at h; exact nomatch h
 | some lo'=>rw [e] at h; exact k lo' e (List.mem_singleton.mp h)
theorem aC_is (h:s ∈ aC u x lo up) (k:leU x u = true→s = (lo,up)→G):G:=by
 unfold aC at h
 cases e:leU x u with
 | false=>rw [e] at h; exact nomatch h
 | true=>rw [e] at h; exact k e (List.mem_singleton.mp h)
theorem aA_is (h:s ∈ aA p lo up) (k:∀ x up' lo',arIt p = some x→addU x lo up = some up'→addL x lo up' = some lo'→s = (lo',up')→G):G:=by
 unfold aA at h
 cases e:arIt p with
 | none=>rw [e] at h; exact nomatch h
 | some x=>
  rw [e] at h
  have h:s ∈ aA1 x lo up:=h
  unfold aA1 at h
  cases e2:addU x lo up with
  | none=>rw [e2] at h; exact nomatch h
  | some up'=>rw [e2] at h; exact aV_is h λlo' e3 e4=>k x up' lo' e e2 e3 e4
theorem aT_is (h:s ∈ aT p lo up) (k:∀ x,tuIt p = some x→s ∈ aV x lo up→G):G:=by
 unfold aT at h
 cases e:tuIt p with
 | none=>rw [e] at h; exact nomatch h
 | some x=>rw [e] at h; exact k x e h
theorem alts_is (w:Nat) (hp:p ∈ p8):s ∈ alts w p lo up→(s = (lo,up)→G)→(∀ x ∈ p8,∀ lo',addL x lo up = some lo'→s = (lo',up)→G)→(arrT w = true→∀ x ∈ u4,x ∈ x9→∀ up' lo',addU x lo up = some up'→addL x lo up' = some lo'→s = (lo',up')→G)→G:=
 have A (h:s ∈ aA p lo up) (hA:∀ x ∈ u4,x ∈ x9→∀ up' lo',addU x lo up = some up'→addL x lo up' = some lo'→s = (lo',up')→G):G:=aA_is h λx up' lo' e=>hA x (arIt_u4 hp e).1 (arIt_u4 hp e).2 up' lo'
 way6 (M:=λw=>s ∈ alts w p lo up→(s = (lo,up)→G)→(∀ x ∈ p8,∀ lo',addL x lo up = some lo'→s = (lo',up)→G)→(arrT w = true→∀ x ∈ u4,x ∈ x9→∀ up' lo',addU x lo up = some up'→addL x lo up' = some lo'→s = (lo',up')→G)→G) w
  (λh _ hV _=>aV_is h (hV p hp)) (λh hC _ _=>aC_is h λ_=>hC) (λh _ _ hA=>A h (hA rfl))
  (λh hC hV _=>(List.mem_append.mp h).elim (λh=>aC_is h λ_=>hC) λh=>aV_is h (hV p hp))
  (λh _ hV hA=>(List.mem_append.mp h).elim (λh=>A h (hA rfl)) λh=>aV_is h (hV p hp))
  fun n h hC hV _=>(List.mem_append.mp h).elim (λh=>aC_is h λ_=>hC) λh=>aT_is h λx e h=>aV_is h (hV x (tuIt_p8 hp e))
theorem Ok.mono {i j:Nat} (h:Ok lo up i) (hij:i ≤ j):Ok lo up j:=⟨h.lo9,h.up4,Nat.le_trans h.llen hij,Nat.le_trans h.ulen hij⟩
theorem addL_len {lo':List At} (e:addL x lo up = some lo'):lo'.length ≤ lo.length + 1∧∀ l ∈ lo',l ∈ lo∨l = x:=
 addL_is e (λ_ e=>e ▸ ⟨Nat.le_succ _,λ_ h=>.inl h⟩) λ_ _ e=>e ▸ ⟨len_snoc (Nat.le_refl _),λ_ h=>(List.mem_append.mp h).imp id List.mem_singleton.mp⟩
theorem addU_len {up':List At} (e:addU x lo up = some up'):up'.length ≤ up.length + 1∧∀ l ∈ up',l ∈ up∨l = x:=
 addU_is e (λ_ e=>e ▸ ⟨Nat.le_succ _,λ_ h=>.inl h⟩) λ_ _ e=>e ▸ ⟨len_snoc (Nat.le_refl _),λ_ h=>(List.mem_append.mp h).imp id List.mem_singleton.mp⟩
theorem grown {l l':List At} {x:At} {m:List At} (h:∀ a ∈ l,a ∈ m) (hx:x ∈ m) (h':∀ a ∈ l',a ∈ l∨a = x):∀ a ∈ l',a ∈ m:=λa ha=>(h' a ha).elim (h a) λe=>e ▸ hx
theorem alts_ok {w:Nat} (hp:p ∈ p8) (h:Ok lo up j) (hs:s ∈ alts w p lo up):Ok s.1 s.2 (j + 1):=
 alts_is w hp hs (λe=>e ▸ h.mono (Nat.le_succ j)) (λx hx lo' e e'=>e' ▸ addL_ok (p8_x9 hx) h e) λ_ x h4 h9 up' lo' e1 e2 e'=>e' ▸
  ⟨grown h.lo9 h9 (addL_len e2).2,grown h.up4 h4 (addU_len e1).2,Nat.le_trans (addL_len e2).1 (Nat.succ_le_succ h.llen),Nat.le_trans (addU_len e1).1 (Nat.succ_le_succ h.ulen)⟩
theorem alts_p8 {w:Nat} (hw:arrT w = false) (hp:p ∈ p8) (h:∀ l ∈ lo,l ∈ p8) (hs:s ∈ alts w p lo up):∀ l ∈ s.1,l ∈ p8:=
 alts_is w hp hs (λe=>e ▸ h) (λx hx lo' e e'=>e' ▸ grown h hx (addL_len e).2) λht=>(nomatch hw.symm.trans ht)
end
noncomputable def KK:Nat→Nat
 | 0=>1
 | n + 1=>2 * KK n + 60
theorem KK_pos (n:Nat):1 ≤ KK n:=n.casesOn (Nat.le_refl 1) λn=>Nat.le_trans (by decide:1 ≤ 60) (Nat.le_add_left 60 _)
theorem good_all (dg:Bool):∀ (L:List (At×Nat)) (lo up:List At) (j:Nat),(∀ q ∈ L,q.1 ∈ p8)→(dg = true→∀ q ∈ L,arrT q.2 = false)→Ok lo up j→j + L.length ≤ 8→(dg = true→∀ l ∈ lo,l ∈ p8)→
 Goodb L.length (L.map gl) [rw1 lo up dg] (sol dg L lo up) (KK L.length)
 | [],lo,up,j,_,_,h,hj,hd=>good_nil (conc_val lo up dg hd (le100 h.llen (Nat.le_succ_of_le hj)))
 | q :: L,lo,up,j,hp,ha,h,hj,hd=>
  have hq:=hp q (.head _)
  have hj':j + 1 + L.length ≤ 8:=by rw [Nat.add_assoc,Nat.add_comm 1]; exact hj
  have hl:L.length ≤ 8:=Nat.le_trans (Nat.le_add_left _ _) hj'
  good_pos (λs=>sol dg L s.1 s.2) (KK L.length) q.2 hq h (Nat.le_trans (Nat.le_add_right _ _) hj) (by rw [List.length_map]; exact Nat.le_trans hl (by decide)) (KK_pos _) λs hs=>
   good_all dg L s.1 s.2 (j + 1) (λq' hm=>hp q' (.tail _ hm)) (λe q' hm=>ha e q' (.tail _ hm)) (alts_ok hq h hs) hj' λe=>alts_p8 (ha e q (.head _)) hq (hd e) hs
theorem KK_le:∀ n,n ≤ 4→KK n ≤ 3898:=by decide
theorem run_all (dg:Bool) (L:List (At×Nat)) (lo up:List At) (hp:∀ q ∈ L,q.1 ∈ p8) (ha:dg = true→∀ q ∈ L,arrT q.2 = false) (h:Ok lo up 1) (hL:L.length ≤ 4) (hd:dg = true→∀ l ∈ lo,l ∈ p8) :
 exM concM 3898 (L.map gl) [rw1 lo up dg] [] = some (sol dg L lo up):=by
 have g:=(good_all dg L lo up 1 hp ha h (Nat.le_trans (Nat.add_le_add_left hL 1) (by decide)) hd).more (KK_le _ hL) (Nat.le_refl _)
 have hm:([]:Wm).length + L.length ≤ 500:=Nat.le_trans (Nat.le_of_eq (Nat.zero_add _)) (Nat.le_trans hL (by decide))
 cases hb:sol dg L lo up with
 | true=>exact Nat.zero_add 3898 ▸ g.yes hb 0 [] hm
 | false=>exact Nat.zero_add 3898 ▸ g.no hb 0 [] false hm rfl
noncomputable def upInit (u:At):List At:=cond (decide (u = .any)) [] [u]
noncomputable def pairsOf (parts:List At) (ways:List Nat) (tail:Option Nat):List (At×Nat):=
 (List.range parts.length).map λi=>(parts.getD i .any,if i < ways.length then ways.getD i 0 else tail.getD 0)
noncomputable def dgOf (ways:List Nat) (tail:Option Nat):Bool:=isDiag (ways.map memb) (tail.map memb)
noncomputable def outK (a b:Nat) (t:Bool):Bool:=decide (a < b) || (t && decide (b < a))
noncomputable def resA (parts:List At) (ways:List Nat) (tail:Option Nat) (u:At):Bool:=
 cond (outK parts.length ways.length tail.isNone) false (sol (dgOf ways tail) (pairsOf parts ways tail).reverse [] (upInit u))
theorem lc_p8 {a:At} (h:a ∈ p8):(lc? a,lcs a) = (true,[a]):=tabX (λa=>(lc? a,lcs a)) (λa=>(true,[a])) (by kernel_rfl) h
theorem tcs_p8:∀ (l row:List At),(∀ a ∈ l,a ∈ p8)→tcs l [row] = some [row ++ l]
 | [],row,_=>congrArg (λr=>some [r]) (List.append_nil row).symm
 | a :: l,row,h=>by
  have e:tcs (a :: l) [row] = (λp:Bool×List At=>gd (p.1 && Nat.ble (1 * p.2.length) 64) (tcs l (grow [row] p.2))) (lc? a,lcs a):=rfl
  rw [e,lc_p8 (h a (.head _))]
  refine (tcs_p8 l (row ++ [a]) λb hb=>h b (.tail _ hb)).trans ?_
  rw [List.append_assoc]; rfl
theorem memb_mb (w:Nat):mb? (memb w) = true:=way6 w rfl rfl rfl rfl rfl λ_=>rfl
theorem mbs_memb (ways:List Nat) (tail:Option Nat):mbs (ways.map memb) (tail.map memb) = true:=List.all_eq_true.mpr λa ha=>(List.mem_append.mp ha).elim
 (λha=>(List.mem_map.mp ha).elim λw h=>h.2 ▸ memb_mb w) (λha=>by
  cases tail with
  | none=>exact nomatch ha
  | some t=>exact List.mem_singleton.mp ha ▸ memb_mb t)
theorem memb_p8 (w:Nat):decide (sb 1 (memb w) ∈ p8) = false:=way6 (M:=λw=>decide (sb 1 (memb w) ∈ p8) = false) w (by kernel_rfl) (by kernel_rfl) (by kernel_rfl) (by kernel_rfl) (by kernel_rfl) λ_=>by kernel_rfl
theorem memb_arr (w:Nat):(occ (memb w)).2 = arrT w:=way6 (M:=λw=>(occ (memb w)).2 = arrT w) w (by kernel_rfl) (by kernel_rfl) (by kernel_rfl) (by kernel_rfl) (by kernel_rfl) λ_=>by kernel_rfl
theorem nt {b:Bool} (h:(!b) = true):b = false:=b.casesOn (motive:=λb=>(!b) = true→b = false) (λ_=>rfl) (λh=>h.symm) h
theorem dg_arr {ways:List Nat} {tail:Option Nat} (h:dgOf ways tail = true):(∀ w ∈ ways,arrT w = false)∧(∀ t,tail = some t→arrT t = false):=by
 have h2:∀ a ∈ occZ (ways.map memb) (tail.map memb),¬ (occ a).2 = true:=List.any_eq_false.mp (nt (an h).2)
 have h3 (w:Nat) (h:memb w ∈ occZ (ways.map memb) (tail.map memb)):arrT w = false:=memb_arr w ▸ Bool.eq_false_iff.mpr (h2 _ h)
 exact ⟨λw hw=>h3 w (List.mem_append_left _ (List.mem_map.mpr ⟨w,hw,rfl⟩)),λt ht=>h3 t (ht ▸ List.mem_append_right _ (.head _))⟩
theorem lenss (ways:List Nat):((ways.map memb).map (sb 1)).length = ways.length:=by rw [List.length_map,List.length_map]
theorem pick {α:Type} {l:List α} {d:α} {i:Nat} (h:i < l.length):l.getD i d ∈ l:=(congrArg (λo:Option α=>o.getD d ∈ l) (List.getElem?_eq_getElem h)).mpr (List.getElem_mem h)
theorem no_rest {a b i:Nat} {t:Bool} (hc:outK a b t = false) (hi:i < a) (hb:¬ i < b):t = false:=by
 have h:=(Bool.or_eq_false_iff.mp hc).2
 rw [decide_eq_true (Nat.lt_of_le_of_lt (Nat.le_of_not_lt hb) hi),Bool.and_true] at h
 exact h
theorem zip_pairs {parts:List At} {ways:List Nat} {tail:Option Nat} (hc:outK parts.length ways.length tail.isNone = false) :
 zipG parts ((ways.map memb).map (sb 1)) ((tail.map memb).map (sb 1)) = (pairsOf parts ways tail).map gl:=by
 unfold zipG pairsOf
 rw [lenss]
 refine Eq.trans ?_ List.map_map.symm
 refine List.map_congr_left λi hi=>?_
 have hi:=List.mem_range.mp hi
 refine congrArg (sub (parts.getD i .any)) ?_
 by_cases hiw:i < ways.length
 · rw [if_pos hiw]
   show _ = sb 1 (memb (if i < ways.length then ways.getD i 0 else tail.getD 0))
   rw [if_pos hiw]
   show (((ways.map memb).map (sb 1))[i]?).getD .any = sb 1 (memb (ways[i]?.getD 0))
   rw [List.getElem?_map,List.getElem?_map,List.getElem?_eq_getElem hiw]
   rfl
 · rw [if_neg hiw]
   show _ = sb 1 (memb (if i < ways.length then ways.getD i 0 else tail.getD 0))
   rw [if_neg hiw]
   cases tail with
   | none=>exact nomatch no_rest hc hi hiw
   | some t=>rfl
theorem tw_pairs (parts:List At) (ways:List Nat) (tail:Option Nat):twG parts none ((ways.map memb).map (sb 1)) ((tail.map memb).map (sb 1)) = cond (outK parts.length ways.length tail.isNone) [] [(pairsOf parts ways tail).map gl]:=by
 have e:((tail.map memb).map (sb 1)).isNone = tail.isNone:=by cases tail <;> rfl
 have h:twG parts none ((ways.map memb).map (sb 1)) ((tail.map memb).map (sb 1)) = cond (outK parts.length ((ways.map memb).map (sb 1)).length ((tail.map memb).map (sb 1)).isNone) [] [zipG parts ((ways.map memb).map (sb 1)) ((tail.map memb).map (sb 1)) ++ []]:=rfl
 rw [h,lenss,e]
 cases hc:outK parts.length ways.length tail.isNone with
 | true=>rfl
 | false=>rw [zip_pairs hc,List.append_nil]
theorem up_ok {u:At} (hu:u = .any∨u ∈ u4):Ok [] (upInit u) 1:=by
 unfold upInit
 cases h:decide (u = .any) with
 | true=>exact ⟨λ_ h=>(nomatch h),λ_ h=>(nomatch h),Nat.zero_le _,Nat.zero_le _⟩
 | false=>exact ⟨λ_ h=>(nomatch h),λx hx=>List.mem_singleton.mp hx ▸ hu.resolve_left (of_decide_eq_false h),Nat.zero_le _,Nat.le_refl _⟩
theorem pairs_len (parts:List At) (ways:List Nat) (tail:Option Nat):(pairsOf parts ways tail).length = parts.length:=by unfold pairsOf; rw [List.length_map,List.length_range]
theorem pairs_is {parts:List At} {ways:List Nat} {tail:Option Nat} {M:At×Nat→Prop} (h:∀ i,i < parts.length→M (parts.getD i .any,if i < ways.length then ways.getD i 0 else tail.getD 0)):∀ q ∈ pairsOf parts ways tail,M q:=λq hq=>
 (List.mem_map.mp hq).elim λi hi=>hi.2 ▸ h i (List.mem_range.mp hi.1)
theorem run_pairs {parts:List At} {ways:List Nat} {tail:Option Nat} {u:At} (hp:∀ p ∈ parts,p ∈ p8) (hl:parts.length ≤ 4) (hu:u = .any∨u ∈ u4) :
 exM concM 3898 ((pairsOf parts ways tail).reverse.map gl) [rw1 [] (upInit u) (dgOf ways tail)] [] = some (sol (dgOf ways tail) (pairsOf parts ways tail).reverse [] (upInit u)):=
 run_all (dgOf ways tail) (pairsOf parts ways tail).reverse [] (upInit u) (λq hq=>pairs_is (M:=λq=>q.1 ∈ p8) (λi hi=>hp _ (pick hi)) q (List.mem_reverse.mp hq))
  (λhd q hq=>pairs_is (M:=λq=>arrT q.2 = false) (λi hi=>by
   obtain ⟨d1,d2⟩:=dg_arr hd
   show arrT (if i < ways.length then ways.getD i 0 else tail.getD 0) = false
   by_cases h:i < ways.length
   · rw [if_pos h]; exact d1 _ (pick h)
   · rw [if_neg h]
     cases tail with
     | none=>rfl
     | some t=>exact d2 t rfl) q (List.mem_reverse.mp hq))
  (up_ok hu) (by rw [List.length_reverse,pairs_len]; exact hl) λ_ _ h=>nomatch h
theorem one_ok {g:Goal} {w:List Goal} {S S':Rows} {n:Nat} (h:stepM S g = some ([w],S')) (hw:w.length ≤ 900) (hS:S'.length ≤ 2):exM concM (n + 1) [g] S [] = exM concM n (w.reverse ++ []) S' []:=ex_1 (ws:=[]) h (Nat.zero_le _) (Nat.zero_le _) (Nat.zero_le _) (ai (bl hw (by decide)) rfl) hS rfl
theorem same_nil {parts:List At} {ways:List Nat} {tail:Option Nat} (hp:∀ p ∈ parts,p ∈ p8) (he:(decide (parts = (ways.map memb).map (sb 1)) && decide (none = (tail.map memb).map (sb 1))) = true):parts = []∧ways = []∧tail = none:=by
 have h1:=of_decide_eq_true (an he).1
 have h2:=of_decide_eq_true (an he).2
 cases ways with
 | cons w ws=>
  have:=hp (sb 1 (memb w)) (h1 ▸ .head _)
  exact absurd this (of_decide_eq_false (memb_p8 w))
 | nil=>cases tail with
  | some t=>exact nomatch h2
  | none=>exact ⟨h1,rfl,rfl⟩
theorem key_run {parts:List At} {ways:List Nat} {tail:Option Nat} {u:At} (hp:∀ p ∈ parts,p ∈ p8) (hl:parts.length ≤ 4) (hw:ways.length ≤ 2) (hu:u = .any∨u ∈ u4) :
 exM concM 3899 [⟨false,.tup parts none,openK 1 (ways.map memb) (tail.map memb)⟩] [rw1 [] (upInit u) (dgOf ways tail)] [] = some (resA parts ways tail u):=by
 have e:stepM [rw1 [] (upInit u) (dgOf ways tail)] ⟨false,.tup parts none,openK 1 (ways.map memb) (tail.map memb)⟩ = gd (s100 parts && s100 ((ways.map memb).map (sb 1))) (cond (decide (parts = (ways.map memb).map (sb 1)) && decide (none = (tail.map memb).map (sb 1))) (some ([[]],[rw1 [] (upInit u) (dgOf ways tail)])) (some (twG parts none ((ways.map memb).map (sb 1)) ((tail.map memb).map (sb 1)),[rw1 [] (upInit u) (dgOf ways tail)]))):=rfl
 rw [show (s100 parts && s100 ((ways.map memb).map (sb 1))) = true from ai (bl hl (by decide)) (bl (Nat.le_of_eq (lenss ways)) (Nat.le_trans hw (by decide))),tw_pairs] at e
 have hr:=run_pairs (ways:=ways) (tail:=tail) hp hl hu
 unfold resA
 cases he:(decide (parts = (ways.map memb).map (sb 1)) && decide (none = (tail.map memb).map (sb 1))) with
 | true=>
  rw [he] at e
  obtain ⟨rfl,rfl,rfl⟩:=same_nil hp he
  exact (one_ok e (Nat.zero_le _) (Nat.le_succ 1)).trans hr
 | false=>
  rw [he] at e
  cases hc:outK parts.length ways.length tail.isNone with
  | true=>
   rw [hc] at e
   exact ex_0 e (Nat.zero_le _) (Nat.le_succ 1)
  | false=>
   rw [hc] at e
   refine (one_ok e (by rw [List.length_map,pairs_len]; exact Nat.le_trans hl (by decide)) (Nat.le_succ 1)).trans ?_
   rw [List.append_nil,← List.map_reverse]
   exact hr
theorem sbtA (parts:List At) (ways:List Nat) (tail:Option Nat) (u:At) (hp:∀ p ∈ parts,p ∈ p8) (hl:parts.length ≤ 4) (hw:ways.length ≤ 2) (hu:u = .any∨u ∈ u4) :
 sbt (.tup parts none) (kindM ways tail u) = some (resA parts ways tail u):=by
 have hl1:Nat.ble parts.length 100 = true:=bl hl (by decide)
 have h1:leftC (.tup parts none) = some [.tup parts none]:=(congrArg (λc=>gd c (b1 (tcs parts [[]]) λR=>some (R.map λrow=>Ko.tup row none))) hl1).trans (congrArg (λo=>gd true (b1 o λR:List (List At)=>some (R.map λrow=>Ko.tup row none))) (tcs_p8 parts [] hp))
 have e:stepM [] ⟨false,.tup parts none,.all u (ways.map memb) (tail.map memb)⟩ = gd (s100 parts) (gd (s100 (ways.map memb) && (mbs (ways.map memb) (tail.map memb) && true)) (some ([[⟨false,.tup parts none,openK 1 (ways.map memb) (tail.map memb)⟩]],[openRow [] true u (ways.map memb) (tail.map memb)]))):=rfl
 rw [show s100 parts = true from hl1,show (s100 (ways.map memb) && (mbs (ways.map memb) (tail.map memb) && true)) = true from ai (bl (Nat.le_of_eq (List.length_map ..)) (Nat.le_trans hw (by decide))) (ai (mbs_memb ways tail) rfl)] at e
 have er:openRow [] true u (ways.map memb) (tail.map memb) = rw1 [] (upInit u) (dgOf ways tail):=congrArg (λl=>Row.mk true 1 [] l (dgOf ways tail)) (ite_cond (u = .any) [] [u])
 rw [er] at e
 have h2:runM concM 3900 (.tup parts none) (kindM ways tail u) = some (resA parts ways tail u):=(one_ok e (Nat.le_of_ble_eq_true rfl) (Nat.le_succ 1)).trans (key_run hp hl hw hu)
 have h3:sbt (.tup parts none) (kindM ways tail u) = b1 (leftC (.tup parts none)) λcs=>allM (λc=>runM concM 3900 c (kindM ways tail u)) cs:=rfl
 rw [h3,h1]
 refine (congrArg (λo=>b1 o λb=>cond b (some true) (some false)) h2).trans ?_
 cases resA parts ways tail u <;> rfl
noncomputable def under (x u:At):Bool:=decide (x = u) || (decide (u = .any) || chain x u)
noncomputable def tuU (p c:At):Bool:=(tuIt p).casesOn false λx=>under x c
noncomputable def sat (q:At×Nat) (c:At):Bool:=match q.2 with
 | 0=>under q.1 c
 | 1=>under q.1 .int
 | 2=>decide (arIt q.1 = some c)
 | 3=>under q.1 c || under q.1 .st
 | 4=>under q.1 c || decide (arIt q.1 = some c)
 | _=>under q.1 .int || tuU q.1 c
noncomputable def c11:List At:=[.any,.real,.int,.i64,.bo,.st,.ai,.an,.sa,.ti,.tb]
theorem tr1:∀ l ∈ x9,∀ c ∈ c11,∀ v ∈ u4,under l c = true→under c v = true→leU l v = true:=by decide +kernel
theorem ul9 {l v:At} (hl:l ∈ x9) (hv:v ∈ u4):under l v = leU l v:=tabL under leU (by kernel_rfl) hl hv
theorem only8:∀ l ∈ x9,∀ c ∈ p8,under l c = true→l = c:=by decide +kernel
theorem anti:∀ l ∈ u4,∀ c ∈ u4,leU l c = true→leU c l = true→l = c:=by decide +kernel
theorem under_refl (x:At):under x x = true:=by unfold under; rw [decide_eq_true rfl]; rfl
theorem x9_c11:∀ v ∈ x9,v ∈ c11:=by decide +kernel
structure Fit (c:At) (lo up:List At):Prop where
 lo9:∀ l ∈ lo,l ∈ x9
 up4:∀ u ∈ up,u ∈ u4
 lof:∀ l ∈ lo,under l c = true
 upf:∀ v ∈ up,under c v = true
theorem snoc_all {M:At→Prop} {l:List At} {x:At} (h:∀ a ∈ l,M a) (hx:M x):∀ a ∈ l ++ [x],M a:=λa ha=>(List.mem_append.mp ha).elim (h a) λha=>List.mem_singleton.mp ha ▸ hx
section
variable {c x p u:At} {lo up:List At} {s:LU} {q:At×Nat}
theorem fit_addL (hc:c ∈ c11) (h:Fit c lo up) (hx:x ∈ x9) (hxc:under x c = true):∃ lo',addL x lo up = some lo'∧Fit c lo' up:=by
 unfold addL
 cases hm:decide (x ∈ lo) with
 | true=>exact ⟨lo,rfl,h⟩
 | false=>
  rw [List.all_eq_true.mpr λv hv=>tr1 x hx c hc v (h.up4 v hv) hxc (h.upf v hv)]
  exact ⟨_,rfl,snoc_all h.lo9 hx,h.up4,snoc_all h.lof hxc,h.upf⟩
theorem fit_addU (hc:c ∈ u4) (h:Fit c lo up):∃ up',addU c lo up = some up'∧Fit c lo up':=by
 unfold addU
 cases hm:decide (c ∈ up) with
 | true=>exact ⟨up,rfl,h⟩
 | false=>
  rw [List.all_eq_true.mpr λl hl=>(ul9 (h.lo9 l hl) hc).symm.trans (h.lof l hl)]
  exact ⟨_,rfl,h.lo9,snoc_all h.up4 hc,h.lof,snoc_all h.upf (under_refl c)⟩
theorem fit_V (hc:c ∈ c11) (h:Fit c lo up) (hx:x ∈ x9) (hxc:under x c = true):∃ s ∈ aV x lo up,Fit c s.1 s.2:=by
 obtain ⟨lo',e,hf⟩:=fit_addL hc h hx hxc
 exact ⟨(lo',up),by unfold aV; rw [e]; exact .head _,hf⟩
theorem fit_A (hp:p ∈ p8) (h:Fit c lo up) (ha:arIt p = some c):∃ s ∈ aA p lo up,Fit c s.1 s.2:=by
 obtain ⟨h4,h9⟩:=arIt_u4 hp ha
 obtain ⟨up',e,hf⟩:=fit_addU h4 h
 obtain ⟨s,hs,hf'⟩:=fit_V (x9_c11 c h9) hf h9 (under_refl c)
 exact ⟨s,by unfold aA; rw [ha]; show s ∈ aA1 c lo up; unfold aA1; rw [e]; exact hs,hf'⟩
theorem fit_C (h:Fit c lo up) (hle:leU x u = true):∃ s ∈ aC u x lo up,Fit c s.1 s.2:=⟨(lo,up),by unfold aC; rw [hle]; exact .head _,h⟩
theorem in_l {A B:List LU} {M:LU→Prop} (h:∃ s ∈ A,M s):∃ s ∈ A ++ B,M s:=h.elim λs hs=>⟨s,List.mem_append_left _ hs.1,hs.2⟩
theorem in_r {A B:List LU} {M:LU→Prop} (h:∃ s ∈ B,M s):∃ s ∈ A ++ B,M s:=h.elim λs hs=>⟨s,List.mem_append_right _ hs.1,hs.2⟩
theorem or_is {a b:Bool} {G:Prop} (h:(a || b) = true) (h1:a = true→G) (h2:b = true→G):G:=(Bool.or_eq_true_iff.mp h).elim h1 h2
theorem u_int:At.int ∈ u4:=by decide
theorem u_st:At.st ∈ u4:=by decide
theorem fit_alts (hc:c ∈ c11) (w:Nat) (hp:p ∈ p8) (h:Fit c lo up):sat (p,w) c = true→∃ s ∈ alts w p lo up,Fit c s.1 s.2:=
 have hp9:=p8_x9 hp
 way6 (M:=λw=>sat (p,w) c = true→∃ s ∈ alts w p lo up,Fit c s.1 s.2) w
  (λhs=>fit_V hc h hp9 hs) (λhs=>fit_C h ((ul9 hp9 u_int).symm.trans hs)) (λhs=>fit_A hp h (of_decide_eq_true hs))
  (λhs=>or_is hs (λh1=>in_r (fit_V hc h hp9 h1)) λh1=>in_l (fit_C h ((ul9 hp9 u_st).symm.trans h1)))
  (λhs=>or_is hs (λh1=>in_r (fit_V hc h hp9 h1)) λh1=>in_l (fit_A hp h (of_decide_eq_true h1)))
  fun n hs=>or_is hs (λh1=>in_l (fit_C h ((ul9 hp9 u_int).symm.trans h1))) λh1=>in_r (by
   unfold tuU at h1
   unfold aT
   cases ht:tuIt p with
   | none=>rw [show (p,n + 5).1 = p from rfl,ht] at h1; exact nomatch h1
   | some x=>
       rw [show (p,n + 5).1 = p from rfl,ht] at h1
       exact fit_V hc h (p8_x9 (tuIt_p8 hp ht)) h1)
theorem sol_of_fit (dg:Bool) {c:At} (hc:c ∈ c11) (hd:dg = true→c ∈ p8):∀ (L:List (At×Nat)) (lo up:List At),(∀ q ∈ L,q.1 ∈ p8)→Fit c lo up→(∀ q ∈ L,sat q c = true)→sol dg L lo up = true
 | [],lo,up,_,h,_=>by
  cases dg with
  | false=>rfl
  | true=>
   have h8:=hd rfl
   cases lo with
   | nil=>rfl
   | cons k l=>
    have e (a:At) (ha:a ∈ k :: l):a = c:=only8 a (h.lo9 a ha) c h8 (h.lof a ha)
    exact List.all_eq_true.mpr λa ha=>decide_eq_true ((e a (.tail _ ha)).trans (e k (.head _)).symm)
 | q :: L,lo,up,hp,h,hs=>
  (fit_alts hc q.2 (hp q (.head _)) h (hs q (.head _))).elim λs hm=>List.any_eq_true.mpr ⟨s,hm.1,sol_of_fit dg hc hd L s.1 s.2 (λq' h'=>hp q' (.tail _ h')) hm.2 λq' h'=>hs q' (.tail _ h')⟩
noncomputable def Rq (q:At×Nat) (lo up:List At):Prop:=∀ c,(∀ l ∈ lo,under l c = true)→(arrT q.2 = true→∀ x ∈ lo,x ∈ up→x = c)→sat q c = true
noncomputable def Src (q:At×Nat) (l:At):Prop:=l = q.1∨tuIt q.1 = some l∨(arrT q.2 = true∧arIt q.1 = some l)
noncomputable def Con (lo up:List At):Prop:=∀ l ∈ lo,∀ v ∈ up,leU l v = true
structure Gain (L:List (At×Nat)) (lo up lo' up':List At):Prop where
 lsub:∀ x ∈ lo,x ∈ lo'
 usub:∀ x ∈ up,x ∈ up'
 con:Con lo up→Con lo' up'
 lnew:∀ l ∈ lo',l ∈ lo∨∃ q ∈ L,Src q l
 unew:∀ v ∈ up',v ∈ up∨(v ∈ lo'∧∃ q ∈ L,arrT q.2 = true∧arIt q.1 = some v)
 rq:∀ q ∈ L,Rq q lo' up'
theorem addL_gain {lo':List At} (e:addL x lo up = some lo'):(∀ y ∈ lo,y ∈ lo')∧x ∈ lo'∧(Con lo up→Con lo' up)∧∀ l ∈ lo',l ∈ lo∨l = x:=
 have h4:=(addL_len e).2
 addL_is e (λhm e=>e ▸ ⟨λ_ h=>h,hm,id,λ_ h=>.inl h⟩) λ_ ha e'=>⟨λy hy=>e' ▸ List.mem_append_left _ hy,e' ▸ List.mem_append_right _ (.head _),λh=>e' ▸ snoc_all h λv hv=>List.all_eq_true.mp ha v hv,h4⟩
theorem addU_gain {up':List At} (e:addU x lo up = some up'):(∀ y ∈ up,y ∈ up')∧x ∈ up'∧(Con lo up→Con lo up')∧∀ l ∈ up',l ∈ up∨l = x:=
 have h4:=(addU_len e).2
 addU_is e (λhm e=>e ▸ ⟨λ_ h=>h,hm,id,λ_ h=>.inl h⟩) λ_ ha e'=>⟨λy hy=>e' ▸ List.mem_append_left _ hy,e' ▸ List.mem_append_right _ (.head _),λh l hl=>e' ▸ snoc_all (h l hl) (List.all_eq_true.mp ha l hl),h4⟩
theorem one_q {M:At×Nat→Prop} (h:M q):∀ q' ∈ [q],M q':=λq' h'=>List.mem_singleton.mp h' ▸ h
theorem gain_V (hs:s ∈ aV x lo up) (hx:x = q.1∨tuIt q.1 = some x) (hr:∀ c,under x c = true→sat q c = true):Gain [q] lo up s.1 s.2:=
 aV_is hs λlo' e e'=>e' ▸ (have ⟨a1,a2,a3,a4⟩:=addL_gain e
 ⟨a1,λ_ h=>h,a3,λl hl=>(a4 l hl).imp id λ(h:l = x)=>⟨q,.head _,hx.elim (λh'=>.inl (h.trans h')) λh'=>.inr (.inl (h ▸ h'))⟩,λv hv=>.inl hv,one_q λc h1 _=>hr c (h1 x a2)⟩)
theorem gain_C (hs:s ∈ aC u q.1 lo up) (hr:leU q.1 u = true→∀ c,sat q c = true):Gain [q] lo up s.1 s.2:=
 aC_is hs λe e'=>e' ▸ ⟨λ_ h=>h,λ_ h=>h,id,λl hl=>.inl hl,λv hv=>.inl hv,one_q λc _ _=>hr e c⟩
theorem gain_A (hs:s ∈ aA q.1 lo up) (hw:arrT q.2 = true) (hr:∀ c,arIt q.1 = some c→sat q c = true):Gain [q] lo up s.1 s.2:=
 aA_is hs λx up' lo' e1 e2 e3 e'=>e' ▸ (have ⟨b1,b2,b3,b4⟩:=addU_gain e2
 have ⟨a1,a2,a3,a4⟩:=addL_gain e3
 ⟨a1,b1,λh=>a3 (b3 h),λl hl=>(a4 l hl).imp id λ(h:l = x)=>⟨q,.head _,.inr (.inr ⟨hw,h ▸ e1⟩)⟩,λv hv=>(b4 v hv).imp id λ(h:v = x)=>⟨h ▸ a2,q,.head _,hw,h ▸ e1⟩,one_q λc _ h2=>hr c (h2 hw x a2 b2 ▸ e1)⟩)
theorem o1 {a b:Bool} (h:a = true):(a || b) = true:=by rw [h]; rfl
theorem o2 {a b:Bool} (h:b = true):(a || b) = true:=by rw [h]; exact Bool.or_true a
theorem gain_alts (w:Nat) (hp:p ∈ p8):s ∈ alts w p lo up→Gain [(p,w)] lo up s.1 s.2:=
 have hp9:=p8_x9 hp
 have i (h:leU p .int = true):under p .int = true:=(ul9 hp9 u_int).trans h
 way6 (M:=λw=>s ∈ alts w p lo up→Gain [(p,w)] lo up s.1 s.2) w
  (λhs=>gain_V hs (.inl rfl) λ_ h=>h) (λhs=>gain_C (q:=(p,1)) hs λh _=>i h) (λhs=>gain_A (q:=(p,2)) hs rfl λ_ h=>decide_eq_true h)
  (λhs=>(List.mem_append.mp hs).elim (λh=>gain_C (q:=(p,3)) h λh _=>o2 ((ul9 hp9 u_st).trans h)) λh=>gain_V h (.inl rfl) λ_ h=>o1 h)
  (λhs=>(List.mem_append.mp hs).elim (λh=>gain_A (q:=(p,4)) h rfl λ_ h=>o2 (decide_eq_true h)) λh=>gain_V h (.inl rfl) λ_ h=>o1 h)
  fun n hs=>(List.mem_append.mp hs).elim (λh=>gain_C (q:=(p,n + 5)) h λh _=>o1 (i h)) λh=>aT_is h λx e h=>gain_V h (.inr e) λc h=>o2 (by unfold tuU; rw [show (p,n + 5).1 = p from rfl,e]; exact h)
theorem fin_of_sol (dg:Bool):∀ (L:List (At×Nat)) (lo up:List At),(∀ q ∈ L,q.1 ∈ p8)→sol dg L lo up = true→∃ lo' up',Gain L lo up lo' up'∧(!dg || allSame lo') = true
 | [],lo,up,_,h=>⟨lo,up,⟨λ_ h=>h,λ_ h=>h,id,λl hl=>.inl hl,λv hv=>.inl hv,λ_ h=>(nomatch h)⟩,h⟩
 | q :: L,lo,up,hp,h=>(List.any_eq_true.mp h).elim λs hs=>by
  have g:Gain [q] lo up s.1 s.2:=gain_alts q.2 (hp q (.head _)) hs.1
  obtain ⟨lo',up',f,ha⟩:=fin_of_sol dg L s.1 s.2 (λq h=>hp q (.tail _ h)) hs.2
  refine ⟨lo',up',⟨λx hx=>f.lsub x (g.lsub x hx),λx hx=>f.usub x (g.usub x hx),λh=>f.con (g.con h),λl hl=>?_,λv hv=>?_,λq' hq'=>?_⟩,ha⟩
  · exact (f.lnew l hl).elim (λh1=>(g.lnew l h1).imp id λ⟨q',h2,h3⟩=>⟨q,.head _,List.mem_singleton.mp h2 ▸ h3⟩) λ⟨q',h1,h2⟩=>.inr ⟨q',.tail _ h1,h2⟩
  · exact (f.unew v hv).elim (λh1=>(g.unew v h1).imp id λ⟨h0,q',h2,h3⟩=>⟨f.lsub v h0,q,.head _,List.mem_singleton.mp h2 ▸ h3⟩) λ⟨h0,q',h1,h2⟩=>.inr ⟨h0,q',.tail _ h1,h2⟩
  · exact (List.mem_cons.mp hq').elim (λe=>e ▸ λc h1 h2=>g.rq q (.head _) c (λl hl=>h1 l (f.lsub l hl)) λhw x hx hu=>h2 hw x (f.lsub x hx) (f.usub x hu)) (f.rq q')
end
noncomputable def choicesM (parts:List At) (dg har:Bool) (u:At):List At:=
 (cond dg ([.i64,.bo,.st] ++ parts.filterMap tuIt ++ parts) [u] ++ cond har (parts.filterMap arIt) []).filter λc=>under c u
noncomputable def dueM (parts:List At) (ways:List Nat) (tail:Option Nat) (u:At):Bool:=
 cond (outK parts.length ways.length tail.isNone) false ((choicesM parts (dgM ways tail) (oftenA ways tail) u).any λc=>(pairsOf parts ways tail).all λq=>sat q c)
theorem dg_same {w:List Nat} {t:Option Nat} (hw:w ∈ allWays) (ht:t ∈ allTails):dgM w t = dgOf w t:=tabL dgM dgOf (by kernel_rfl) hw ht
theorem up_lt:∀ u ∈ allUps,u = .any∨u ∈ u4:=by decide
theorem up_c11:∀ u ∈ allUps,u ∈ c11:=by decide
theorem i64_up {u:At} (hu:u ∈ allUps):under .i64 u = true:=tabX (under .i64) (λ_=>true) (by kernel_rfl) hu
theorem under_any (x:At):under x .any = true:=o2 rfl
section
variable {parts:List At} {ways:List Nat} {tail:Option Nat} {u c:At}
theorem pairs_p {q:At×Nat} (h:q ∈ pairsOf parts ways tail):q.1 ∈ parts:=pairs_is (M:=λq=>q.1 ∈ parts) (λi hi=>pick hi) q h
theorem pairs_arr {q:At×Nat} (h:q ∈ pairsOf parts ways tail):arrT q.2 = true→oftenA ways tail = true:=
 pairs_is (M:=λq=>arrT q.2 = true→oftenA ways tail = true) (λi hi=>by
  show arrT (if i < ways.length then ways.getD i 0 else tail.getD 0) = true→_
  intro ha
  by_cases h:i < ways.length
  · rw [if_pos h] at ha
    exact List.any_eq_true.mpr ⟨_,List.mem_append_left _ (pick h),ha⟩
  · rw [if_neg h] at ha
    cases tail with
    | none=>exact nomatch ha
    | some t=>exact List.any_eq_true.mpr ⟨t,List.mem_append_right _ (.head _),ha⟩) q h
theorem upi {v:At} (h:v ∈ upInit u):v = u∧u ≠ .any:=by
 unfold upInit at h
 cases e:decide (u = .any) with
 | true=>rw [e] at h; exact nomatch h
 | false=>rw [e] at h; exact ⟨List.mem_singleton.mp h,of_decide_eq_false e⟩
theorem upi_in (h:u ≠ .any):u ∈ upInit u:=by unfold upInit; rw [decide_eq_false h]; exact .head _
theorem chosen (dg:Bool) {har:Bool} (hc:under c u = true) (h:c ∈ cond dg ([.i64,.bo,.st] ++ parts.filterMap tuIt ++ parts) [u]∨(har = true∧c ∈ parts.filterMap arIt)):c ∈ choicesM parts dg har u:=
 List.mem_filter.mpr ⟨List.mem_append.mpr (h.imp id λh=>by rw [h.1]; exact h.2),hc⟩
theorem to_due (hp:∀ p ∈ parts,p ∈ p8) (hu:u ∈ allUps) (dg:Bool) (hdg:dg = true→oftenA ways tail = false) (h:sol dg (pairsOf parts ways tail).reverse [] (upInit u) = true) :
 ∃ c ∈ choicesM parts dg (oftenA ways tail) u,∀ q ∈ pairsOf parts ways tail,sat q c = true:=by
 have hpq:∀ q ∈ (pairsOf parts ways tail).reverse,q.1 ∈ p8:=λq hq=>hp _ (pairs_p (List.mem_reverse.mp hq))
 have huu:u ≠ .any→u ∈ u4:=(up_lt u hu).resolve_left
 obtain ⟨lo',up',f,ha⟩:=fin_of_sol _ _ _ _ hpq h
 have hcon:Con lo' up':=f.con λ_ h=>(nomatch h)
 have hsrc (l:At) (hl:l ∈ lo'):∃ q ∈ (pairsOf parts ways tail).reverse,Src q l:=(f.lnew l hl).resolve_left λh=>(nomatch h)
 have hl9:∀ l ∈ lo',l ∈ x9:=λl hl=>(hsrc l hl).elim λq hq=>hq.2.elim (λh1=>h1 ▸ p8_x9 (hpq q hq.1)) λh1=>h1.elim (λh1=>p8_x9 (tuIt_p8 (hpq q hq.1) h1)) λh1=>(arIt_u4 (hpq q hq.1) h1.2).2
 have hv4:∀ v ∈ up',v ∈ u4:=λv hv=>(f.unew v hv).elim (λh1=>(upi h1).1 ▸ huu (upi h1).2) λ⟨_,q,hq,_,h1⟩=>(arIt_u4 (hpq q hq) h1).1
 have hlu:∀ l ∈ lo',under l u = true:=λl hl=>by
  by_cases hne:u = .any
  · rw [hne]; exact under_any l
  · exact (ul9 (hl9 l hl) (huu hne)).trans (hcon l hl u (f.usub u (upi_in hne)))
 have all (c:At) (h1:∀ l ∈ lo',under l c = true) (h2:oftenA ways tail = true→∀ x ∈ lo',x ∈ up'→x = c):∀ q ∈ pairsOf parts ways tail,sat q c = true:=
  fun q hq=>f.rq q (List.mem_reverse.mpr hq) c h1 λhw=>h2 (pairs_arr hq hw)
 by_cases hnew:∃ v ∈ up',v ∉ upInit u
 · obtain ⟨v,hv,hvn⟩:=hnew
   obtain ⟨hvl,q,hq,hqa,hqv⟩:=(f.unew v hv).resolve_left hvn
   have hq':=List.mem_reverse.mp hq
   exact ⟨v,chosen dg (hlu v hvl) (.inr ⟨pairs_arr hq' hqa,List.mem_filterMap.mpr ⟨q.1,pairs_p hq',hqv⟩⟩),all v (λl hl=>(ul9 (hl9 l hl) (hv4 v hv)).trans (hcon l hl v hv)) λ_ x h1 h2=>anti x (hv4 x h2) v (hv4 v hv) (hcon x h1 v hv) (hcon v hvl x h2)⟩
 · have hup:∀ v ∈ up',v ∈ upInit u:=λv hv=>Classical.byContradiction λh=>hnew ⟨v,hv,h⟩
   cases dg with
   | false=>exact ⟨u,chosen false (under_refl u) (.inl (.head _)),all u hlu λ_ x _ h2=>(upi (hup x h2)).1⟩
   | true=>
    have hna:=hdg rfl
    have main (c:At) (hc:∀ l ∈ lo',under l c = true):=all c hc λh=>(nomatch hna.symm.trans h)
    cases lo' with
    | nil=>exact ⟨.i64,chosen true (i64_up hu) (.inl (.head _)),main .i64 λ_ h=>(nomatch h)⟩
    | cons k l=>
     have hk:k ∈ k :: l:=.head _
     have hsame:∀ a ∈ k :: l,a = k:=λa h1=>(List.mem_cons.mp h1).elim id λh2=>of_decide_eq_true (List.all_eq_true.mp ha a h2)
     refine ⟨k,chosen true (hlu k hk) (.inl ?_),main k λa h1=>hsame a h1 ▸ under_refl a⟩
     obtain ⟨q,hq,h1⟩:=hsrc k hk
     have hqp:=pairs_p (List.mem_reverse.mp hq)
     exact h1.elim (λh1=>List.mem_append_right _ (h1 ▸ hqp)) λh1=>h1.elim (λh1=>List.mem_append_left _ (List.mem_append_right _ (List.mem_filterMap.mpr ⟨q.1,hqp,h1⟩))) λh1=>(nomatch hna.symm.trans (pairs_arr (List.mem_reverse.mp hq) h1.1))
theorem b3_p8:∀ a ∈ [At.i64,.bo,.st],a ∈ p8:=by decide
theorem from_due (hp:∀ p ∈ parts,p ∈ p8) (hu:u ∈ allUps) (dg:Bool) (hdg:dg = true→oftenA ways tail = false) (hc:c ∈ choicesM parts dg (oftenA ways tail) u) (hall:∀ q ∈ pairsOf parts ways tail,sat q c = true) :
 sol dg (pairsOf parts ways tail).reverse [] (upInit u) = true:=by
 have h1:=List.mem_filter.mp hc
 have hcu:=h1.2
 have hm:=List.mem_append.mp h1.1
 have hc8:dg = true→c ∈ p8:=λhd=>by
  rw [hd,hdg hd] at hm
  exact hm.elim (λh=>(List.mem_append.mp h).elim (λh=>(List.mem_append.mp h).elim (b3_p8 c) λh=>(List.mem_filterMap.mp h).elim λp hp'=>tuIt_p8 (hp p hp'.1) hp'.2) (hp c)) λh=>(nomatch h)
 have hc11:c ∈ c11:=by
  refine hm.elim (λh=>?_) λh=>?_
  · cases dg with
    | true=>exact x9_c11 c (p8_x9 (hc8 rfl))
    | false=>exact List.mem_singleton.mp h ▸ up_c11 u hu
  · cases e:oftenA ways tail with
    | false=>rw [e] at h; exact nomatch h
    | true=>
     rw [e] at h
     exact (List.mem_filterMap.mp h).elim λp hp'=>x9_c11 c (arIt_u4 (hp p hp'.1) hp'.2).2
 exact sol_of_fit _ hc11 hc8 _ [] (upInit u) (λq hq=>hp _ (pairs_p (List.mem_reverse.mp hq))) ⟨λ_ h=>(nomatch h),λv hv=>(upi hv).1 ▸ (up_lt u hu).resolve_left (upi hv).2,λ_ h=>(nomatch h),λv hv=>(upi hv).1 ▸ hcu⟩ λq hq=>hall q (List.mem_reverse.mp hq)
theorem resA_due (parts:List At) (ways:List Nat) (tail:Option Nat) (u:At) (hp:∀ p ∈ parts,p ∈ p8) (hw:ways ∈ allWays) (ht:tail ∈ allTails) (hu:u ∈ allUps):resA parts ways tail u = dueM parts ways tail u:=by
 have hdg:dgOf ways tail = true→oftenA ways tail = false:=λh=>nt (an ((dg_same hw ht).trans h)).2
 unfold resA dueM
 rw [dg_same hw ht]
 cases outK parts.length ways.length tail.isNone with
 | true=>rfl
 | false=>
  exact Bool.eq_iff_iff.mpr ⟨λh=>(to_due hp hu _ hdg h).elim λc hc=>List.any_eq_true.mpr ⟨c,hc.1,List.all_eq_true.mpr hc.2⟩,λh=>(List.any_eq_true.mp h).elim λc hc=>from_due hp hu _ hdg hc.1 (List.all_eq_true.mp hc.2)⟩
end
noncomputable def wV (w:Nat):V:=.int w
noncomputable def wsV (ws:List Nat):List V:=ws.map wV
noncomputable def tailV (t:Option Nat):V:=.int (t.casesOn (-1) λt=>t)
noncomputable abbrev tuV (x:V):V:=.tup (tuL x)
theorem plain_ok' (x:Str) (d:Nat) (σ:H):evCall P 8000 (d + 20) 60 [.str x] σ = some (nmV x,σ):=by kernel_rfl
theorem listOf_ok (x:V) (d:Nat) (σ:H):evCall P 8000 (d + 20) 61 [x] σ = some (arV x,σ):=by kernel_rfl
noncomputable def memV (w:Nat) (x:V):List V:=match w with
 | 0=>[x]
 | 1=>[enc .int]
 | 2=>[arV x]
 | 3=>[x,enc .st]
 | 4=>[x,arV x]
 | _=>[enc .int,tuV x]
theorem mem6:∀ i,i < 6→i ∈ w6:=by decide
noncomputable def mp {α β:Type} (f:α→β):List α→List β
 | []=>[]
 | a :: l=>f a :: mp f l
theorem mp_is {α β:Type} (f:α→β):∀ l,mp f l = l.map f
 | []=>rfl
 | _ :: l=>congrArg _ (mp_is f l)
theorem tab6 {γ:Type} (f g:Nat→γ) (h:w6.map f = mp g w6) {i:Nat} (hi:i < 6):f i = g i:=tabX f g (h.trans (mp_is g w6)) (mem6 i hi)
theorem tabM {α β γ:Type} {l:List α} {m:List β} (f g:α→β→γ) (h:(l.map λa=>m.map (f a)) = mp (λa=>mp (g a) m) l) {a:α} {b:β} (ha:a ∈ l) (hb:b ∈ m):f a b = g a b:=by
 rw [mp_is] at h
 have h1:=List.map_inj_left.mp h a ha
 rw [mp_is] at h1
 exact List.map_inj_left.mp h1 b hb
theorem member_ok (w:Nat) (hw:w < 6) (x:V) (d:Nat) (σ:H):evCall P 8000 (d + 20) 62 [wV w,x] σ = some (.lst (memV w x),σ):=by
 exact tab6 (λw=>evCall P 8000 (d + 20) 62 [wV w,x] σ) (λw=>some (.lst (memV w x),σ)) (by kernel_rfl) hw
theorem union_ok (w:Nat) (hw:w < 6) (d:Nat) (σ:H):evCall P 8000 (d + 20) 2 [.lst (memV w (enc .v0))] σ = some (enc (memb w),σ):=by
 exact tab6 (λw=>evCall P 8000 (d + 20) 2 [.lst (memV w (enc .v0))] σ) (λw=>some (enc (memb w),σ)) (by kernel_rfl) hw
theorem isUnder_ok (a c:At) (ha:a ∈ c11) (hc:c ∈ c11) (d:Nat) (σ:H):evCall P 8000 (d + 20) 65 [enc a,enc c] σ = some (.bool (under a c),σ):=by
 exact tabL (λa c=>evCall P 8000 (d + 20) 65 [enc a,enc c] σ) (λa c=>some (.bool (under a c),σ)) (by kernel_rfl) ha hc
theorem isMem1 (p c:At) (hp:p ∈ p8) (hc:c ∈ c11) (d:Nat) (σ:H):evCall P 8000 (d + 21) 66 [enc p,enc c] σ = some (.bool (under p c),σ):=by
 exact tabL (λp c=>evCall P 8000 (d + 21) 66 [enc p,enc c] σ) (λp c=>some (.bool (under p c),σ)) (by kernel_rfl) hp hc
theorem isMem2 (p c:At) (hp:p ∈ p8) (hc:c ∈ c11) (d:Nat) (σ:H):evCall P 8000 (d + 21) 66 [enc p,arV (enc c)] σ = some (.bool (decide (arIt p = some c)),σ):=by
 exact tabL (λp c=>evCall P 8000 (d + 21) 66 [enc p,arV (enc c)] σ) (λp c=>some (.bool (decide (arIt p = some c)),σ)) (by kernel_rfl) hp hc
theorem isMem3 (p c:At) (hp:p ∈ p8) (hc:c ∈ c11) (d:Nat) (σ:H):evCall P 8000 (d + 21) 66 [enc p,tuV (enc c)] σ = some (.bool (tuU p c),σ):=by
 exact tabL (λp c=>evCall P 8000 (d + 21) 66 [enc p,tuV (enc c)] σ) (λp c=>some (.bool (tuU p c),σ)) (by kernel_rfl) hp hc
theorem lay_b {α:Type} (f:α→Bool):∀ z:List α,PyData.canLayAll0 (pys (z.map λa=>.bool (f a))) = true
 | []=>rfl
 | a :: z=>lay_b f z
theorem any_b {α:Type} (f:α→Bool) (b:Bool):∀ z:List α,((pys (z.map λa=>.bool (f a))).any λy=>PyData.eqv y (py (.bool b))) = z.any λa=>f a == b
 | []=>rfl
 | a :: z=>congr (congrArg or (eqv_bb (f a) b)) (any_b f b z)
theorem isIn_b {α:Type} (f:α→Bool) (b:Bool) (z:List α):isInOp (.bool b) (.lst (z.map λa=>.bool (f a))) = some (z.any λa=>f a == b):=by
 have h:okPair (.lst (z.map λa=>.bool (f a))) (.bool b) = true:=ai (lay_b f z) (ai rfl (Nat.ble_eq_true_of_le (Nat.le_trans (Nat.min_le_right _ _) (Nat.le_of_ble_eq_true rfl))))
 show gd _ (some _) = _
 rw [h,any_b]
 rfl
theorem tupleOfL_ok {l:List At} (r:V) (hl:l.length ≤ 100) (d:Nat) (σ:H):evCall P 8000 (d + 20) 1 [.lst (encs l),r] σ = some (.tup [.str "tuple",.tup (encs l),r],σ):=by exact rn (.c 0 (fV (tup_ok hl)) <| .e) (by kernel_rfl)
theorem tupleOfL1_ok (l:List At) (hl:l.length ≤ 100) (d:Nat) (σ:H):evCall P 8000 (d + 20) 1 [.lst (encs l)] σ = some (encO (.tup l none),σ):=by exact rn (.c 0 (fV (tup_ok hl)) <| .e) (by kernel_rfl)
theorem kind_ok (ways:List Nat) (tail:Option Nat) (u:At) (hw:∀ w ∈ ways,w < 6) (hl:ways.length ≤ 100) (ht:∀ t,tail = some t→t < 6) (d:Nat) (σ:H) :
 evCall P 8000 (d + 21) 63 [.lst (wsV ways),tailV tail,enc u] σ = some (encO (kindM ways tail u),σ):=by
 have hto:=λr=>tupleOfL_ok (l:=ways.map memb) r (by rw [List.length_map]; exact hl) d σ
 have hc (T:V):evE (ev (d + 20)) c_kind (setV (setV (rho0 [.lst (wsV ways),tailV tail,enc u] 6) 3 (enc .v0)) 4 T) σ = some (.lst (encs (ways.map memb)),σ):=
  (comp1 (l:=ways) wV (λw=>enc (memb w)) (by kernel_rfl) (by kernel_rfl) (Nat.le_trans hl (by decide)) λw hm=>by exact rnE (.c 0 (fC (member_ok w (hw w hm) (enc At.v0) d σ)) <| .c 0 (fC (union_ok w (hw w hm) d σ)) <| .e) (by kernel_rfl)).trans (congrArg (λl=>some (V.lst l,σ)) (by unfold encs; rw [List.map_map]; rfl))
 cases tail with
 | none=>exact rn (.c 1 (fC (hc V.none)) <| .c 0 (fC (hto V.none)) <| .e) (by kernel_rfl)
 | some t=>
  have hlt:decide ((t:Int) < 0) = false:=decide_eq_false (Int.not_lt.mpr (Int.natCast_nonneg t))
  exact rn (.c 0 (fT hlt) <| .c 0 (fC (member_ok t (ht t rfl) (enc At.v0) d σ)) <| .c 0 (fC (union_ok t (ht t rfl) d σ)) <| .c 0 (fC (hc (enc (memb t)))) <| .c 0 (fC (hto (enc (memb t)))) <| .e) (by kernel_rfl)
theorem often_ok (ways:List Nat) (tail:Option Nat) (hw:ways ∈ allWays) (ht:tail ∈ allTails) (d:Nat) (σ:H) :
 evCall P 8000 (d + 1) 67 [.lst (wsV ways),tailV tail] σ = some (.tup [.int (oftenN ways tail:Nat),.bool (oftenA ways tail)],σ):=by
 exact tabM (λways tail=>evCall P 8000 (d + 1) 67 [.lst (wsV ways),tailV tail] σ) (λways tail=>some (.tup [.int (oftenN ways tail:Nat),.bool (oftenA ways tail)],σ)) (by kernel_rfl) hw ht
noncomputable def cBody (C:Orc) (elt:E) (ifs:List E) (ρ:Rho) (σ:H):Option (Option V×H):=b2 (evIfs C ifs ρ σ) λb σ=>cond b (b2 (evE C elt ρ σ) λv σ=>some (some v,σ)) (some (none,σ))
theorem body_ok {C:Orc} {elt:E} {ifs:List E} {ρ:Rho} {σ:H} {o:Option V} {acc:List V} (h:cBody C elt ifs ρ σ = some (o,σ)) (ha:acc.length + o.toList.length ≤ 4000) :
 (b2 (evIfs C ifs ρ σ) λb σ=>cond b (evG C (λρ σ=>evE C elt ρ σ) [] ρ σ acc) (some (acc,σ))) = some (acc ++ o.toList,σ):=by
 refine b2_is (o:=evIfs C ifs ρ σ) (k:=λb σ=>cond b (b2 (evE C elt ρ σ) λv σ=>some (some v,σ)) (some (none,σ))) h λb σ1 e h=>?_
 rw [e]
 cases b with
 | true=>
  refine b2_is (o:=evE C elt ρ σ1) (k:=λv σ=>some (some v,σ)) h λv σ2 e2 h=>?_
  refine (congrArg (λo=>b2 o λx σ=>gd (shortL acc) (some (acc ++ [x],σ))) e2).trans ?_
  exact pr_is (M:=λo σ=>acc.length + o.toList.length ≤ 4000→gd (shortL acc) (some (acc ++ [v],σ2)) = some (acc ++ o.toList,σ)) h (λha=>congrArg (λc=>gd c (some (acc ++ [v],σ2))) (s4 (Nat.le_trans (Nat.le_add_right _ _) ha))) ha
 | false=>exact pr_is (M:=λo σ=>some (acc,σ1) = some (acc ++ o.toList,σ)) h (congrArg (λl=>some (l,σ1)) (List.append_nil acc).symm)
theorem flat_len {α:Type} (g:α→Option V):∀ l:List α,(l.flatMap λx=>(g x).toList).length ≤ l.length
 | []=>Nat.le_refl 0
 | x :: l=>by
  rw [List.flatMap_cons,List.length_append,Nat.add_comm]
  exact Nat.add_le_add (flat_len g l) (by cases g x <;> exact Nat.le_of_ble_eq_true rfl)
theorem compF {α:Type} {C:Orc} {elt:E} {i:Nat} {it:It} {ifs:List E} {ρ:Rho} {σ:H} (e:α→V) (g:α→Option V) {l:List α} (hF:freeGs (noOwn ρ) [.mk (.one i) it ifs] = true) (hI:evI C it (noOwn ρ) σ = some (l.map e,σ)) (hl:l.length ≤ 4000)
 (hb:∀ x ∈ l,cBody C elt ifs (setV (noOwn ρ) i (e x)) σ = some (g x,σ)):evE C (.comp elt [.mk (.one i) it ifs]) ρ σ = some (.lst (l.flatMap λx=>(g x).toList),σ):=by
 have hT:freeT (noOwn ρ) (.one i) = true:=(Bool.and_eq_true_iff.mp hF).1
 have h:=loopL_flat (f:=λx σ acc=>b1 (bindT (.one i) (noOwn ρ) x) λρ'=>b2 (evIfs C ifs ρ' σ) λb σ=>cond b (evG C (λρ σ=>evE C elt ρ σ) [] ρ' σ acc) (some (acc,σ))) (e:=e) (g:=λx=>(g x).toList) (σ:=σ) l [] (λx hx acc ha=>body_ok (hb x hx) ha) (by rw [List.length_nil,Nat.zero_add]; exact Nat.le_trans (flat_len g l) hl)
 show gd (freeGs (noOwn ρ) [.mk (.one i) it ifs]) (b2 (gd (freeT (noOwn ρ) (.one i)) (b2 (evI C it (noOwn ρ) σ) λl σ=>loopL _ l σ [])) _) = _
 rw [hF,hT,hI]
 exact congrArg (λo=>b2 o λl σ=>some (V.lst l,σ)) h
theorem flat_fm (f:At→Option At):∀ l:List At,(l.flatMap λp=>((f p).map enc).toList) = encs (l.filterMap f)
 | []=>rfl
 | a :: l=>by
  rw [List.flatMap_cons,flat_fm f l,List.filterMap_cons]
  cases f a <;> rfl
theorem flat_flt (f:At→Bool):∀ l:List At,(l.flatMap λp=>(cond (f p) (some (enc p)) none).toList) = encs (l.filter f)
 | []=>rfl
 | a :: l=>by
  rw [List.flatMap_cons,flat_flt f l,List.filter_cons]
  cases f a <;> rfl
theorem add_e {l m:List At} (h:l.length ≤ 200) (h':m.length ≤ 200):binOp .add (.lst (encs l)) (.lst (encs m)) = some (.lst (encs (l ++ m))):=
 (add_vs (Nat.le_trans (Nat.le_of_eq (len_encs l)) h) (Nat.le_trans (Nat.le_of_eq (len_encs m)) h')).trans (congrArg (λl=>some (V.lst l)) (List.map_append (f:=enc) (l₁:=l) (l₂:=m)).symm)
noncomputable def chF (n:Int) (b:Bool) (pt ws tl u x:V):Rho:=[some (.v pt),some (.v ws),some (.v tl),some (.v u),some (.v (.int n)),some (.v (.bool b)),some (.v x),none,none,none]
section
variable {parts:List At} (hp:∀ p ∈ parts,p ∈ p8) (hl:parts.length ≤ 50)
include hp hl
theorem l4:parts.length ≤ 4000:=Nat.le_trans hl (by decide)
theorem ch1_ok (C:Orc) (σ:H) (n:Int) (b:Bool) (ws tl u x:V):evE C c_ch1 (chF n b (.lst (encs parts)) ws tl u x) σ = some (.lst (encs (parts.filterMap tuIt)),σ):=
 (compF (l:=parts) enc (λp=>(tuIt p).map enc) (by kernel_rfl) (by kernel_rfl) (Nat.le_trans hl (by decide)) λp hm=>tabX (λp=>cBody C _ _ (setV (noOwn (chF n b (.lst (encs parts)) ws tl u x)) 7 (enc p)) σ) (λp=>some ((tuIt p).map enc,σ)) (by kernel_rfl) (hp p hm)).trans (congrArg (λl=>some (V.lst l,σ)) (flat_fm tuIt parts))
noncomputable def arB (b:Bool) (p:At):Option At:=cond b (arIt p) none
theorem ch2_ok (C:Orc) (σ:H) (n:Int) (b:Bool) (ws tl u x:V):evE C c_ch2 (chF n b (.lst (encs parts)) ws tl u x) σ = some (.lst (encs (parts.filterMap (arB b))),σ):=by
 refine (compF (l:=parts) enc (λp=>(arB b p).map enc) (by kernel_rfl) (by kernel_rfl) (Nat.le_trans hl (by decide)) λp hm=>?_).trans (congrArg (λl=>some (V.lst l,σ)) (flat_fm (arB b) parts))
 cases b with
 | true=>exact tabX (λp=>cBody C _ _ (setV (noOwn (chF n true (.lst (encs parts)) ws tl u x)) 8 (enc p)) σ) (λp=>some ((arB true p).map enc,σ)) (by kernel_rfl) (hp p hm)
 | false=>exact tabX (λp=>cBody C _ _ (setV (noOwn (chF n false (.lst (encs parts)) ws tl u x)) 8 (enc p)) σ) (λp=>some ((arB false p).map enc,σ)) (by kernel_rfl) (hp p hm)
end
theorem ch3_ok {found:List At} (hf:∀ c ∈ found,c ∈ c11) (hl:found.length ≤ 200) {u:At} (hu:u ∈ c11) (d:Nat) (σ:H) (n:Int) (b:Bool) (pt ws tl:V):evE (ev (d + 20)) c_ch3 (chF n b pt ws tl (enc u) (.lst (encs found))) σ = some (.lst (encs (found.filter λc=>under c u)),σ):=
 (compF (l:=found) enc (λc=>cond (under c u) (some (enc c)) none) (by kernel_rfl) (by kernel_rfl) (Nat.le_trans hl (by decide)) λc hm=>tabL (λc u=>cBody (ev (d + 20)) _ _ (setV (noOwn (chF n b pt ws tl (enc u) (.lst (encs found)))) 9 (enc c)) σ) (λc u=>some (cond (under c u) (some (enc c)) none,σ)) (by kernel_rfl) (hf c hm) hu).trans (congrArg (λl=>some (V.lst l,σ)) (flat_flt (λc=>under c u) found))
theorem fm_arB (b:Bool) (parts:List At):parts.filterMap (arB b) = cond b (parts.filterMap arIt) []:=by
 cases b with
 | true=>rfl
 | false=>exact List.filterMap_eq_nil_iff.mpr λ_ _=>rfl
noncomputable def foundM (parts:List At) (dg:Bool) (u:At):List At:=cond dg ([.i64,.bo,.st] ++ parts.filterMap tuIt ++ parts) [u]
theorem found_len {parts:List At} (hl:parts.length ≤ 50) (dg:Bool) (u:At):(foundM parts dg u).length ≤ 103:=by
 have:=List.length_filterMap_le tuIt parts
 cases dg with
 | true=>show ([At.i64,.bo,.st] ++ parts.filterMap tuIt ++ parts).length ≤ 103; rw [List.length_append,List.length_append]; show 3 + _ + _ ≤ 103; omega
 | false=>exact Nat.le_of_ble_eq_true rfl
theorem found_c11 {parts:List At} (hp:∀ p ∈ parts,p ∈ p8) {u:At} (hu:u ∈ allUps) (dg har:Bool):∀ c ∈ foundM parts dg u ++ cond har (parts.filterMap arIt) [],c ∈ c11:=λc hc=>(List.mem_append.mp hc).elim (λh=>by
 cases dg with
 | true=>exact (List.mem_append.mp h).elim (λh=>(List.mem_append.mp h).elim (λh=>x9_c11 c (p8_x9 (b3_p8 c h))) λh=>(List.mem_filterMap.mp h).elim λp h=>x9_c11 c (p8_x9 (tuIt_p8 (hp p h.1) h.2))) λh=>x9_c11 c (p8_x9 (hp c h))
 | false=>exact List.mem_singleton.mp h ▸ up_c11 u hu) λh=>by
 cases har with
 | true=>exact (List.mem_filterMap.mp h).elim λp h=>x9_c11 c (arIt_u4 (hp p h.1) h.2).2
 | false=>exact nomatch h
theorem choices_ok (parts:List At) (ways:List Nat) (tail:Option Nat) (u:At) (hp:∀ p ∈ parts,p ∈ p8) (hl:parts.length ≤ 50) (hw:ways ∈ allWays) (ht:tail ∈ allTails) (hu:u ∈ allUps) (d:Nat) (σ:H) :
 evCall P 8000 (d + 21) 68 [.lst (encs parts),.lst (wsV ways),tailV tail,enc u] σ = some (.lst (encs (choicesM parts (dgM ways tail) (oftenA ways tail) u)),σ):=by
 have h0:=often_ok ways tail hw ht (d + 19) σ
 have c1:=ch1_ok hp hl (ev (d + 20)) σ (oftenN ways tail:Nat) (oftenA ways tail) (.lst (wsV ways)) (tailV tail) (enc u) (.lst (encs [u]))
 have c2:=λdg=>ch2_ok hp hl (ev (d + 20)) σ (oftenN ways tail:Nat) (oftenA ways tail) (.lst (wsV ways)) (tailV tail) (enc u) (.lst (encs (foundM parts dg u)))
 have hla:(cond (oftenA ways tail) (parts.filterMap arIt) []).length ≤ 50:=by
  have:=List.length_filterMap_le arIt parts
  cases oftenA ways tail with
  | true=>exact Nat.le_trans this hl
  | false=>exact Nat.zero_le _
 rw [fm_arB] at c2
 have c3:=λdg=>ch3_ok (found_c11 hp hu dg (oftenA ways tail)) (by rw [List.length_append]; have:=found_len hl dg u; omega) (up_c11 u hu) d σ (oftenN ways tail:Nat) (oftenA ways tail) (.lst (encs parts)) (.lst (wsV ways)) (tailV tail)
 have a3:=λdg=>add_e (Nat.le_trans (found_len hl dg u) (by decide)) (Nat.le_trans hla (by decide))
 have hlt:=List.length_filterMap_le tuIt parts
 have a1:binOp .add (.lst [nmV "Int64",nmV "Bool",nmV "String"]) (.lst (encs (parts.filterMap tuIt))) = some (.lst (encs ([.i64,.bo,.st] ++ parts.filterMap tuIt))):=add_e (l:=[.i64,.bo,.st]) (Nat.le_of_ble_eq_true rfl) (by omega)
 have a2:binOp .add (.lst (encs ([.i64,.bo,.st] ++ parts.filterMap tuIt))) (.lst (encs parts)) = some (.lst (encs (foundM parts true u))):=add_e (by rw [List.length_append]; show 3 + _ ≤ 200; omega) (by omega)
 have hN:decide ((1:Int) < (oftenN ways tail:Nat)) = Nat.ble 2 (oftenN ways tail):=by rw [Bool.eq_iff_iff,decide_eq_true_iff,Nat.ble_eq]; omega
 unfold dgM
 cases hb:Nat.ble 2 (oftenN ways tail) with
 | false=>
  rw [hb] at hN
  have c2:=c2 false
  have c3:=c3 false
  have a3:=a3 false
  exact rn (.c 0 (fC h0) <| .c 0 (fT hN) <| .c 1 (fC c2) <| .c 0 (fV a3) <| .c 0 (fC c3) <| .e) (by kernel_rfl)
 | true=>
  rw [hb] at hN
  cases hA:oftenA ways tail with
  | true=>
   have c2:=c2 false
   have c3:=c3 false
   have a3:=a3 false
   rw [hA] at h0 c2 c3 a3
   exact rn (.c 0 (fC h0) <| .c 0 (fT hN) <| .c 1 (fC c2) <| .c 0 (fV a3) <| .c 0 (fC c3) <| .e) (by kernel_rfl)
  | false=>
   have c2:=c2 true
   have c3:=c3 true
   have a3:=a3 true
   rw [hA] at h0 c1 c2 c3 a3
   exact rn (.c 0 (fC h0) <| .c 0 (fT hN) <| .c 4 (fC c1) <| .c 0 (fV a1) <| .c 0 (fV a2) <| .c 0 (fC c2) <| .c 0 (fV a3) <| .c 0 (fC c3) <| .e) (by kernel_rfl)
@[elab_as_elim] theorem w6_is {M:Nat→Prop} {w:Nat} (hw:w < 6) (h0:M 0) (h1:M 1) (h2:M 2) (h3:M 3) (h4:M 4) (h5:M 5):M w:=
 way6 (M:=λw=>w < 6→M w) w (λ_=>h0) (λ_=>h1) (λ_=>h2) (λ_=>h3) (λ_=>h4) (λn=>n.casesOn (motive:=λn=>n + 5 < 6→M (n + 5)) (λ_=>h5) λn h=>absurd h (Nat.not_lt_of_le (Nat.le_add_left 6 n))) hw
noncomputable def memB (w:Nat) (p c:At):List Bool:=match w with
 | 0=>[under p c]
 | 1=>[under p .int]
 | 2=>[decide (arIt p = some c)]
 | 3=>[under p c,under p .st]
 | 4=>[under p c,decide (arIt p = some c)]
 | _=>[under p .int,tuU p c]
theorem m1 (a:Bool):([a].any λb=>b == true) = a:=by cases a <;> rfl
theorem m2 (a b:Bool):([a,b].any λb=>b == true) = (a || b):=by cases a <;> cases b <;> rfl
theorem memB_sat (w:Nat) (p c:At):((memB w p c).any λb=>b == true) = sat (p,w) c:=
 way6 (M:=λw=>((memB w p c).any λb=>b == true) = sat (p,w) c) w (m1 _) (m1 _) (m1 _) (m2 _ _) (m2 _ _) λ_=>m2 _ _
noncomputable def duF (pt ws tl u rows:V) (x y:Option Slot):Rho:=[some (.v pt),some (.v ws),some (.v tl),some (.v u),some (.v rows),x,y,none,none]
noncomputable def duI (pt ws tl u rows c:V) (y:Option Slot) (i:Int):Rho:=[some (.v pt),some (.v ws),some (.v tl),some (.v u),some (.v rows),some (.v c),y,some (.v (.int i)),none]
theorem du_in {w:Nat} (hw:w < 6) {p c:At} (hp:p ∈ p8) (hc:c ∈ c11) (d:Nat) (σ:H) (pt rows:List V) (ws tl u:V) (y:Option Slot) (i:Int) (h1:idxOp (.lst pt) (.int i) = some (enc p)) :
 idxOp (.lst rows) (.int i) = some (wV w)→evE (ev (d + 21)) (.cmp .isIn (.cst (.bool true)) c_due2) (duI (.lst pt) ws tl u (.lst rows) (enc c) y i) σ = some (.bool (sat (p,w) c),σ):=by
 have a1:=isMem1 p c hp hc d σ
 have a2:=isMem2 p c hp hc d σ
 have a3:=isMem3 p c hp hc d σ
 have ai:=isMem1 p .int hp (by decide) d σ
 have as:=isMem1 p .st hp (by decide) d σ
 have hin:=λw=>(isIn_b (λb:Bool=>b) true (memB w p c)).trans (congrArg some (memB_sat w p c))
 have mem:=λw hw=>member_ok w hw (enc c) (d + 1) σ
 refine w6_is (M:=λw=>idxOp (.lst rows) (.int i) = some (wV w)→evE (ev (d + 21)) (.cmp .isIn (.cst (.bool true)) c_due2) (duI (.lst pt) ws tl u (.lst rows) (enc c) y i) σ = some (.bool (sat (p,w) c),σ)) hw ?_ ?_ ?_ ?_ ?_ ?_
 · intro h2
   have hin:=hin 0
   have mem:=mem 0 (by decide)
   exact rnE (.c 1 (fV h2) <| .c 0 (fC mem) <| .c 1 (fV h1) <| .c 0 (fC a1) <| .c 0 (fB hin) <| .e) (by kernel_rfl)
 · intro h2
   have hin:=hin 1
   have mem:=mem 1 (by decide)
   exact rnE (.c 1 (fV h2) <| .c 0 (fC mem) <| .c 1 (fV h1) <| .c 0 (fC ai) <| .c 0 (fB hin) <| .e) (by kernel_rfl)
 · intro h2
   have hin:=hin 2
   have mem:=mem 2 (by decide)
   exact rnE (.c 1 (fV h2) <| .c 0 (fC mem) <| .c 1 (fV h1) <| .c 0 (fC a2) <| .c 0 (fB hin) <| .e) (by kernel_rfl)
 · intro h2
   have hin:=hin 3
   have mem:=mem 3 (by decide)
   exact rnE (.c 1 (fV h2) <| .c 0 (fC mem) <| .c 1 (fV h1) <| .c 0 (fC a1) <| .c 1 (fV h1) <| .c 0 (fC as) <| .c 0 (fB hin) <| .e) (by kernel_rfl)
 · intro h2
   have hin:=hin 4
   have mem:=mem 4 (by decide)
   exact rnE (.c 1 (fV h2) <| .c 0 (fC mem) <| .c 1 (fV h1) <| .c 0 (fC a1) <| .c 1 (fV h1) <| .c 0 (fC a2) <| .c 0 (fB hin) <| .e) (by kernel_rfl)
 · intro h2
   have hin:=hin 5
   have mem:=mem 5 (by decide)
   exact rnE (.c 1 (fV h2) <| .c 0 (fC mem) <| .c 1 (fV h1) <| .c 0 (fC ai) <| .c 1 (fV h1) <| .c 0 (fC a3) <| .c 0 (fB hin) <| .e) (by kernel_rfl)
noncomputable def okAll (parts:List At) (wy:Nat→Nat) (c:At):Bool:=(List.range parts.length).all λi=>sat (parts.getD i .any,wy i) c
theorem ok_not (parts:List At) (wy:Nat→Nat) (c:At):isInOp (.bool false) (.lst ((List.range parts.length).map λi=>.bool (sat (parts.getD i .any,wy i) c))) = some (!okAll parts wy c):=
 (isIn_b (λi=>sat (parts.getD i .any,wy i) c) false (List.range parts.length)).trans (congrArg some (by
  unfold okAll
  rw [List.not_all_eq_any_not]
  exact congrArg (List.any _) (funext λi=>by cases sat (parts.getD i .any,wy i) c <;> rfl)))
section
variable {parts:List At} {rowsL:List V} {wy:Nat→Nat} (hs:rowsL.length = parts.length) (hl:parts.length ≤ 50) (hp:∀ p ∈ parts,p ∈ p8) (hrow:∀ i,i < parts.length→idxOp (.lst rowsL) (.int i) = some (wV (wy i))∧wy i < 6) (ws tl u:V) (d:Nat) (σ:H)
include hs hl hp hrow
theorem due1_ok {c:At} (hc:c ∈ c11) (y:Option Slot):evE (ev (d + 21)) c_due1 (duF (.lst (encs parts)) ws tl u (.lst rowsL) (some (.v (enc c))) y) σ = some (.lst ((List.range parts.length).map λi=>.bool (sat (parts.getD i .any,wy i) c)),σ):=by
 have hlen:biOp .len [.lst rowsL] = some (.int parts.length):=len_v hs (Nat.le_trans hl (by decide))
 have hr:=in_range (Nat.le_trans hl (by decide):parts.length ≤ 100)
 refine comp1 (l:=List.range parts.length) (λi:Nat=>.int (i:Int)) (λi=>.bool (sat (parts.getD i .any,wy i) c)) (by kernel_rfl) (by exact rnI (.c 0 (fV hlen) <| .c 0 (fT hr) <| .e) (by kernel_rfl)) (by rw [List.length_range]; exact Nat.le_trans hl (by decide)) λi hi=>?_
 have hi:=List.mem_range.mp hi
 cases y with
 | none=>exact du_in (hrow i hi).2 (hp _ (pick hi)) hc d σ (encs parts) rowsL ws tl u none i (idx_at parts i hi (Nat.le_trans hl (by decide))) (hrow i hi).1
 | some s=>cases s with
  | v v=>exact du_in (hrow i hi).2 (hp _ (pick hi)) hc d σ (encs parts) rowsL ws tl u (some (.v v)) i (idx_at parts i hi (Nat.le_trans hl (by decide))) (hrow i hi).1
  | own v=>exact du_in (hrow i hi).2 (hp _ (pick hi)) hc d σ (encs parts) rowsL ws tl u none i (idx_at parts i hi (Nat.le_trans hl (by decide))) (hrow i hi).1
noncomputable def dueR (b:Bool) (ρ:Rho) (σ:H):R3:=cond b (some (.ret (.bool true),ρ,σ)) (some (.next,ρ,σ))
theorem du_loop:∀ (cs:List At) (x y:Option Slot),(∀ c ∈ cs,c ∈ c11)→∃ x' y',loopS (lpS (ev (d + 21)) 5 b_due) (encs cs) (duF (.lst (encs parts)) ws tl u (.lst rowsL) x y) σ = dueR (cs.any (okAll parts wy)) (duF (.lst (encs parts)) ws tl u (.lst rowsL) x' y') σ
 | [],x,y,_=>⟨x,y,rfl⟩
 | c :: cs,x,y,hcs=>by
  have h1:=due1_ok hs hl hp hrow ws tl u d σ (hcs c (.head _)) y
  have h2:=ok_not parts wy c
  obtain ⟨x',y',ih⟩:=du_loop cs (some (.v (enc c))) (some (.v (.lst ((List.range parts.length).map λi=>.bool (sat (parts.getD i .any,wy i) c))))) λc' h'=>hcs c' (.tail _ h')
  have e:(c :: cs).any (okAll parts wy) = (okAll parts wy c || cs.any (okAll parts wy)):=rfl
  rw [e]
  cases ho:okAll parts wy c with
  | true=>
   rw [ho] at h2
   have g:evSs (ev (d + 21)) 8000 b_due (duF (.lst (encs parts)) ws tl u (.lst rowsL) (some (.v (enc c))) y) σ = some (.ret (.bool true),duF (.lst (encs parts)) ws tl u (.lst rowsL) (some (.v (enc c))) (some (.v (.lst ((List.range parts.length).map λi=>.bool (sat (parts.getD i .any,wy i) c))))),σ):=by exact rnSs (.c 0 (fC h1) <| .c 0 (fB h2) <| .e) (by kernel_rfl)
   exact ⟨_,_,lp_ret g⟩
  | false=>
   rw [ho] at h2
   have g:evSs (ev (d + 21)) 8000 b_due (duF (.lst (encs parts)) ws tl u (.lst rowsL) (some (.v (enc c))) y) σ = some (.next,duF (.lst (encs parts)) ws tl u (.lst rowsL) (some (.v (enc c))) (some (.v (.lst ((List.range parts.length).map λi=>.bool (sat (parts.getD i .any,wy i) c))))),σ):=by exact rnSs (.c 0 (fC h1) <| .c 0 (fB h2) <| .e) (by kernel_rfl)
   exact ⟨x',y',lp_next g ih⟩
end
theorem rep1 {α:Type} (x:α):∀ k,(List.replicate k [x]).flatten = List.replicate k x
 | 0=>rfl
 | k + 1=>congrArg (x :: ·) (rep1 x k)
theorem mulL (x:V) (k:Int):binOp .mul (.lst [x]) (.int k) = gd (small k && Nat.ble (1 * k.toNat) 4000) (some (.lst (List.replicate k.toNat [x]).flatten)):=rfl
theorem mulRep (x:V) {a b:Nat} (h:b ≤ a) (ha:a ≤ 100):binOp .mul (.lst [x]) (.int ((a:Int) - b)) = some (.lst (List.replicate (a - b) x)):=by
 rw [← Int.ofNat_sub h,mulL,small_n (Nat.le_trans (Nat.sub_le a b) (l2 ha)),Int.toNat_natCast,rep1,bl (Nat.le_of_eq (Nat.one_mul _)) (Nat.le_trans (Nat.sub_le a b) (Nat.le_trans ha (by decide)))]
 rfl
noncomputable def wayAt (ways:List Nat) (tail:Option Nat) (i:Nat):Nat:=if i < ways.length then ways.getD i 0 else tail.getD 0
theorem all_w6:∀ ways ∈ allWays,∀ w ∈ ways,w < 6:=by decide +kernel
theorem all_len:∀ ways ∈ allWays,ways.length ≤ 2:=by decide +kernel
theorem all_t6:∀ tail ∈ allTails,tail.getD 0 < 6:=by decide +kernel
section
variable {parts:List At} {ways:List Nat} {tail:Option Nat} {u:At} (hp:∀ p ∈ parts,p ∈ p8) (hl:parts.length ≤ 50) (hw:ways ∈ allWays) (ht:tail ∈ allTails) (hu:u ∈ allUps)
include hp hl hw ht hu
theorem rows_ok (hc:outK parts.length ways.length tail.isNone = false) {i:Nat} (hi:i < parts.length):idxOp (.lst (wsV ways ++ List.replicate (parts.length - ways.length) (tailV tail))) (.int i) = some (wV (wayAt ways tail i))∧wayAt ways tail i < 6:=by
 have hwl:(wsV ways).length = ways.length:=List.length_map ..
 rw [idx_l]
 unfold wayAt
 by_cases h:i < ways.length
 · rw [if_pos h]
   refine ⟨place_n (Nat.le_trans (Nat.le_of_lt hi) (Nat.le_trans hl (by decide))) ?_,all_w6 ways hw _ (pick h)⟩
   rw [List.getElem?_append_left (hwl ▸ h)]
   unfold wsV
   rw [List.getElem?_map,List.getElem?_eq_getElem h]
   exact congrArg (λo:Option Nat=>some (wV (o.getD 0))) (List.getElem?_eq_getElem h).symm
 · rw [if_neg h]
   refine ⟨place_n (Nat.le_trans (Nat.le_of_lt hi) (Nat.le_trans hl (by decide))) ?_,all_t6 _ ht⟩
   rw [List.getElem?_append_right (Nat.le_of_not_lt (hwl ▸ h)),List.getElem?_replicate,if_pos (by rw [hwl]; omega)]
   cases tail with
   | none=>exact nomatch no_rest hc hi h
   | some t=>rfl
theorem due_ok (d:Nat) (σ:H):evCall P 8000 (d + 22) 69 [.lst (encs parts),.lst (wsV ways),tailV tail,enc u] σ = some (.bool (dueM parts ways tail u),σ):=by
 have hw2:=all_len ways hw
 have hl2:=Nat.le_trans hl (by decide:50 ≤ 200)
 have n1:biOp .len [.lst (encs parts)] = some (.int parts.length):=len_v (len_encs parts) hl2
 have n2:biOp .len [.lst (wsV ways)] = some (.int ways.length):=len_v (List.length_map ..) (Nat.le_trans hw2 (by decide))
 have hwsl:(wsV ways).length ≤ 200:=by unfold wsV; rw [List.length_map]; exact Nat.le_trans hw2 (by decide)
 have n3:biOp .list [.lst (wsV ways)] = some (.lst (wsV ways)):=congrArg (λb=>gd b (some (V.lst (wsV ways)))) (short_of hwsl)
 unfold dueM
 cases hlt:decide (parts.length < ways.length) with
 | true=>
  have i1:=lt_cast hlt
  have e:outK parts.length ways.length tail.isNone = true:=o1 hlt
  rw [e]
  exact rn (.c 0 (fV n1) <| .c 0 (fV n2) <| .c 0 (fT i1) <| .e) (by kernel_rfl)
 | false=>
  have i1:=lt_cast hlt
  have hle:=Nat.le_of_not_lt (of_decide_eq_false hlt)
  cases hc:outK parts.length ways.length tail.isNone with
  | true=>
   have h2:=(congrArg (λb=>b || (tail.isNone && decide (ways.length < parts.length))) hlt).symm.trans hc
   cases tail with
   | some t=>exact nomatch h2
   | none=>
    have i2:decide ((ways.length:Int) < parts.length) = true:=lt_cast h2
    exact rn (.c 0 (fV n1) <| .c 0 (fV n2) <| .c 0 (fT i1) <| .c 1 (fV n1) <| .c 0 (fV n2) <| .c 0 (fT i2) <| .e) (by kernel_rfl)
  | false=>
   have mr:=mulRep (tailV tail) hle (Nat.le_trans hl (by decide))
   have ha:binOp .add (.lst (wsV ways)) (.lst (List.replicate (parts.length - ways.length) (tailV tail))) = some (.lst (wsV ways ++ List.replicate (parts.length - ways.length) (tailV tail))):=add_vs hwsl (by rw [List.length_replicate]; omega)
   have hrl:(wsV ways ++ List.replicate (parts.length - ways.length) (tailV tail)).length = parts.length:=by unfold wsV; rw [List.length_append,List.length_map,List.length_replicate]; omega
   have hch:=choices_ok parts ways tail u hp hl hw ht hu d σ
   have hc11:∀ c ∈ choicesM parts (dgM ways tail) (oftenA ways tail) u,c ∈ c11:=λc h=>found_c11 hp hu (dgM ways tail) (oftenA ways tail) c (List.mem_filter.mp h).1
   obtain ⟨x',y',hloop⟩:=du_loop hrl hl hp (λi hi=>rows_ok hp hl hw ht hu hc hi) (.lst (wsV ways)) (tailV tail) (enc u) d σ _ none none hc11
   have hI:evI (ev (d + 21)) (.plain (.callF 68 [(.var 0),(.var 1),(.var 2),(.var 3)])) (duF (.lst (encs parts)) (.lst (wsV ways)) (tailV tail) (enc u) (.lst (wsV ways ++ List.replicate (parts.length - ways.length) (tailV tail))) none none) σ = some (encs (choicesM parts (dgM ways tail) (oftenA ways tail) u),σ):=by exact rnI (.c 0 (fC hch) <| .e) (by kernel_rfl)
   have hw:=fr_ok hI hloop
   have e:(choicesM parts (dgM ways tail) (oftenA ways tail) u).any (okAll parts (wayAt ways tail)) = (choicesM parts (dgM ways tail) (oftenA ways tail) u).any λc=>(pairsOf parts ways tail).all λq=>sat q c:=congrArg (List.any _) (funext λc=>by unfold okAll pairsOf; rw [List.all_map]; rfl)
   rw [e] at hw
   have fin (hn:tail = none→decide ((ways.length:Int) < parts.length) = false):evCall P 8000 (d + 22) 69 [.lst (encs parts),.lst (wsV ways),tailV tail,enc u] σ = some (.bool ((choicesM parts (dgM ways tail) (oftenA ways tail) u).any λc=>(pairsOf parts ways tail).all λq=>sat q c),σ):=by
    generalize ((choicesM parts (dgM ways tail) (oftenA ways tail) u).any λc=>(pairsOf parts ways tail).all λq=>sat q c) = b at hw ⊢
    cases b with
    | true=>
     have hw:evS (ev (d + 21)) 8000 w_due (duF (.lst (encs parts)) (.lst (wsV ways)) (tailV tail) (enc u) (.lst (wsV ways ++ List.replicate (parts.length - ways.length) (tailV tail))) none none) σ = some (.ret (.bool true),_,_):=hw
     cases tail with
     | none=>
      have i2:=hn rfl
      exact rn (.c 0 (fV n1) <| .c 0 (fV n2) <| .c 0 (fT i1) <| .c 1 (fV n1) <| .c 0 (fV n2) <| .c 0 (fT i2) <| .c 0 (fV n3) <| .c 0 (fV n1) <| .c 0 (fV n2) <| .c 1 (fV mr) <| .c 0 (fV ha) <| .c 0 (fS hw) <| .e) (by kernel_rfl)
     | some t=>
      have i3:decide ((t:Int) < 0) = false:=decide_eq_false (Int.not_lt.mpr (Int.natCast_nonneg t))
      exact rn (.c 0 (fV n1) <| .c 0 (fV n2) <| .c 0 (fT i1) <| .c 0 (fT i3) <| .c 1 (fV n3) <| .c 0 (fV n1) <| .c 0 (fV n2) <| .c 1 (fV mr) <| .c 0 (fV ha) <| .c 0 (fS hw) <| .e) (by kernel_rfl)
    | false=>
     have hw:evS (ev (d + 21)) 8000 w_due (duF (.lst (encs parts)) (.lst (wsV ways)) (tailV tail) (enc u) (.lst (wsV ways ++ List.replicate (parts.length - ways.length) (tailV tail))) none none) σ = some (.next,_,_):=hw
     cases tail with
     | none=>
      have i2:=hn rfl
      exact rn (.c 0 (fV n1) <| .c 0 (fV n2) <| .c 0 (fT i1) <| .c 1 (fV n1) <| .c 0 (fV n2) <| .c 0 (fT i2) <| .c 0 (fV n3) <| .c 0 (fV n1) <| .c 0 (fV n2) <| .c 1 (fV mr) <| .c 0 (fV ha) <| .c 0 (fS hw) <| .e) (by kernel_rfl)
     | some t=>
      have i3:decide ((t:Int) < 0) = false:=decide_eq_false (Int.not_lt.mpr (Int.natCast_nonneg t))
      exact rn (.c 0 (fV n1) <| .c 0 (fV n2) <| .c 0 (fT i1) <| .c 0 (fT i3) <| .c 1 (fV n3) <| .c 0 (fV n1) <| .c 0 (fV n2) <| .c 1 (fV mr) <| .c 0 (fV ha) <| .c 0 (fS hw) <| .e) (by kernel_rfl)
   exact fin λh=>lt_cast ((congrArg (λb=>b || (tail.isNone && decide (ways.length < parts.length))) hlt).symm.trans hc |> λh'=>by rw [h] at h'; exact h')
end
noncomputable def kg (a b:Int):O:=.list [.int a,.int b]
inductive KegOk:O→Prop where
 | mk (a b:Int) (ha:0 ≤ a) (hb:0 ≤ b) (hb':b < 2147483648):KegOk (kg a b)
theorem mod_t (a:Int) {t:Int} (h:0 < t):binOp .mod (.int a) (.int t) = some (.int (Int.fmod a t)):=congrArg (λb=>gd b (some (V.int (Int.fmod a t)))) (decide_eq_true h)
theorem fdiv_t (a:Int) {t:Int} (h:0 < t) (h':t < 1073741824):binOp .fdiv (.int a) (.int t) = some (.int (Int.fdiv a t)):=congrArg (λb=>gd b (some (V.int (Int.fdiv a t)))) (ai (decide_eq_true h) (decide_eq_true h'))
theorem mul_s {a b:Int} (h:small a = true) (h':small b = true):binOp .mul (.int a) (.int b) = some (.int (a * b)):=by rw [mul_ii,h,h']; rfl
theorem sip_a {a t:Int} (b:Int) (τ:H) (ha:0 < a) (ht:0 < t) (ht':t < 1073741824) (d:Nat):evCall P 8000 (d + 1) 59 [.ref 0,.int t] (base (kg a b) τ) = some (.int (Int.fmod a t),base (kg (Int.fdiv a t) b) τ):=by
 have h1:=decide_eq_true ha
 have h2:=mod_t a ht
 have h3:=fdiv_t a ht ht'
 exact rn (.c 2 (fT h1) <| .c 2 (fV h2) <| .c 2 (fV h3) <| .e) (by kernel_rfl)
theorem sip_b {a b t:Int} (τ:H) (ha:¬ 0 < a) (ht:0 < t) (hb:small b = true) (d:Nat) :
 evCall P 8000 (d + 1) 59 [.ref 0,.int t] (base (kg a b) τ) = some (.int (Int.fmod (Int.fdiv (Int.fmod (b * 51749 + 331) 2147483647) 7) t),base (kg a (Int.fmod (b * 51749 + 331) 2147483647)) τ):=by
 have h1:=decide_eq_false ha
 have h2:=mod_t (Int.fdiv (Int.fmod (b * 51749 + 331) 2147483647) 7) ht
 have h3:=mul_s (b:=51749) hb (by decide)
 exact rn (.c 2 (fT h1) <| .c 2 (fV h3) <| .c 6 (fV h2) <| .e) (by kernel_rfl)
theorem sip_ok (k:O) (τ:H) (t:Nat) (hk:KegOk k) (ht:0 < t) (ht':t ≤ 6) (d:Nat):∃ (x:Nat) (k':O),KegOk k'∧x < t∧evCall P 8000 (d + 1) 59 [.ref 0,.int t] (base k τ) = some (.int x,base k' τ):=by
 cases hk with
 | mk a b h1 h2 h3=>
  have htp:(0:Int) < (t:Int):=Int.natCast_pos.mpr ht
  have fin (m:Int) (k':O) (hk':KegOk k') (e:evCall P 8000 (d + 1) 59 [.ref 0,.int t] (base (kg a b) τ) = some (.int (Int.fmod m t),base k' τ)):∃ (x:Nat) (k':O),KegOk k'∧x < t∧evCall P 8000 (d + 1) 59 [.ref 0,.int t] (base (kg a b) τ) = some (.int x,base k' τ):=
   have n1:=Int.fmod_nonneg_of_pos m htp
   ⟨(Int.fmod m t).toNat,k',hk',(Int.toNat_lt n1).mpr (Int.fmod_lt_of_pos m htp),by rw [Int.toNat_of_nonneg n1]; exact e⟩
  by_cases ha:0 < a
  · exact fin a _ (.mk (Int.fdiv a t) b (Int.fdiv_nonneg h1 (Int.le_of_lt htp)) h2 h3) (sip_a b τ ha htp (by omega) d)
  · have hm2:=Int.fmod_lt_of_pos (b * 51749 + 331) (by decide:(0:Int) < 2147483647)
    exact fin _ _ (.mk a (Int.fmod (b * 51749 + 331) 2147483647) h1 (Int.fmod_nonneg_of_pos _ (by decide)) (Int.lt_trans hm2 (by decide))) (sip_b τ ha htp (ai (decide_eq_true (by omega)) (decide_eq_true (by omega))) d)
theorem keg_mk {m a:Int} (ha:0 ≤ a):KegOk (kg a (Int.fmod m 1000000093 + 37)):=
 .mk a _ ha (Int.add_nonneg (Int.fmod_nonneg_of_pos m (by decide)) (by decide)) (by have:=Int.fmod_lt_of_pos m (by decide:(0:Int) < 1000000093); omega)
theorem keg_ok (ns:List Int) (d:Nat):∃ k,KegOk k∧evCall P 8000 (d + 1) 58 [.lst (ns.map .int)] [] = some (.ref 0,[k]):=by
 cases ns with
 | nil=>exact ⟨kg 0 38,.mk 0 38 (by decide) (by decide) (by decide),by kernel_rfl⟩
 | cons n ns=>
  cases h:decide (0 ≤ n) with
  | true=>
   cases h2:decide ((10:Int) ^ 18 ≤ n) with
   | true=>exact ⟨kg n (Int.fmod n 1000000093 + 37),keg_mk (of_decide_eq_true h),by exact rn (.c 4 (fT h) <| .c 0 (fT h2) <| .e) (by kernel_rfl)⟩
   | false=>exact ⟨kg 0 (Int.fmod n 1000000093 + 37),keg_mk (Int.le_refl 0),by exact rn (.c 4 (fT h) <| .c 0 (fT h2) <| .e) (by kernel_rfl)⟩
  | false=>
   have hn:0 ≤ 6 - n:=by have:=of_decide_eq_false h; omega
   cases h2:decide ((10:Int) ^ 18 ≤ 6 - n) with
   | true=>exact ⟨kg (6 - n) (Int.fmod (6 - n) 1000000093 + 37),keg_mk hn,by exact rn (.c 4 (fT h) <| .c 1 (fT h2) <| .e) (by kernel_rfl)⟩
   | false=>exact ⟨kg 0 (Int.fmod (6 - n) 1000000093 + 37),keg_mk (Int.le_refl 0),by exact rn (.c 4 (fT h) <| .c 1 (fT h2) <| .e) (by kernel_rfl)⟩
noncomputable def st1 (x:Nat):Str:=(["Int64","Bool","String","Int64"].map Str.ofString).getD x "Int64"
noncomputable def st2 (x:Nat):Str:=(["Int64","Integer","String"].map Str.ofString).getD x "Int64"
noncomputable def st3 (x:Nat):Str:=(["Int64","Bool"].map Str.ofString).getD x "Int64"
noncomputable def nx1 (x:Nat):At:=[At.i64,.bo,.st,.i64].getD x .i64
noncomputable def nx2 (x:Nat):At:=[At.ai,.an,.sa].getD x .ai
noncomputable def nx3 (x:Nat):At:=[At.ti,.tb].getD x .ti
theorem tabR {γ:Type} {n:Nat} (f g:Nat→γ) (h:(List.range n).map f = mp g (List.range n)) {x:Nat} (hx:x < n):f x = g x:=tabX f g (h.trans (mp_is g _)) (List.mem_range.mpr hx)
theorem st1_ix {x:Nat} (hx:x < 4):idxOp (.lst [.str "Int64",.str "Bool",.str "String",.str "Int64"]) (.int x) = some (.str (st1 x)):=tabR (λx=>idxOp (.lst [.str "Int64",.str "Bool",.str "String",.str "Int64"]) (.int x)) (λx=>some (.str (st1 x))) (by kernel_rfl) hx
theorem st2_ix {x:Nat} (hx:x < 3):idxOp (.lst [.str "Int64",.str "Integer",.str "String"]) (.int x) = some (.str (st2 x)):=tabR (λx=>idxOp (.lst [.str "Int64",.str "Integer",.str "String"]) (.int x)) (λx=>some (.str (st2 x))) (by kernel_rfl) hx
theorem st3_ix {x:Nat} (hx:x < 2):idxOp (.lst [.str "Int64",.str "Bool"]) (.int x) = some (.str (st3 x)):=tabR (λx=>idxOp (.lst [.str "Int64",.str "Bool"]) (.int x)) (λx=>some (.str (st3 x))) (by kernel_rfl) hx
theorem st1_ok {x:Nat} (hx:x < 4):(nmV (st1 x),decide (nx1 x ∈ p8)) = (enc (nx1 x),true):=tabR (λx=>(nmV (st1 x),decide (nx1 x ∈ p8))) (λx=>(enc (nx1 x),true)) (by kernel_rfl) hx
theorem st2_ok {x:Nat} (hx:x < 3):(arV (nmV (st2 x)),decide (nx2 x ∈ p8)) = (enc (nx2 x),true):=tabR (λx=>(arV (nmV (st2 x)),decide (nx2 x ∈ p8))) (λx=>(enc (nx2 x),true)) (by kernel_rfl) hx
theorem st3_ok {x:Nat} (hx:x < 2):(tuV (nmV (st3 x)),decide (nx3 x ∈ p8)) = (enc (nx3 x),true):=tabR (λx=>(tuV (nmV (st3 x)),decide (nx3 x ∈ p8))) (λx=>(enc (nx3 x),true)) (by kernel_rfl) hx
noncomputable def fitN (w:Nat):List Nat:=[[0,0,0],[0,0,0],[1,1,0],[0,0,0],[0,1,1],[0,2,2]].getD w []
noncomputable def fitV (w:Nat):List V:=(fitN w).map wV
noncomputable def fitL:List V:=[.lst [.int 0,.int 0,.int 0],.lst [.int 0,.int 0,.int 0],.lst [.int 1,.int 1,.int 0],.lst [.int 0,.int 0,.int 0],.lst [.int 0,.int 1,.int 1],.lst [.int 0,.int 2,.int 2]]
theorem fitw {w:Nat} (hw:w < 6):idxOp (.lst fitL) (wV w) = some (.lst (fitV w)):=tab6 (λw=>idxOp (.lst fitL) (wV w)) (λw=>some (.lst (fitV w))) (by kernel_rfl) hw
theorem fit_ix {w x:Nat} (hw:w < 6) (hx:x < 3):(idxOp (.lst (fitV w)) (.int x),decide ((fitN w).getD x 0 < 3)) = (some (.int ((fitN w).getD x 0:Nat)),true):=
 tabM (l:=w6) (m:=List.range 3) (λw x=>(idxOp (.lst (fitV w)) (.int x),decide ((fitN w).getD x 0 < 3))) (λw x=>(some (.int ((fitN w).getD x 0:Nat)),true)) (by kernel_rfl) (mem6 w hw) (List.mem_range.mpr hx)
theorem lt3 {M:Nat→Prop} {j:Nat} (hj:j < 3) (h0:M 0) (h1:M 1) (h2:M 2):M j:=j2 (Nat.le_of_lt_succ hj) h0 h1 h2
theorem given_ok (k:O) (τ:H) (hk:KegOk k) (w:Nat) (hw:w < 6) (d:Nat):∃ (p:At) (k':O),p ∈ p8∧KegOk k'∧evCall P 8000 (d + 21) 64 [.ref 0,wV w] (base k τ) = some (enc p,base k' τ):=by
 obtain ⟨x1,k1,hk1,hx1,e1⟩:=sip_ok k τ 4 hk (by decide) (by decide) (d + 19)
 obtain ⟨x2,k2,hk2,hx2,e2⟩:=sip_ok k1 τ 3 hk1 (by decide) (by decide) (d + 19)
 obtain ⟨x3,k3,hk3,hx3,e3⟩:=sip_ok k2 τ 2 hk2 (by decide) (by decide) (d + 19)
 obtain ⟨x4,k4,hk4,hx4,e4⟩:=sip_ok k3 τ 6 hk3 (by decide) (by decide) (d + 19)
 obtain ⟨x5,k5,hk5,hx5,e5⟩:=sip_ok k4 τ 3 hk4 (by decide) (by decide) (d + 19)
 have s1:=st1_ix hx1
 have s2:=st2_ix hx2
 have s3:=st3_ix hx3
 have f:=fitw hw
 have pick3 (j:Nat) (hj:j < 3):∃ p ∈ p8,idxOp (.lst [nmV (st1 x1),arV (nmV (st2 x2)),tuV (nmV (st3 x3))]) (.int j) = some (enc p):=by
  have g {v:V} {p:At} (h:(v,decide (p ∈ p8)) = (enc p,true)):∃ q ∈ p8,some v = some (enc q):=⟨p,of_decide_eq_true (congrArg (·.2) h),congrArg (λx:V×Bool=>some x.1) h⟩
  exact lt3 (M:=λj=>∃ p ∈ p8,idxOp (.lst [nmV (st1 x1),arV (nmV (st2 x2)),tuV (nmV (st3 x3))]) (.int j) = some (enc p)) hj (g (st1_ok hx1)) (g (st2_ok hx2)) (g (st3_ok hx3))
 cases h:decide ((0:Int) < (x4:Int)) with
 | true=>
  have hf:=fit_ix hw hx5
  have f2:=congrArg (·.1) hf
  obtain ⟨p,hp,hv⟩:=pick3 _ (of_decide_eq_true (congrArg (·.2) hf))
  exact ⟨p,k5,hp,hk5,by exact rn (.c 0 (fC e1) <| .c 0 (fV s1) <| .c 1 (fC e2) <| .c 0 (fV s2) <| .c 3 (fC e3) <| .c 0 (fV s3) <| .c 3 (fV f) <| .c 0 (fC e4) <| .c 0 (fT h) <| .c 0 (fC e5) <| .c 0 (fV f2) <| .c 0 (fV hv) <| .e) (by kernel_rfl)⟩
 | false=>
  obtain ⟨p,hp,hv⟩:=pick3 _ hx5
  exact ⟨p,k5,hp,hk5,by exact rn (.c 0 (fC e1) <| .c 0 (fV s1) <| .c 1 (fC e2) <| .c 0 (fV s2) <| .c 3 (fC e3) <| .c 0 (fV s3) <| .c 3 (fV f) <| .c 0 (fC e4) <| .c 0 (fT h) <| .c 0 (fC e5) <| .c 0 (fV hv) <| .e) (by kernel_rfl)⟩
noncomputable def bdR (w:List Nat):Bool:=allTails.all λt=>allUps.all λu=>bnd1 w t u && bnd2 w t u
theorem bd6:(bdR [] && w6.all λa=>bdR [a]) = true:=by kernel_rfl
theorem bd0:(w6.all λb=>bdR [0,b]) = true:=by kernel_rfl
theorem bd1:(w6.all λb=>bdR [1,b]) = true:=by kernel_rfl
theorem bd2:(w6.all λb=>bdR [2,b]) = true:=by kernel_rfl
theorem bd3:(w6.all λb=>bdR [3,b]) = true:=by kernel_rfl
theorem bd4:(w6.all λb=>bdR [4,b]) = true:=by kernel_rfl
theorem bd5:(w6.all λb=>bdR [5,b]) = true:=by kernel_rfl
theorem bdAll {w:List Nat} (hw:w ∈ allWays) {t:Option Nat} (ht:t ∈ allTails) {u:At} (hu:u ∈ allUps):(bnd1 w t u && bnd2 w t u) = true:=by
 have h:bdR w = true:=(List.mem_append.mp hw).elim (λh=>(List.mem_append.mp h).elim (λh=>List.mem_singleton.mp h ▸ (an bd6).1) λh=>(List.mem_map.mp h).elim λa h=>h.2 ▸ List.all_eq_true.mp (an bd6).2 a h.1)
  fun h=>(List.mem_flatMap.mp h).elim λa h=>(List.mem_map.mp h.2).elim λb hb=>hb.2 ▸ (w6_is (M:=λa=>(w6.all λb=>bdR [a,b]) = true) (of_decide_eq_true (List.all_eq_true.mp (by kernel_rfl:(w6.all λa=>decide (a < 6)) = true) a h.1)) bd0 bd1 bd2 bd3 bd4 bd5 |> λh=>List.all_eq_true.mp h b hb.1)
 exact List.all_eq_true.mp (List.all_eq_true.mp h t ht) u hu
theorem txt1:sbt (.tup [.st] none) (kindM [0] none .any) = some true:=by kernel_rfl
theorem txt2:sbt (.tup [.st] none) (kindM [0] none .int) = some false:=by kernel_rfl
theorem fx1:sbt (.tup [.an,.i64] none) (kindM [4,0] none .any) = some true:=by kernel_rfl
theorem fx2:sbt (.tup [.an,.sa] none) (kindM [4,0] none .any) = some true:=by kernel_rfl
theorem fx3:sbt (.tup [.st,.i64] none) (kindM [3,0] none .int) = some true:=by kernel_rfl
theorem fx4:sbt (.tup [.bo] none) (kindM [3] none .int) = some true:=by kernel_rfl
theorem isB_app {σ:H} (h:IsB σ) (τ:H):IsB (σ ++ τ):=isB_of h ⟨τ,rfl⟩
theorem t_none:none ∈ allTails:=.head _
theorem t_lt {tail:Option Nat} (h:tail ∈ allTails):∀ t,tail = some t→t < 6:=λt e=>(congrArg (λo:Option Nat=>o.getD 0 < 6) e).mp (all_t6 _ h)
theorem dgT (n:Nat) (b:Bool):(decide ((1:Int) < n) && !b) = (Nat.ble 2 n && !b):=congrArg (λc=>c && !b) (by rw [Bool.eq_iff_iff,decide_eq_true_iff,Nat.ble_eq]; omega)
theorem eq_bb (a b:Bool) {r:Bool} (h:(a == b) = r):eqOp (.bool a) (.bool b) = some r:=by rw [← h]; cases a <;> cases b <;> kernel_rfl
noncomputable def bnF (k w t u a b:V) (x y z v:Option Slot):Rho:=[some (.v k),some (.v w),some (.v t),some (.v u),some (.v a),some (.v b),x,y,z,v]
section
variable {C:Orc} {σ σ':H} {k w t u a b c:V} {n m:Int} {g h:Bool}
noncomputable abbrev bnG (k w t u a b:V) (n m:Int) (g h:Bool):Rho:=bnF k w t u a b (some (.v (.tup [.int n,.bool g]))) (some (.v (.tup [.int m,.bool h]))) none none
theorem bn3_skip (hr:((decide (1 < n) && !g) == (decide (1 < m) && !h)) = false):evS C 8000 s_bn3 (bnG k w t u a b n m g h) σ = some (.next,bnG k w t u a b n m g h,σ):=by
 have e:=eq_bb _ _ hr
 cases h0:decide (1 < n) with
 | true=>
  rw [h0] at e
  cases h1:decide (1 < m) with
  | true=>rw [h1] at e; exact rnS (.c 1 (fT h0) <| .c 2 (fT h1) <| .c 1 (fB e) <| .e) (by kernel_rfl)
  | false=>rw [h1] at e; exact rnS (.c 1 (fT h0) <| .c 2 (fT h1) <| .c 0 (fB e) <| .e) (by kernel_rfl)
 | false=>
  rw [h0] at e
  cases h1:decide (1 < m) with
  | true=>rw [h1] at e; exact rnS (.c 1 (fT h0) <| .c 1 (fT h1) <| .c 1 (fB e) <| .e) (by kernel_rfl)
  | false=>rw [h0,h1] at hr; exact nomatch hr
theorem bn3_go (hr:((decide (1 < n) && !g) == (decide (1 < m) && !h)) = true) (c1:C 63 [w,.int (-1),u] σ = some (c,σ)) (c2:C 44 [k,c,a] σ = some (.bool true,σ')):evS C 8000 s_bn3 (bnG k w t u a b n m g h) σ = some (.next,bnG k w t u a b n m g h,σ'):=by
 have e:=eq_bb _ _ hr
 cases h0:decide (1 < n) with
 | true=>
  rw [h0] at e
  cases h1:decide (1 < m) with
  | true=>rw [h1] at e; exact rnS (.c 1 (fT h0) <| .c 2 (fT h1) <| .c 1 (fB e) <| .c 1 (fC c1) <| .c 0 (fC c2) <| .e) (by kernel_rfl)
  | false=>rw [h1] at e; exact rnS (.c 1 (fT h0) <| .c 2 (fT h1) <| .c 0 (fB e) <| .c 1 (fC c1) <| .c 0 (fC c2) <| .e) (by kernel_rfl)
 | false=>
  rw [h0] at e
  cases h1:decide (1 < m) with
  | true=>rw [h1] at e; exact rnS (.c 1 (fT h0) <| .c 1 (fT h1) <| .c 1 (fB e) <| .c 1 (fC c1) <| .c 0 (fC c2) <| .e) (by kernel_rfl)
  | false=>rw [h1] at e; exact rnS (.c 1 (fT h0) <| .c 1 (fT h1) <| .c 0 (fB e) <| .c 1 (fC c1) <| .c 0 (fC c2) <| .e) (by kernel_rfl)
end
theorem bounds_ok (ways:List Nat) (tail:Option Nat) (u:At) (hw:ways ∈ allWays) (ht:tail ∈ allTails) (hu:u ∈ allUps) (d:Nat) (σ:H) (hB:IsB σ) :
 ∃ τ,evCall P 8000 (d + 36) 70 [kobj,.lst (wsV ways),tailV tail,enc u] σ = some (.bool true,σ ++ τ):=by
 have hbd:=an (bdAll hw ht hu)
 have hb1:=an hbd.1
 have w6':=all_w6 ways hw
 have wl:ways.length ≤ 100:=Nat.le_trans (all_len ways hw) (by decide)
 have hk:=λ(tail:Option Nat) (tl:∀ t,tail = some t→t < 6) (u:At) (σ:H)=>kind_ok ways tail u w6' wl tl (d + 14) σ
 have hk0:=λ(u:At) (σ:H)=>kind_ok [0] none u (by decide) (by decide) (λ_ h=>(nomatch h)) (d + 14) σ
 have k1:=hk tail (t_lt ht) u σ
 have k2:=hk tail (t_lt ht) .any σ
 obtain ⟨τ1,s1⟩:=sbt_ok (kindM ways tail u) (kindM ways tail .any) σ hB true (eq_of_beq hb1.1) d
 obtain ⟨τ2,s2⟩:=sbt_ok (.at .i64) (kindM ways tail u) (σ ++ τ1) (isB_app hB τ1) false (eq_of_beq hb1.2) d
 have hB2:IsB (σ ++ τ1 ++ τ2):=isB_app (isB_app hB τ1) τ2
 have o1':=often_ok ways none hw t_none (d + 34) (σ ++ τ1 ++ τ2)
 have o2':=often_ok ways tail hw ht (d + 34) (σ ++ τ1 ++ τ2)
 have g0:evS (ev (d + 35)) 8000 s_bn0 (rho0 [kobj,.lst (wsV ways),tailV tail,enc u] 10) σ = some (.next,bnF kobj (.lst (wsV ways)) (tailV tail) (enc u) (encO (kindM ways tail u)) (encO (kindM ways tail .any)) none none none none,σ):=by exact rnS (.c 0 (fC k1) <| .c 1 (fC k2) <| .e) (by kernel_rfl)
 have g1:evS (ev (d + 35)) 8000 s_bn1 (bnF kobj (.lst (wsV ways)) (tailV tail) (enc u) (encO (kindM ways tail u)) (encO (kindM ways tail .any)) none none none none) σ = some (.next,bnF kobj (.lst (wsV ways)) (tailV tail) (enc u) (encO (kindM ways tail u)) (encO (kindM ways tail .any)) none none none none,σ ++ τ1 ++ τ2):=by exact rnS (.c 0 (fC s1) <| .c 2 (fC s2) <| .e) (by kernel_rfl)
 have g2:evS (ev (d + 35)) 8000 s_bn2 (bnF kobj (.lst (wsV ways)) (tailV tail) (enc u) (encO (kindM ways tail u)) (encO (kindM ways tail .any)) none none none none) (σ ++ τ1 ++ τ2) = some (.next,bnG kobj (.lst (wsV ways)) (tailV tail) (enc u) (encO (kindM ways tail u)) (encO (kindM ways tail .any)) (oftenN ways none:Nat) (oftenN ways tail:Nat) (oftenA ways none) (oftenA ways tail),σ ++ τ1 ++ τ2):=by exact rnS (.c 0 (fC o1') <| .c 0 (fC o2') <| .e) (by kernel_rfl)
 obtain ⟨τ3,g3⟩:∃ τ3,evS (ev (d + 35)) 8000 s_bn3 (bnG kobj (.lst (wsV ways)) (tailV tail) (enc u) (encO (kindM ways tail u)) (encO (kindM ways tail .any)) (oftenN ways none:Nat) (oftenN ways tail:Nat) (oftenA ways none) (oftenA ways tail)) (σ ++ τ1 ++ τ2)
  = some (.next,bnG kobj (.lst (wsV ways)) (tailV tail) (enc u) (encO (kindM ways tail u)) (encO (kindM ways tail .any)) (oftenN ways none:Nat) (oftenN ways tail:Nat) (oftenA ways none) (oftenA ways tail),σ ++ τ1 ++ τ2 ++ τ3):=by
  have e:((decide ((1:Int) < (oftenN ways none:Nat)) && !oftenA ways none) == (decide ((1:Int) < (oftenN ways tail:Nat)) && !oftenA ways tail)) = (dgM ways none == dgM ways tail):=by rw [dgT,dgT]; rfl
  cases he:(dgM ways none == dgM ways tail) with
  | false=>exact ⟨[],by rw [List.append_nil]; exact bn3_skip (e.trans he)⟩
  | true=>
   have b4:sbt (kindM ways none u) (kindM ways tail u) = some true:=or_is hbd.2 (λh=>by rw [eq_of_beq he] at h; exact absurd h (by cases dgM ways tail <;> decide)) eq_of_beq
   obtain ⟨τ3,s3⟩:=sbt_ok (kindM ways none u) (kindM ways tail u) (σ ++ τ1 ++ τ2) hB2 true b4 d
   exact ⟨τ3,bn3_go (e.trans he) (hk none (λ_ h=>(nomatch h)) u _) s3⟩
 have hB3:IsB (σ ++ τ1 ++ τ2 ++ τ3):=isB_app hB2 τ3
 have t1:=tupleOfL1_ok [.st] (by decide) (d + 15) (σ ++ τ1 ++ τ2 ++ τ3)
 have k3:=hk0 .int (σ ++ τ1 ++ τ2 ++ τ3)
 have k4:=hk0 .any (σ ++ τ1 ++ τ2 ++ τ3)
 obtain ⟨τ4,s4⟩:=sbt_ok (.tup [.st] none) (kindM [0] none .any) _ hB3 true txt1 d
 obtain ⟨τ5,s5⟩:=sbt_ok (.tup [.st] none) (kindM [0] none .int) _ (isB_app hB3 τ4) false txt2 d
 have g4:evSs (ev (d + 35)) 8000 l_bn (bnG kobj (.lst (wsV ways)) (tailV tail) (enc u) (encO (kindM ways tail u)) (encO (kindM ways tail .any)) (oftenN ways none:Nat) (oftenN ways tail:Nat) (oftenA ways none) (oftenA ways tail)) (σ ++ τ1 ++ τ2 ++ τ3) = some (.ret (.bool true),bnF kobj (.lst (wsV ways)) (tailV tail) (enc u) (encO (kindM ways tail u)) (encO (kindM ways tail .any)) (some (.v (.tup [.int (oftenN ways none:Nat),.bool (oftenA ways none)]))) (some (.v (.tup [.int (oftenN ways tail:Nat),.bool (oftenA ways tail)]))) (some (.v (encO (.tup [.st] none)))) (some (.v (encO (kindM [0] none .int)))),σ ++ τ1 ++ τ2 ++ τ3 ++ τ4 ++ τ5):=by exact rnSs (.c 1 (fC t1) <| .c 1 (fC k3) <| .c 1 (fC k4) <| .c 0 (fC s4) <| .c 1 (fC s5) <| .e) (by kernel_rfl)
 have k:evCall P 8000 (d + 36) 70 [kobj,.lst (wsV ways),tailV tail,enc u] σ = b1 (evSs (ev (d + 35)) 8000 (s_bn0 :: s_bn1 :: s_bn2 :: s_bn3 :: l_bn) (rho0 [kobj,.lst (wsV ways),tailV tail,enc u] 10) σ) λp=>some (retV p.1,p.2.2):=by kernel_rfl
 refine ⟨τ1 ++ τ2 ++ τ3 ++ τ4 ++ τ5,?_⟩
 rw [k,ss_next g0,ss_next g1,ss_next g2,ss_next g3,g4,← List.append_assoc,← List.append_assoc,← List.append_assoc,← List.append_assoc]
 rfl
noncomputable def cLoop (G:V→H→Option (V×H)):V→H→List V→Option (List V×H):=λx σ acc=>b2 (G x σ) λx σ=>gd (shortL acc) (some (acc ++ [x],σ))
theorem comp0 {C:Orc} {elt:E} {i:Nat} {it:It} {ρ:Rho} {σ σ1 σ2:H} {l L:List V} (hF:freeGs (noOwn ρ) [.mk (.one i) it []] = true) (hI:evI C it (noOwn ρ) σ = some (l,σ1)) (h:loopL (cLoop λx σ=>evE C elt (setV (noOwn ρ) i x) σ) l σ1 [] = some (L,σ2)) :
 evE C (.comp elt [.mk (.one i) it []]) ρ σ = some (.lst L,σ2):=by
 have hT:freeT (noOwn ρ) (.one i) = true:=(Bool.and_eq_true_iff.mp hF).1
 have h:loopL (λx σ acc=>b1 (bindT (.one i) (noOwn ρ) x) λρ'=>b2 (evIfs C [] ρ' σ) λb σ=>cond b (evG C (λρ σ=>evE C elt ρ σ) [] ρ' σ acc) (some (acc,σ))) l σ1 [] = some (L,σ2):=h
 show gd (freeGs (noOwn ρ) [.mk (.one i) it []]) (b2 (gd (freeT (noOwn ρ) (.one i)) (b2 (evI C it (noOwn ρ) σ) λl σ=>loopL _ l σ [])) _) = _
 rw [hF,hT,hI]
 exact congrArg (λo=>b2 o λl σ=>some (V.lst l,σ)) h
theorem draws {β:Type} (e:β→V) (M:β→Prop) (G:V→H→Option (V×H)) (τ:H):∀ (is:List V) (k:O) (acc:List V),(∀ x ∈ is,∀ k,KegOk k→∃ (p:β) (k':O),M p∧KegOk k'∧G x (base k τ) = some (e p,base k' τ))→KegOk k→acc.length + is.length ≤ 100→
 ∃ (ps:List β) (k':O),ps.length = is.length∧(∀ p ∈ ps,M p)∧KegOk k'∧loopL (cLoop G) is (base k τ) acc = some (acc ++ ps.map e,base k' τ)
 | [],k,acc,_,hk,_=>⟨[],k,rfl,λ_ h=>(nomatch h),hk,congrArg (λl=>some (l,base k τ)) (List.append_nil acc).symm⟩
 | x :: is,k,acc,hG,hk,hl=>by
  obtain ⟨p,k1,hp,hk1,h⟩:=hG x (.head _) k hk
  obtain ⟨ps,k',h1,h2,h3,h4⟩:=draws e M G τ is k1 (acc ++ [e p]) (λy hy=>hG y (.tail _ hy)) hk1 (by rw [List.length_append,Nat.add_assoc,List.length_singleton,Nat.add_comm 1]; exact hl)
  refine ⟨p :: ps,k',congrArg (· + 1) h1,λq hq=>(List.mem_cons.mp hq).elim (λe=>e ▸ hp) (h2 q),h3,?_⟩
  rw [List.append_assoc] at h4
  have hs:shortL acc = true:=s4 (Nat.le_trans (Nat.le_add_right _ _) (Nat.le_trans hl (by decide)))
  have hc:cLoop G x (base k τ) acc = some (acc ++ [e p],base k1 τ):=(congrArg (λo=>b2 o λx σ=>gd (shortL acc) (some (acc ++ [x],σ))) h).trans (congrArg (λc=>gd c (some (acc ++ [e p],base k1 τ))) hs)
  exact (congrArg (λo=>b2 o λacc σ=>loopL (cLoop G) is σ acc) hc).trans h4
noncomputable def LF (sc K X Y W T U:V) (a b c e:Option Slot):Rho:=[some (.v sc),some (.v (.ref 0)),some (.v kobj),some (.v K),some (.v X),some (.v Y),some (.v W),some (.v T),some (.v U),a,b,c,e,none,none]
noncomputable def upOf (x:Nat):At:=[At.any,.real,.int].getD x .any
noncomputable def upS (x:Nat):Str:=(["Any","Real","Integer"].map Str.ofString).getD x "Any"
theorem up_ix {x:Nat} (hx:x < 3):idxOp (.lst [.str "Any",.str "Real",.str "Integer"]) (.int x) = some (.str (upS x)):=tabR (λx=>idxOp (.lst [.str "Any",.str "Real",.str "Integer"]) (.int x)) (λx=>some (.str (upS x))) (by kernel_rfl) hx
theorem up_enc {x:Nat} (hx:x < 3):(nmV (upS x),decide (upOf x ∈ allUps)) = (enc (upOf x),true):=tabR (λx=>(nmV (upS x),decide (upOf x ∈ allUps))) (λx=>(enc (upOf x),true)) (by kernel_rfl) hx
theorem ways_mem {xs:List Nat} (hl:xs.length ≤ 2) (h:∀ x ∈ xs,x < 6):xs ∈ allWays:=by
 have m (x:Nat) (hx:x ∈ xs):=mem6 x (h x hx)
 match xs,hl with
 | [],_=>exact .head _
 | [a],_=>exact List.mem_append_left _ (List.mem_append_right _ (List.mem_map.mpr ⟨a,m a (.head _),rfl⟩))
 | [a,b],_=>exact List.mem_append_right _ (List.mem_flatMap.mpr ⟨a,m a (.head _),List.mem_map.mpr ⟨b,m b (.tail _ (.head _)),rfl⟩⟩)
theorem tail_mem {x:Nat} (h:x < 6):some x ∈ allTails:=.tail _ (List.mem_map.mpr ⟨x,mem6 x h,rfl⟩)
noncomputable def dlt (x:Nat):Int:=([0,0,1,2,-1]:List Int).getD x 0
theorem delta_ix {x:Nat} (hx:x < 5):(idxOp (.lst [.int 0,.int 0,.int 1,.int 2,.int (-1)]) (.int x),decide (dlt x ≤ 2)) = (some (.int (dlt x)),true):=tabR (λx=>(idxOp (.lst [.int 0,.int 0,.int 1,.int 2,.int (-1)]) (.int x),decide (dlt x ≤ 2))) (λx=>(some (.int (dlt x)),true)) (by kernel_rfl) hx
theorem max_nat (m:Int):biOp .max2 [.int 0,.int m] = some (.int (m.toNat:Nat)):=
 (show biOp .max2 [.int 0,.int m] = some (.int (if m > 0 then m else 0)) from rfl).trans (congrArg (λi=>some (V.int i)) (by split <;> omega))
theorem max_tail (tail:Option Nat):biOp .max2 [.int 0,tailV tail] = some (.int (tail.getD 0:Nat)):=by
 cases tail with
 | none=>kernel_rfl
 | some t=>exact max_nat t
theorem turn_ok (sc K X Y:V) {ways:List Nat} {tail:Option Nat} {u:At} (hw:ways ∈ allWays) (ht:tail ∈ allTails) (hu:u ∈ allUps) (d:Nat) (k:O) (τ:H) (hk:KegOk k) (a b c e:Option Slot) :
 ∃ (b' c' e':Option Slot) (k':O) (τ':H),KegOk k'∧evSs (ev (d + 36)) 8000 b_law (LF sc K X Y (.lst (wsV ways)) (tailV tail) (enc u) a b c e) (base k τ) = some (.next,LF sc K X Y (.lst (wsV ways)) (tailV tail) (enc u) a b' c' e',base k' τ'):=by
 have hl2:=all_len ways hw
 have w6':=all_w6 ways hw
 have hwl:(wsV ways).length = ways.length:=List.length_map ..
 have hwsl:(wsV ways).length ≤ 200:=Nat.le_trans (Nat.le_of_eq hwl) (Nat.le_trans hl2 (by decide))
 have n2:biOp .len [.lst (wsV ways)] = some (.int ways.length):=len_v hwl (Nat.le_trans hl2 (by decide))
 have n3:biOp .list [.lst (wsV ways)] = some (.lst (wsV ways)):=congrArg (λb=>gd b (some (V.lst (wsV ways)))) (short_of hwsl)
 obtain ⟨x,k1,hk1,hx,e1⟩:=sip_ok k τ 5 hk (by decide) (by decide) (d + 35)
 have hdx:=delta_ix hx
 have hz:=congrArg (·.1) hdx
 have hz2:=of_decide_eq_true (congrArg (·.2) hdx)
 have hs1:=max_nat ((ways.length:Int) + dlt x)
 generalize hs:((ways.length:Int) + dlt x).toNat = s at hs1
 have hs4:s ≤ 4:=by omega
 have ht0:=max_tail tail
 have ht6:tail.getD 0 < 6:=all_t6 tail ht
 generalize tail.getD 0 = t at ht0 ht6
 have hadd:binOp .add (.lst (wsV ways)) (.lst [.int (t:Nat),.int (t:Nat)]) = some (.lst (wsV (ways ++ [t,t]))):=(add_vs hwsl (Nat.le_of_ble_eq_true rfl)).trans (congrArg (λl=>some (V.lst l)) (List.map_append (f:=wV) (l₁:=ways) (l₂:=[t,t])).symm)
 have hslc:slcOp .upto (.lst (wsV (ways ++ [t,t]))) (.int s) = some (.lst (wsV ((ways ++ [t,t]).take s))):=(slc_v s (by unfold wsV; rw [List.length_map,List.length_append]; show _ + 2 ≤ 200; omega) (by omega)).trans (congrArg (λl=>some (V.lst l)) List.map_take.symm)
 have hr6:∀ w ∈ (ways ++ [t,t]).take s,w < 6:=λw hw'=>(List.mem_append.mp (List.mem_of_mem_take hw')).elim (w6' w) λh=>(List.mem_cons.mp h).elim (λh=>h ▸ ht6) λh=>List.mem_singleton.mp h ▸ ht6
 have hrl:((ways ++ [t,t]).take s).length ≤ 4:=by rw [List.length_take]; omega
 generalize (ways ++ [t,t]).take s = rows at hslc hr6 hrl
 obtain ⟨ps,k2,hp1,hp2,hk2,hp3⟩:=draws enc (· ∈ p8) (λx σ=>ev (d + 36) 64 [.ref 0,x] σ) τ (wsV rows) k1 [] (λx hx k hk=>(List.mem_map.mp hx).elim λw h=>h.2 ▸ given_ok k τ hk w (hr6 w h.1) (d + 15)) hk1 (by rw [List.length_nil,Nat.zero_add]; unfold wsV; rw [List.length_map]; omega)
 have hpl:ps.length ≤ 4:=by rw [hp1]; unfold wsV; rw [List.length_map]; exact hrl
 have c2:evE (ev (d + 36)) c_law2 (LF sc K X Y (.lst (wsV ways)) (tailV tail) (enc u) a (some (.v (.int (s:Nat)))) (some (.v (.lst (wsV rows)))) e) (base k1 τ) = some (.lst (encs ps),base k2 τ):=comp0 (by kernel_rfl) (by kernel_rfl) hp3
 have hres:sbt (.tup ps none) (kindM ways tail u) = some (dueM ps ways tail u):=(sbtA ps ways tail u hp2 hpl hl2 (up_lt u hu)).trans (congrArg some (resA_due ps ways tail u hp2 hw ht hu))
 obtain ⟨τ3,h3⟩:=sbt_ok (.tup ps none) (kindM ways tail u) (base k2 τ) ⟨k2,τ,rfl⟩ _ hres (d + 1)
 have h1:=tupleOfL1_ok ps (Nat.le_trans hpl (by decide)) (d + 16) (base k2 τ)
 have h2:=kind_ok ways tail u w6' (Nat.le_trans hl2 (by decide)) (t_lt ht) (d + 15) (base k2 τ)
 have h4:=due_ok hp2 (Nat.le_trans hpl (by decide)) hw ht hu (d + 14) (base k2 τ ++ τ3)
 have h5:=eq_bb (dueM ps ways tail u) (dueM ps ways tail u) (beq_self_eq_true _)
 refine ⟨some (.v (.int (s:Nat))),some (.v (.lst (wsV rows))),some (.v (.lst (encs ps))),k2,τ ++ τ3,hk2,?_⟩
 exact rnSs (.c 0 (fV n2) <| .c 0 (fC e1) <| .c 0 (fV hz) <| .c 1 (fV hs1) <| .c 0 (fV n3) <| .c 0 (fV ht0) <| .c 1 (fV hadd) <| .c 0 (fV hslc) <| .c 0 (fC c2) <| .c 0 (fC h1) <| .c 0 (fC h2) <| .c 0 (fC h3) <| .c 0 (fC h4) <| .c 0 (fB h5) <| .e) (by kernel_rfl)
theorem turns (sc K X Y:V) {ways:List Nat} {tail:Option Nat} {u:At} (hw:ways ∈ allWays) (ht:tail ∈ allTails) (hu:u ∈ allUps) (d:Nat):∀ (is:List V) (k:O) (τ:H) (a b c e:Option Slot),KegOk k→
 ∃ (k':O) (τ':H) (a' b' c' e':Option Slot),KegOk k'∧loopS (lpS (ev (d + 36)) 9 b_law) is (LF sc K X Y (.lst (wsV ways)) (tailV tail) (enc u) a b c e) (base k τ) = some (.next,LF sc K X Y (.lst (wsV ways)) (tailV tail) (enc u) a' b' c' e',base k' τ')
 | [],k,τ,a,b,c,e,hk=>⟨k,τ,a,b,c,e,hk,rfl⟩
 | I :: is,k,τ,a,b,c,e,hk=>by
  obtain ⟨b1,c1,e1,k1,τ1,hk1,h1⟩:=turn_ok sc K X Y hw ht hu d k τ hk (some (.v I)) b c e
  obtain ⟨k',τ',a',b',c',e',hk',h2⟩:=turns sc K X Y hw ht hu d is k1 τ1 (some (.v I)) b1 c1 e1 hk1
  exact ⟨k',τ',a',b',c',e',hk',lp_next h1 h2⟩
theorem law_ok (ns:List Int) (d:Nat):∃ σ',evCall P 8000 (d + 37) 71 [.lst (ns.map .int)] [] = some (.bool true,σ'):=by
 have hkd:=λ(ws:List Nat) (hw:∀ w ∈ ws,w < 6) (hl:ws.length ≤ 100) (u:At) (σ:H)=>kind_ok ws none u hw hl (λ_ h=>(nomatch h)) (d + 15) σ
 have hsub:=λ(one other:Ko) (b:Bool) (h:sbt one other = some b) (k:O) (τ:H)=>sbt_ok one other (base k τ) ⟨k,τ,rfl⟩ b h (d + 1)
 obtain ⟨k0,hk0,e58⟩:=keg_ok ns (d + 35)
 have e55:=kindsMade k0 (d + 16)
 have q1:=hkd [4,0] (by decide) (by decide) .any (base k0 [])
 have q2:=tupleOfL1_ok [.an,.i64] (by decide) (d + 16) (base k0 [])
 have q3:=tupleOfL1_ok [.an,.sa] (by decide) (d + 16) (base k0 [])
 obtain ⟨τ1,s1⟩:=hsub (.tup [.an,.i64] none) (kindM [4,0] none .any) true fx1 k0 []
 obtain ⟨τ2,s2⟩:=hsub (.tup [.an,.sa] none) (kindM [4,0] none .any) true fx2 k0 ([] ++ τ1)
 have q4:=tupleOfL1_ok [.st,.i64] (by decide) (d + 16) (base k0 ([] ++ τ1 ++ τ2))
 have q5:=hkd [3,0] (by decide) (by decide) .int (base k0 ([] ++ τ1 ++ τ2))
 obtain ⟨τ3,s3⟩:=hsub (.tup [.st,.i64] none) (kindM [3,0] none .int) true fx3 k0 ([] ++ τ1 ++ τ2)
 have q6:=tupleOfL1_ok [.bo] (by decide) (d + 16) (base k0 ([] ++ τ1 ++ τ2 ++ τ3))
 have q7:=hkd [3] (by decide) (by decide) .int (base k0 ([] ++ τ1 ++ τ2 ++ τ3))
 obtain ⟨τ4,s4⟩:=hsub (.tup [.bo] none) (kindM [3] none .int) true fx4 k0 ([] ++ τ1 ++ τ2 ++ τ3)
 generalize ht4:[] ++ τ1 ++ τ2 ++ τ3 ++ τ4 = t4
 have s4:ev (d + 36) 44 [kobj,encO (.tup [.bo] none),encO (kindM [3] none .int)] (base k0 ([] ++ τ1 ++ τ2 ++ τ3)) = some (.bool true,base k0 t4):=ht4 ▸ s4
 obtain ⟨n,k1,hk1,hn,e1⟩:=sip_ok k0 t4 3 hk0 (by decide) (by decide) (d + 35)
 obtain ⟨ways,k2,hwl,hw6,hk2,hl⟩:=draws wV (· < 6) (λx σ=>ev (d + 36) 59 [.ref 0,.int 6] σ) t4 ((List.range n).map λ(i:Nat)=>V.int (i:Int)) k1 [] (λx _ k hk=>(sip_ok k t4 6 hk (by decide) (by decide) (d + 35)).elim λx h=>h.elim λk' h=>⟨x,k',h.2.1,h.1,h.2.2⟩) hk1 (by rw [List.length_nil,Nat.zero_add,List.length_map,List.length_range]; omega)
 rw [List.length_map,List.length_range] at hwl
 have hways:ways ∈ allWays:=ways_mem (by omega) hw6
 have inr:=in_range (n:=n) (by omega)
 have c1:evE (ev (d + 36)) c_law1 (setV (setV (setV (setV (setV (rho0 [.lst (ns.map .int)] 15) 1 (.ref 0)) 2 kobj) 3 (encO (kindM [4,0] none .any))) 4 (encO (.tup [.an,.i64] none))) 5 (encO (.tup [.an,.sa] none))) (base k0 t4) = some (.lst (wsV ways),base k2 t4):=comp0 (by kernel_rfl) (by exact rnI (.c 0 (fC e1) <| .c 0 (fT inr) <| .e) (by kernel_rfl)) hl
 obtain ⟨x,k3,hk3,hx,e2⟩:=sip_ok k2 t4 2 hk2 (by decide) (by decide) (d + 35)
 have fin (tail:Option Nat) (ht:tail ∈ allTails) (k3:O) (hk3:KegOk k3) (go:∀ (x9:Nat) (k4 k5:O) (t5 τ6:H) (a b c e:Option Slot),ev (d + 36) 59 [.ref 0,.int 3] (base k3 t4) = some (.int x9,base k4 t4)→idxOp (.lst [.str "Any",.str "Real",.str "Integer"]) (.int x9) = some (.str (upS x9))→ev (d + 36) 60 [.str (upS x9)] (base k4 t4) = some (enc (upOf x9),base k4 t4)→
  evS (ev (d + 36)) 8000 w_law (LF (.lst (ns.map .int)) (encO (kindM [4,0] none .any)) (encO (.tup [.an,.i64] none)) (encO (.tup [.an,.sa] none)) (.lst (wsV ways)) (tailV tail) (enc (upOf x9)) none none none none) (base k4 t4) = some (.next,LF (.lst (ns.map .int)) (encO (kindM [4,0] none .any)) (encO (.tup [.an,.i64] none)) (encO (.tup [.an,.sa] none)) (.lst (wsV ways)) (tailV tail) (enc (upOf x9)) a b c e,base k5 t5)→
  ev (d + 36) 70 [kobj,.lst (wsV ways),tailV tail,enc (upOf x9)] (base k5 t5) = some (.bool true,base k5 t5 ++ τ6)→evCall P 8000 (d + 37) 71 [.lst (ns.map .int)] [] = some (.bool true,base k5 t5 ++ τ6)):∃ σ',evCall P 8000 (d + 37) 71 [.lst (ns.map .int)] [] = some (.bool true,σ'):=by
  obtain ⟨x9,k4,hk4,hx9,e9⟩:=sip_ok k3 t4 3 hk3 (by decide) (by decide) (d + 35)
  have hue:=up_enc hx9
  have hu:=of_decide_eq_true (congrArg (·.2) hue)
  have h60:ev (d + 36) 60 [.str (upS x9)] (base k4 t4) = some (enc (upOf x9),base k4 t4):=(plain_ok' (upS x9) (d + 16) (base k4 t4)).trans (congrArg (λv:V×Bool=>some (v.1,base k4 t4)) hue)
  obtain ⟨k5,t5,a',b',c',e',hk5,hloop⟩:=turns (.lst (ns.map .int)) (encO (kindM [4,0] none .any)) (encO (.tup [.an,.i64] none)) (encO (.tup [.an,.sa] none)) hways ht hu d ((List.range 4).map λ(i:Nat)=>V.int (i:Int)) k4 t4 none none none none hk4
  obtain ⟨τ6,s11⟩:=bounds_ok ways tail (upOf x9) hways ht hu d (base k5 t5) ⟨k5,t5,rfl⟩
  exact ⟨_,go x9 k4 k5 t5 τ6 a' b' c' e' e9 (up_ix hx9) h60 (fr_ok (by kernel_rfl) hloop) s11⟩
 cases x with
 | zero=>
  obtain ⟨y,k4,hk4,hy,e3⟩:=sip_ok k3 t4 6 hk3 (by decide) (by decide) (d + 35)
  exact fin (some y) (tail_mem hy) k4 hk4 λx9 k5 k6 t5 τ6 a b c e e9 ix h60 hw s11=>by exact rn (.c 0 (fC e58) <| .c 0 (fC e55) <| .c 1 (fC q1) <| .c 3 (fC q2) <| .c 4 (fC q3) <| .c 0 (fC s1) <| .c 1 (fC s2) <| .c 3 (fC q4) <| .c 1 (fC q5) <| .c 0 (fC s3) <| .c 2 (fC q6) <| .c 1 (fC q7) <| .c 0 (fC s4) <| .c 1 (fC c1) <| .c 0 (fC e2) <| .c 2 (fC e3) <| .c 0 (fC e9) <| .c 0 (fV ix) <| .c 0 (fC h60) <| .c 0 (fS hw) <| .c 0 (fC s11) <| .e) (by kernel_rfl)
 | succ x=>
  have hne:eqOp (.int (x + 1:Nat)) (.int 0) = some false:=by kernel_rfl
  exact fin none t_none k3 hk3 λx9 k5 k6 t5 τ6 a b c e e9 ix h60 hw s11=>by exact rn (.c 0 (fC e58) <| .c 0 (fC e55) <| .c 1 (fC q1) <| .c 3 (fC q2) <| .c 4 (fC q3) <| .c 0 (fC s1) <| .c 1 (fC s2) <| .c 3 (fC q4) <| .c 1 (fC q5) <| .c 0 (fC s3) <| .c 2 (fC q6) <| .c 1 (fC q7) <| .c 0 (fC s4) <| .c 1 (fC c1) <| .c 0 (fC e2) <| .c 0 (fB hne) <| .c 1 (fC e9) <| .c 0 (fV ix) <| .c 0 (fC h60) <| .c 0 (fS hw) <| .c 0 (fC s11) <| .e) (by kernel_rfl)
theorem hlaw (ns:List Int):∃ N d σ',d ≤ 100∧evCall P N d 71 [.lst (ns.map .int)] [] = some (.bool true,σ'):=(law_ok ns 0).elim λσ' h=>⟨8000,37,σ',by decide,h⟩
end Q
open PySem.Calls
set_option genInjectivity false
structure Info where
 K:Frag
 P:Nat→Option D
 name:Nat→Str
 addr:Nat→Addr
 cadr:Nat→Addr
 flds:Nat→List Str
 gl:Str→Option V
 mcl:Nat→Nat
structure Zt where
 I:Info
 pg:Program
 wd:World
 h₀:Heap
 mg:Str→Option Value
 mb:Str→Option Value
abbrev Zt.M (Z:Zt):Model:=model Z.pg Z.wd
abbrev Zt.knd (Z:Zt):KeyKind Z.pg Z.wd Str:=strKind Z.pg Z.wd
structure GW where
 im:Addr→Option Obj
 ph:List Addr
abbrev tupO (xs:Array Value) (n:Nat):Obj:={ cls:=.type "tuple",dict:=none,data:=.seq xs n,slots:=#[] }
abbrev lstO (xs:Array Value) (n:Nat):Obj:={ cls:=.type "list",dict:=none,data:=.seq xs n,slots:=#[] }
abbrev Get:=Addr→Option Obj
abbrev Pl:=List Value→Prop
inductive IntR (i:Int):Value→Prop
 | mk (t:Tok):IntR i (.int i t)
inductive StrR (i:Str):Value→Prop
 | mk (t:Tok):StrR i (.str i t)
inductive SeqR (ob:Array Value→Nat→Obj) (g:Get) (P:Pl):Value→Prop
 | mk (a:Addr) (xs:Array Value) (n:Nat):g a = some (ob xs n)→P xs.toList→SeqR ob g P (.ref a)
inductive LstO (P:Pl):Obj→Prop
 | mk (xs:Array Value) (n:Nat):P xs.toList→LstO P (lstO xs n)
inductive KvR (Z:Zt) (ks:List Str) (P:Pl) (o:Obj):Prop
 | mk (kvs:List (Str×Value)):Obj.IsDictOf Z.knd o kvs→kvs.map (·.1) = ks→P (kvs.map (·.2))→KvR Z ks P o
inductive DctR (Z:Zt) (g:Get) (ks:List Str) (P:Pl):Value→Prop
 | mk (a:Addr) (o:Obj):g a = some o→a ≠ sysModules→KvR Z ks P o→DctR Z g ks P (.ref a)
inductive InsR (Z:Zt) (g:Get) (cl:Nat) (P:Pl):Value→Prop
 | mk (a d:Addr) (o:Obj):g a = some (instObj (Z.I.cadr cl) d)→g d = some o→KvR Z (Z.I.flds cl) P o→InsR Z g cl P (.ref a)
inductive RefR (ph:List Addr) (i:Nat):Value→Prop
 | mk (a:Addr):ph[i]? = some a→RefR ph i (.ref a)
inductive ObjR (Z:Zt) (w:GW) (cl i:Nat):Value→Prop
 | mk (a d:Addr):w.im a = some (instObj (Z.I.cadr cl) d)→w.ph[i]? = some d→ObjR Z w cl i (.ref a)
inductive ConsR (P:Value→Prop) (R:Pl):Pl
 | mk (c:Value) (r:List Value):P c→R r→ConsR P R (c :: r)
mutual
noncomputable def VR (Z:Zt) (w:GW):V→Value→Prop
 | .none,c=>Value.none = c
 | .bool b,c=>Value.bool b = c
 | .int i,c=>IntR i c
 | .str s,c=>StrR s c
 | .tup l,c=>SeqR tupO w.im (VRs Z w l) c
 | .lst l,c=>SeqR lstO w.im (VRs Z w l) c
 | .dct ks vs,c=>DctR Z w.im ks (VRs Z w vs) c
 | .ins cl l,c=>InsR Z w.im cl (VRs Z w l) c
 | .ref i,c=>RefR w.ph i c
 | .obj cl i,c=>ObjR Z w cl i c
noncomputable def VRs (Z:Zt) (w:GW):List V→List Value→Prop
 | [],cs=>[] = cs
 | v :: l,cs=>ConsR (VR Z w v) (VRs Z w l) cs
end
noncomputable def OR (Z:Zt) (w:GW) (ob:Obj):O→Prop
 | .list l=>LstO (VRs Z w l) ob
 | .dict ks vs=>KvR Z ks (VRs Z w vs) ob
 | .recd c l=>KvR Z (Z.I.flds c) (VRs Z w l) ob
structure Sim (Z:Zt) (w:GW) (σ:H) (h:Heap):Prop where
 base:∀ a o,Z.h₀.get? a = some o→w.im a = some o
 sys:∃ o,Z.h₀.get? sysModules = some o
 im:∀ a o,w.im a = some o→h.get? a = some o
 len:w.ph.length = σ.length
 obj:∀ (i:Nat) (o:O) (a:Addr),σ[i]? = some o→w.ph[i]? = some a→∃ ob,h.get? a = some ob∧OR Z w ob o
 nd:w.ph.Nodup
 out:∀ a,a ∈ w.ph→w.im a = none
structure WLe (w w':GW):Prop where
 im:∀ a o,w.im a = some o→w'.im a = some o
 ph:∀ (i:Nat) (a:Addr),w.ph[i]? = some a→w'.ph[i]? = some a
structure Ext (w:GW) (h:Heap) (w':GW):Prop where
 im:∀ a o,w.im a = some o→w'.im a = some o
 new:∀ a o,w'.im a = some o→w.im a = some o∨h.get? a = none
 ph:∃ t,w'.ph = w.ph ++ t∧∀ a ∈ t,h.get? a = none
noncomputable def Keep (w:GW) (h h':Heap):Prop:=∀ a o,h.get? a = some o→a ∉ w.ph→h'.get? a = some o
structure Post (Z:Zt) (w:GW) (s:Shared) (σ':H) (w':GW) (s':Shared):Prop where
 sim:Sim Z w' σ' s'.heap
 ext:Ext w s.heap w'
 keep:Keep w s.heap s'.heap
 gens:s'.gens = s.gens
 drawn:s'.drawn = s.drawn
 os:s'.os = s.os
section
variable {Z:Zt} {w w' w'':GW} {h h' h'':Heap}
theorem not_some {α:Type} {o:Option α} (h:∀ x,o ≠ some x):o = none:=o.casesOn (motive:=λo=>(∀ x,o ≠ some x)→o = none) (λ_=>rfl) (λx h=>absurd rfl (h x)) h
theorem no_so {α:Type} {o:Option α} {x:α} {G:Prop} (h:o = none) (e:o = some x):G:=nn (h.symm.trans e)
theorem some_eq {α:Type} {o:Option α} {x y:α} (h:o = some x) (e:o = some y):x = y:=Option.some.inj (h.symm.trans e)
theorem WLe.refl:WLe w w:=⟨λ_ _ e=>e,λ_ _ e=>e⟩
theorem WLe.trans (x:WLe w w') (y:WLe w' w''):WLe w w'':=⟨λa o e=>y.im a o (x.im a o e),λi a e=>y.ph i a (x.ph i a e)⟩
theorem Ext.refl (h:Heap):Ext w h w:=⟨λ_ _ e=>e,λ_ _ e=>.inl e,[],(List.append_nil _).symm,λ_ h=>nomatch h⟩
theorem Ext.ph_get (x:Ext w h w') {i:Nat} {a:Addr} (e:w.ph[i]? = some a):w'.ph[i]? = some a:=
 x.ph.elim λt q=>by rw [q.1,List.getElem?_append_left (List.getElem?_eq_some_iff.mp e).1]; exact e
theorem Ext.le (x:Ext w h w'):WLe w w':=⟨x.im,λ_ _ e=>x.ph_get e⟩
theorem Ext.notin (x:Ext w h w') {a:Addr} {o:Obj} (e:h.get? a = some o) (n:a ∉ w.ph):a ∉ w'.ph:=
 x.ph.elim λt q m=>(List.mem_append.mp (q.1 ▸ m)).elim n λm=>no_so (q.2 a m) e
theorem Ext.imNone (x:Ext w h w') {b:Addr} {o:Obj} (e:h.get? b = some o) (n:w.im b = none):w'.im b = none:=
 not_some λo' q=>(x.new b o' q).elim (no_so n) λz=>no_so z e
theorem Keep.refl (h:Heap):Keep w h h:=λ_ _ e _=>e
theorem Keep.trans (x:Keep w h h') (e:Ext w h w') (y:Keep w' h' h''):Keep w h h'':=λa o q n=>y a o (x a o q n) (e.notin q n)
theorem Ext.trans (x:Ext w h w') (y:Ext w' h' w'') (hs:∀ a,h'.get? a = none→h.get? a = none):Ext w h w'':=
 ⟨λa o e=>y.im a o (x.im a o e),λa o e=>(y.new a o e).elim (x.new a o) λq=>.inr (hs a q),x.ph.elim λt q=>y.ph.elim λu p=>
  ⟨t ++ u,by rw [p.1,q.1,List.append_assoc],λa m=>(List.mem_append.mp m).elim (q.2 a) λm=>hs a (p.2 a m)⟩⟩
theorem SeqR.imp {ob:Array Value→Nat→Obj} {g g':Get} {P P':Pl} {c:Value} (hg:∀ a o,g a = some o→g' a = some o) (hP:∀ cs,P cs→P' cs):SeqR ob g P c→SeqR ob g' P' c
 | .mk a xs n h r=>.mk a xs n (hg _ _ h) (hP _ r)
theorem KvR.imp {ks:List Str} {P P':Pl} {o:Obj} (hP:∀ cs,P cs→P' cs):KvR Z ks P o→KvR Z ks P' o
 | .mk kvs d e r=>.mk kvs d e (hP _ r)
theorem LstO.imp {P P':Pl} {o:Obj} (hP:∀ cs,P cs→P' cs):LstO P o→LstO P' o
 | .mk xs n r=>.mk xs n (hP _ r)
theorem DctR.imp {ks:List Str} {g g':Get} {P P':Pl} {c:Value} (hg:∀ a o,g a = some o→g' a = some o) (hP:∀ cs,P cs→P' cs):DctR Z g ks P c→DctR Z g' ks P' c
 | .mk a o h n r=>.mk a o (hg _ _ h) n (r.imp hP)
theorem InsR.imp {cl:Nat} {g g':Get} {P P':Pl} {c:Value} (hg:∀ a o,g a = some o→g' a = some o) (hP:∀ cs,P cs→P' cs):InsR Z g cl P c→InsR Z g' cl P' c
 | .mk a d o h h2 r=>.mk a d o (hg _ _ h) (hg _ _ h2) (r.imp hP)
theorem ConsR.imp {P P':Value→Prop} {R R':Pl} {cs:List Value} (h1:∀ c,P c→P' c) (h2:∀ r,R r→R' r):ConsR P R cs→ConsR P' R' cs
 | .mk c r a b=>.mk c r (h1 _ a) (h2 _ b)
mutual
theorem VR.le (x:WLe w w'):∀ {v:V} {c:Value},VR Z w v c→VR Z w' v c
 | .none,_,h | .bool _,_,h | .int _,_,h | .str _,_,h=>h
 | .tup l,_,h | .lst l,_,h=>SeqR.imp x.im (λ_=>VRs.le x) h
 | .dct ks vs,_,h=>DctR.imp x.im (λ_=>VRs.le x) h
 | .ins cl l,_,h=>InsR.imp x.im (λ_=>VRs.le x) h
 | .ref i,_,.mk a e=>.mk a (x.ph _ _ e)
 | .obj cl i,_,.mk a d e f=>.mk a d (x.im _ _ e) (x.ph _ _ f)
theorem VRs.le (x:WLe w w'):∀ {l:List V} {cs:List Value},VRs Z w l cs→VRs Z w' l cs
 | [],_,h=>h
 | v :: l,_,h=>ConsR.imp (λ_=>VR.le x) (λ_=>VRs.le x) h
end
theorem VR.ext (x:Ext w h w') {v:V} {c:Value} (r:VR Z w v c):VR Z w' v c:=r.le x.le
theorem VRs.ext (x:Ext w h w') {v:List V} {c:List Value} (r:VRs Z w v c):VRs Z w' v c:=r.le x.le
theorem OR.le (x:WLe w w') {ob:Obj}:∀ {o:O},OR Z w ob o→OR Z w' ob o
 | .list l,h=>LstO.imp (λ_=>VRs.le x) h
 | .dict ks vs,h=>KvR.imp (λ_=>VRs.le x) h
 | .recd c l,h=>KvR.imp (λ_=>VRs.le x) h
theorem OR.ext (x:Ext w h w') {ob:Obj} {o:O} (r:OR Z w ob o):OR Z w' ob o:=r.le x.le
theorem VRs.nil:VRs Z w [] []:=rfl
theorem VRs.cons {v:V} {c:Value} {l:List V} {r:List Value} (h1:VR Z w v c) (h2:VRs Z w l r):VRs Z w (v :: l) (c :: r):=.mk c r h1 h2
@[elab_as_elim] theorem VRs.nil_is {M:Pl} {cs:List Value} (h:VRs Z w [] cs) (m:M []):M cs:=Eq.subst (motive:=M) h m
@[elab_as_elim] theorem VRs.cons_is {M:Pl} {v:V} {l:List V} {cs:List Value} (h:VRs Z w (v :: l) cs) (m:∀ c r,VR Z w v c→VRs Z w l r→M (c :: r)):M cs:=ConsR.casesOn (motive:=λcs _=>M cs) h m
theorem VRs.length:∀ {l:List V} {cs:List Value},VRs Z w l cs→cs.length = l.length
 | [],_,h=>h.nil_is rfl
 | _ :: _,_,h=>h.cons_is λ_ _ _ h=>congrArg (· + 1) h.length
theorem VRs.append:∀ {l m:List V} {cs ds:List Value},VRs Z w l cs→VRs Z w m ds→VRs Z w (l ++ m) (cs ++ ds)
 | [],_,_,_,h,g=>h.nil_is g
 | _ :: _,_,_,_,h,g=>h.cons_is λ_ _ h1 h2=>.cons h1 (h2.append g)
theorem VRs.get:∀ {l:List V} {cs:List Value} {i:Nat} {v:V},VRs Z w l cs→l[i]? = some v→∃ c,cs[i]? = some c∧VR Z w v c
 | [],_,_,_,_,e=>nn e
 | _ :: _,_,0,_,h,e=>h.cons_is λc _ h1 _=>⟨c,rfl,Option.some.inj e ▸ h1⟩
 | _ :: _,_,i + 1,_,h,e=>h.cons_is λ_ _ _ h2=>h2.get (i:=i) e
theorem VRs.one {v:V} {c:Value} (h:VR Z w v c):VRs Z w [v] [c]:=.cons h .nil
theorem VRs.reverse:∀ {l:List V} {cs:List Value},VRs Z w l cs→VRs Z w l.reverse cs.reverse
 | [],_,h=>h.nil_is .nil
 | _ :: _,_,h=>h.cons_is λ_ _ h1 h2=>by rw [List.reverse_cons,List.reverse_cons]; exact h2.reverse.append (.one h1)
theorem VRs.drop:∀ {l:List V} {cs:List Value} (n:Nat),VRs Z w l cs→VRs Z w (l.drop n) (cs.drop n)
 | _,_,0,h=>h
 | [],_,_ + 1,h=>h.nil_is .nil
 | _ :: _,_,n + 1,h=>h.cons_is λ_ _ _ h2=>h2.drop n
theorem VRs.take:∀ {l:List V} {cs:List Value} (n:Nat),VRs Z w l cs→VRs Z w (l.take n) (cs.take n)
 | _,_,0,_=>.nil
 | [],_,_ + 1,h=>h.nil_is .nil
 | _ :: _,_,n + 1,h=>h.cons_is λ_ _ h1 h2=>.cons h1 (h2.take n)
theorem VRs.set:∀ {l:List V} {cs:List Value} (n:Nat) {v:V} {c:Value},VRs Z w l cs→VR Z w v c→VRs Z w (l.set n v) (cs.set n c)
 | [],_,_,_,_,h,_=>h.nil_is .nil
 | _ :: _,_,0,_,_,h,g=>h.cons_is λ_ _ _ h2=>.cons g h2
 | _ :: _,_,n + 1,_,_,h,g=>h.cons_is λ_ _ h1 h2=>.cons h1 (h2.set n g)
variable {s s' s'' s0:Shared} {σ σ' σ'':H} {w0:GW} {t:Nat}
theorem Sim.there (x:Sim Z w σ h) {a:Addr} (ha:a ∈ w.ph):∃ o,h.get? a = some o:=
 (List.getElem?_of_mem ha).elim λi hi=>(x.obj i σ[i]! a (by rw [List.getElem!_eq_getElem?_getD,List.getElem?_eq_getElem (x.len ▸ (List.getElem?_eq_some_iff.mp hi).1)]; rfl) hi).elim λob q=>⟨ob,q.1⟩
theorem none_back (k:Keep w h h') (e:Ext w h w') (x:Sim Z w' σ h') {a:Addr} (n:h'.get? a = none):h.get? a = none:=
 not_some λo q=>if ha:a ∈ w.ph then e.ph.elim λt ht=>(x.there (ht.1 ▸ List.mem_append_left t ha)).elim λo' z=>no_so n z else no_so n (k a o q ha)
theorem Sim.grow (x:Sim Z w σ h) (hk:∀ b o,h.get? b = some o→h'.get? b = some o):Sim Z w σ h':=
 ⟨x.base,x.sys,λa o e=>hk _ _ (x.im a o e),x.len,λi o a e1 e2=>(x.obj i o a e1 e2).elim λob q=>⟨ob,hk _ _ q.1,q.2⟩,x.nd,x.out⟩
theorem Post.refl (x:Sim Z w σ s.heap):Post Z w s σ w s:=⟨x,.refl _,.refl _,rfl,rfl,rfl⟩
theorem Post.trans (x:Post Z w s σ' w' s') (y:Post Z w' s' σ'' w'' s''):Post Z w s σ'' w'' s'':=
 ⟨y.sim,x.ext.trans y.ext (λ_ n=>none_back x.keep x.ext x.sim n),x.keep.trans x.ext y.keep,y.gens.trans x.gens,y.drawn.trans x.drawn,y.os.trans x.os⟩
theorem Post.grow (x:Post Z w s σ' w' s') (hk:∀ b o,s'.heap.get? b = some o→h'.get? b = some o):Post Z w s σ' w' { s' with heap:=h',toks:=t }:=
 ⟨x.sim.grow hk,x.ext,λa o e n=>hk _ _ (x.keep a o e n),x.gens,x.drawn,x.os⟩
theorem Post.tok (x:Post Z w s σ' w' s'):Post Z w s σ' w' { s' with toks:=t }:=x.grow λ_ _ e=>e
theorem Post.self (x:Sim Z w σ s.heap):Post Z w s σ w { s with toks:=t }:=(Post.refl x).tok
theorem Sim.keeps (x:Sim Z w σ s.heap) (a:Addr) (o:Obj) (e:Z.h₀.get? a = some o):s.heap.get? a = some o:=x.im _ _ (x.base _ _ e)
theorem Sim.no_im (x:Sim Z w σ h) {a:Addr} (ha:h.get? a = none):w.im a = none:=not_some λo e=>no_so ha (x.im a o e)
theorem Sim.no_ph (x:Sim Z w σ h) {a:Addr} (ha:h.get? a = none):a ∉ w.ph:=λq=>(x.there q).elim λo e=>no_so ha e
theorem Post.gone {a:Addr} (x:Post Z w s σ' w' s') (n:s'.heap.get? a = none):s.heap.get? a = none:=none_back x.keep x.ext x.sim n
theorem get_top (h:Heap):h.get? h.objs.size = none:=not_some λo e=>Nat.lt_irrefl _ (Heap.lt_size e)
theorem Sim.sysSome (x:Sim Z w σ h) {a:Addr} (n:h.get? a = none):a ≠ sysModules:=λe=>x.sys.elim λo ho=>no_so n (x.im _ _ (x.base a o (e ▸ ho)))
theorem Sim.sysNot (x:Sim Z w σ h) {a:Addr} (ha:a ∈ w.ph):a ≠ sysModules:=λe=>x.sys.elim λo ho=>no_so (x.out a ha) (x.base a o (e ▸ ho))
noncomputable def GW.add (w:GW) (a:Addr) (o:Obj):GW:={ w with im:=λb=>if b = a then some o else w.im b }
theorem GW.add_self (w:GW) (a:Addr) (o:Obj):(w.add a o).im a = some o:=if_pos rfl
theorem GW.add_ne (w:GW) {a b:Addr} (o:Obj) (h:b ≠ a):(w.add a o).im b = w.im b:=if_neg h
theorem GW.add_cases (w:GW) {a b:Addr} {o q:Obj} {G:Prop} (e:(w.add a o).im b = some q) (k1:b = a→o = q→G) (k2:b ≠ a→w.im b = some q→G):G:=
 if hb:b = a then k1 hb (Option.some.inj ((if_pos hb).symm.trans e)) else k2 hb ((if_neg hb).symm.trans e)
theorem GW.add_im (w:GW) {a:Addr} {o:Obj} (hn:w.im a = none) (b:Addr) (q:Obj) (e:w.im b = some q):(w.add a o).im b = some q:=
 (if_neg λz:b = a=>no_so (z ▸ hn) e).trans e
theorem GW.add_ext (w:GW) {a:Addr} {o:Obj} (ha:h.get? a = none) (hn:w.im a = none):Ext w h (w.add a o):=
 ⟨w.add_im hn,λb q e=>w.add_cases e (λz _=>.inr (z ▸ ha)) λ_ e=>.inl e,[],(List.append_nil _).symm,λ_ h=>nomatch h⟩
theorem GW.add_le (w:GW) {a:Addr} {o:Obj} (hn:w.im a = none):WLe w (w.add a o):=⟨w.add_im hn,λ_ _ e=>e⟩
theorem Sim.add {a:Addr} {o:Obj} (x:Sim Z w σ h) (e:h.get? a = some o) (hn:w.im a = none) (hp:a ∉ w.ph):Sim Z (w.add a o) σ h:=
 ⟨λb q z=>w.add_im hn b q (x.base b q z),x.sys,λb q z=>w.add_cases z (λh1 h2=>h1 ▸ h2 ▸ e) λ_ z=>x.im b q z,x.len,λi ob b e1 e2=>(x.obj i ob b e1 e2).elim λq r=>⟨q,r.1,r.2.le (w.add_le hn)⟩,x.nd,
  fun b hb=>(w.add_ne o λz:b = a=>hp (z ▸ hb)).trans (x.out b hb)⟩
theorem Post.freeze {a:Addr} {o:Obj} (x:Post Z w s σ' w' s') (e:s'.heap.get? a = some o) (ha:s.heap.get? a = none) (hn:w'.im a = none) (hp:a ∉ w'.ph):Post Z w s σ' (w'.add a o) s':=
 ⟨x.sim.add e hn hp,x.ext.trans (h':=s.heap) (w'.add_ext ha hn) (λ_ n=>n),x.keep,x.gens,x.drawn,x.os⟩
theorem Post.push {o:Obj} (x:Post Z w s σ' w' s') (ho:o.isFreed = false):Post Z w s σ' (w'.add s'.heap.objs.size o) { s' with heap:=s'.heap.push o,toks:=t }:=
 (x.grow λ_ _ e=>Heap.get?_push_of_some _ e).freeze (Heap.get?_push_size _ ho) (x.gone (get_top _)) (x.sim.no_im (get_top _)) (x.sim.no_ph (get_top _))
theorem Post.pushed {o:Obj} (P:Post Z w0 s0 σ' w s):Post Z w0 s0 σ' w { s with heap:=s.heap.push o,toks:=t }:=P.grow λ_ _ e=>Heap.get?_push_of_some _ e
theorem snoc_get {α:Type} {l:List α} {a b:α} {i:Nat} {G:Prop} (e:(l ++ [a])[i]? = some b) (k1:l[i]? = some b→G) (k2:i = l.length→a = b→G):G:=
 if hi:i < l.length then k1 ((List.getElem?_append_left hi).symm.trans e) else
  k2 (by have:=(List.getElem?_eq_some_iff.mp e).1; rw [List.length_append] at this; exact Nat.le_antisymm (Nat.lt_succ_iff.mp this) (Nat.not_lt.mp hi)) (by
   have h1:i = l.length:=by have:=(List.getElem?_eq_some_iff.mp e).1; rw [List.length_append] at this; exact Nat.le_antisymm (Nat.lt_succ_iff.mp this) (Nat.not_lt.mp hi)
   rw [h1,List.getElem?_append_right (Nat.le_refl _),Nat.sub_self] at e; exact Option.some.inj e)
theorem Post.share {a:Addr} {ob:Obj} {o:O} (x:Post Z w s σ' w' s') (e:s'.heap.get? a = some ob) (ha:s.heap.get? a = none) (hn:w'.im a = none) (hp:a ∉ w'.ph) (r:OR Z w' ob o) :
 Post Z w s (σ' ++ [o]) { w' with ph:=w'.ph ++ [a] } s':=
 have hx:Ext w' s.heap { w' with ph:=w'.ph ++ [a] }:=⟨λ_ _ q=>q,λ_ _ q=>.inl q,[a],rfl,λb hb=>List.mem_singleton.mp hb ▸ ha⟩
 ⟨⟨x.sim.base,x.sim.sys,x.sim.im,by rw [List.length_append,List.length_append,x.sim.len]; rfl,λi q b e1 e2=>snoc_get e1 (λe1=>snoc_get e2 (λe2=>(x.sim.obj i q b e1 e2).elim λob' z=>⟨ob',z.1,z.2.ext hx⟩)
  fun h1 _=>absurd (List.getElem?_eq_some_iff.mp e1).1 (by rw [h1,x.sim.len]; exact Nat.lt_irrefl _)) λh1 h2=>snoc_get e2 (λe2=>absurd (List.getElem?_eq_some_iff.mp e2).1 (by rw [h1,x.sim.len]; exact Nat.lt_irrefl _)) λ_ h3=>⟨ob,h3 ▸ e,h2 ▸ r.ext hx⟩,
  List.nodup_append.mpr ⟨x.sim.nd,List.nodup_cons.mpr ⟨(λh=>nomatch h),List.nodup_nil⟩,λb hb c hc q=>hp (List.mem_singleton.mp hc ▸ q ▸ hb)⟩,λb hb=>(List.mem_append.mp hb).elim (x.sim.out b) λq=>List.mem_singleton.mp q ▸ hn⟩,x.ext.trans hx (λ_ n=>n),x.keep,x.gens,x.drawn,x.os⟩
end
structure EnvOK (sc:List (Str×NameKind)) (env:Env):Prop where
 kind:env.scope.kind = .function
 names:env.scope.names = sc
 glob:env.globals = mainGlobals
 bi:env.builtins = builtinsNs
theorem EnvOK.kindOf {sc:List (Str×NameKind)} {env:Env} (h:EnvOK sc env) (x:Str):env.kindOf x = sc.lookup x:=by rw [Env.kindOf,h.names]
theorem EnvOK.block {sc:List (Str×NameKind)} {env:Env} (h:EnvOK sc env):env.blockKind = .function:=by rw [Env.blockKind,h.kind]; rfl
structure Blk where
 lo:Heap
 st:Str→Bool
 tab:Tab
 sc:List (Str×NameKind)
 env:Env
noncomputable def TabOk (tab:Tab):Prop:=∀ i x j y,(i,x) ∈ tab→(j,y) ∈ tab→(i = j ↔ x = y)
structure BlkOK (B:Blk):Prop where
 env:EnvOK B.sc B.env
 tab:TabOk B.tab
 cel:∀ x,(B.sc.lookup x = some .cell∨B.sc.lookup x = some .free)→(B.env.cells.lookup x).isSome = true
structure Base (Z:Zt) (h₀:Heap):Prop where
 k:Z.I.K.In h₀
 g:h₀.Ns mainGlobals Z.mg
 b:h₀.Ns builtinsNs Z.mb
 nolimit:h₀.NoLimit
 builtins:∀ x:Str,x ≠ "__name__"→Z.mb x = bootBuiltins x
 digits:∃ mc,h₀.Ns cStatics mc∧mc "sys.int_max_str_digits" = none
 sys:∃ o,h₀.get? sysModules = some o
noncomputable def Look1 (env:Env) (h:Heap) (m:Str→Option Value) (x:Str) (c:Value):Prop:=
 (env.kindOf x = some .local∧m x = some c)∨((env.kindOf x = some .cell∨env.kindOf x = some .free)∧∃ a,env.cells.lookup x = some a∧h.IsCell a (some c))
structure Priv (w:GW) (a:Addr):Prop where
 im:w.im a = none
 ph:a ∉ w.ph
inductive OwnR (Z:Zt) (lo:Heap) (w:GW) (h:Heap) (l:List V):Value→Prop
 | mk (a:Addr) (xs:Array Value) (n:Nat):h.get? a = some (lstO xs n)→VRs Z w l xs.toList→Priv w a→lo.get? a = none→OwnR Z lo w h l (.ref a)
noncomputable def SlotR (Z:Zt) (lo:Heap) (w:GW) (h:Heap) (sl:Slot):Value→Prop:=sl.casesOn (VR Z w) (OwnR Z lo w h)
noncomputable def Mut (B:Blk) (ρ:Rho) (cv:Nat→Value) (b:Addr):Prop:=
 b = B.env.locals∨(∃ x,B.env.cells.lookup x = some b)∨∃ i x l,(i,x) ∈ B.tab∧getS ρ i = some (.own l)∧cv i = .ref b
structure CellAt (B:Blk) (w:GW) (h:Heap) (x:Str) (a:Addr):Prop where
 is:∃ v,h.IsCell a v
 pr:Priv w a
 new:B.st x = true→B.lo.get? a = none
structure ER (Z:Zt) (B:Blk) (w:GW) (ρ:Rho) (h:Heap) (m:Str→Option Value) (cv:Nat→Value):Prop where
 ns:h.Ns B.env.locals m
 pr:Priv w B.env.locals
 bnd:B.lo.get? B.env.locals = none
 cell:∀ x a,B.env.cells.lookup x = some a→CellAt B w h x a
 capart:∀ x y a,B.env.cells.lookup x = some a→B.env.cells.lookup y = some a→x = y
 val:∀ i x,(i,x) ∈ B.tab→∀ sl,getS ρ i = some sl→Look1 B.env h m x (cv i)∧SlotR Z B.lo w h sl (cv i)
 own:∀ i j l l',i ≠ j→(∃ x,(i,x) ∈ B.tab)→(∃ y,(j,y) ∈ B.tab)→getS ρ i = some (.own l)→getS ρ j = some (.own l')→cv i ≠ cv j
noncomputable def BR (Z:Zt) (B:Blk) (ρ:Rho) (w:GW) (h:Heap):Prop:=∃ m cv,ER Z B w ρ h m cv
inductive VB (Z:Zt) (w:GW) (h:Heap):V→Value→Prop
 | v {v:V} {c:Value}:VR Z w v c→VB Z w h v c
 | own {l:List V} (a:Addr) (xs:Array Value) (n:Nat):h.get? a = some (lstO xs n)→VRs Z w l xs.toList→a ∉ w.ph→VB Z w h (.lst l) (.ref a)
noncomputable def RD (Z:Zt) (w:GW) (h:Heap) (v:V) (c:Value):Prop:=
 v.casesOn (VR Z w .none c) (λb=>VR Z w (.bool b) c) (λi=>VR Z w (.int i) c) (λx=>VR Z w (.str x) c) (λl=>VR Z w (.tup l) c) (λl=>SeqR lstO h.get? (VRs Z w l) c) (λks vs=>DctR Z h.get? ks (VRs Z w vs) c) (λcl l=>VR Z w (.ins cl l) c) (λi=>VR Z w (.ref i) c) (λcl i=>VR Z w (.obj cl i) c)
section
variable {Z:Zt} {w w':GW} {h h':Heap} {s s':Shared} {σ σ':H} {B:Blk} {ρ:Rho} {m m':Str→Option Value} {cv:Nat→Value} {lo:Heap} {v:V} {c:Value}
theorem Priv.new {a:Addr} (x:Sim Z w σ h) (n:h.get? a = none):Priv w a:=⟨x.no_im n,x.no_ph n⟩
theorem Priv.ext {a:Addr} {o:Obj} (p:Priv w a) (x:Ext w h w') (e:h.get? a = some o):Priv w' a:=⟨x.imNone e p.im,x.notin e p.ph⟩
theorem Post.still {a:Addr} {o:Obj} (x:Post Z w s σ' w' s') (e:s.heap.get? a = some o) (p:Priv w a):s'.heap.get? a = some o∧Priv w' a:=⟨x.keep a _ e p.ph,p.ext x.ext e⟩
theorem ER.there (r:ER Z B w ρ h m cv) {b:Addr} (q:Mut B ρ cv b):(∃ o,h.get? b = some o)∧Priv w b:=
 q.elim (λq=>r.ns.elim λo ⟨_,_,ho,_⟩=>⟨⟨o,q ▸ ho⟩,q ▸ r.pr⟩) λq=>q.elim (λ⟨x,q⟩=>(r.cell x b q).is.elim λ_ ⟨o,ho,_⟩=>⟨⟨o,ho⟩,(r.cell x b q).pr⟩) λ⟨i,x,l,hi,hs,e⟩=>
  OwnR.casesOn (motive:=λc _=>c = .ref b→(∃ o,h.get? b = some o)∧Priv w b) (r.val i x hi _ hs).2 (λa xs n g _ p _ e=>Value.ref.inj e ▸ ⟨⟨_,g⟩,p⟩) e
theorem Look1.keep {x:Str} {c:Value} (l:Look1 B.env h m x c) (hk:∀ y a,B.env.cells.lookup y = some a→∀ o,h.get? a = some o→h'.get? a = some o):Look1 B.env h' m x c:=
 l.elim .inl λ⟨k,a,e,o,ho,hd⟩=>.inr ⟨k,a,e,o,hk x a e o ho,hd⟩
theorem ER.move (r:ER Z B w ρ h m cv) (hle:WLe w w') (hk:∀ b o,Mut B ρ cv b→h.get? b = some o→h'.get? b = some o∧Priv w' b):ER Z B w' ρ h' m cv where
 ns:=let ⟨o,es,ep,ho,q⟩:=r.ns; ⟨o,es,ep,(hk _ o (.inl rfl) ho).1,q⟩
 pr:=r.ns.elim λo ⟨_,_,ho,_⟩=>(hk _ o (.inl rfl) ho).2
 bnd:=r.bnd
 cell:=λx a e=>let q:=r.cell x a e; q.is.elim λv ⟨o,ho,hd⟩=>have z:=hk a o (.inr (.inl ⟨x,e⟩)) ho; ⟨⟨v,o,z.1,hd⟩,z.2,q.new⟩
 capart:=r.capart
 val:=λi x hi sl hs=>have q:=r.val i x hi sl hs
  ⟨q.1.keep λy a e o ho=>(hk a o (.inr (.inl ⟨y,e⟩)) ho).1,match sl,q.2,hs with
   | .v v,z,_=>VR.le hle z
   | .own l,z,hs=>OwnR.casesOn (motive:=λc _=>cv i = c→OwnR Z B.lo w' h' l c) z (λa xs n g rr p hl e=>have y:=hk a _ (.inr (.inr ⟨i,x,l,hi,hs,e⟩)) g; .mk a xs n y.1 (rr.le hle) y.2 hl) rfl⟩
 own:=r.own
theorem ER.post (r:ER Z B w ρ s.heap m cv) (x:Post Z w s σ' w' s'):ER Z B w' ρ s'.heap m cv:=r.move x.ext.le λb o q e=>x.still e (r.there q).2
theorem BR.post (r:BR Z B ρ w s.heap) (P:Post Z w s σ w' s'):BR Z B ρ w' s'.heap:=let ⟨m,cv,r⟩:=r; ⟨m,cv,r.post P⟩
theorem VB.post (x:Post Z w s σ' w' s'):VB Z w s.heap v c→VB Z w' s'.heap v c
 | .v r=>.v (r.ext x.ext)
 | .own a xs n g r p=>.own a xs n (x.keep a _ g p) (r.ext x.ext) (x.ext.notin g p)
theorem RD.of_VR (x:Sim Z w σ h) (r:VR Z w v c):RD Z w h v c:=match v,r with
 | .lst _,r=>r.imp x.im λ_=>id
 | .dct _ _,r=>r.imp x.im λ_=>id
 | .none,r | .bool _,r | .int _,r | .str _,r | .tup _,r | .ins _ _,r | .ref _,r | .obj _ _,r=>r
theorem RD.of_ref (x:Sim Z w σ h) {i:Nat}:VR Z w (.ref i) c→RD Z w h (dr σ (.ref i)) c
 | .mk a hi=>show RD Z w h (drO (.ref i) σ[i]?) (.ref a) from match e:σ[i]? with
  | none | some (.recd _ _)=>.mk a hi
  | some (.list l)=>(x.obj i _ a e hi).elim λob q=>LstO.casesOn (motive:=λob _=>h.get? a = some ob→_) q.2 (λxs n r g=>.mk a xs n g r) q.1
  | some (.dict ks vs)=>(x.obj i _ a e hi).elim λob q=>.mk a ob q.1 (x.sysNot (List.mem_of_getElem? hi)) q.2
theorem RD.of_dr (x:Sim Z w σ h) (r:VR Z w v c):RD Z w h (dr σ v) c:=match v,r with
 | .ref _,r=>.of_ref x r
 | .none,r | .bool _,r | .int _,r | .str _,r | .tup _,r | .ins _ _,r | .lst _,r | .dct _ _,r | .obj _ _,r=>.of_VR x r
theorem RD.of_VB (x:Sim Z w σ h):VB Z w h v c→RD Z w h (dr σ v) c
 | .v r=>.of_dr x r
 | .own a xs n g r _=>.mk a xs n g r
variable {A:Around} {E:Value→Shared→Prop}
theorem load_at {Q:Value→Shared→Prop} {x:Str} (O:EnvOK B.sc B.env) (n:s.heap.Ns B.env.locals m) (l:Look1 B.env s.heap m x c) (hc:(x == ("__classdict__":Str)) = false) (h:Q c s):wpAny Z.M A (loadName B.env x) Q E s:=
 l.elim (λl=>wpAny_loadName_local O.kind l.1 n l.2 h) λ⟨k,a,e,hcell⟩=>k.elim (λk=>wpAny_loadName_cell O.kind k e hcell h) λk=>wpAny_loadName_free O.kind k e hcell h hc
theorem getS_set (ρ:Rho) (i j:Nat) (sl:Slot):getS (ρ.set i (some sl)) j = if j = i then (if i < ρ.length then some sl else none) else getS ρ j:=by
 unfold getS
 rw [List.getElem?_set]
 by_cases h:j = i
 · subst h
   by_cases hl:j < ρ.length <;> simp [hl]
 · rw [if_neg h,if_neg (Ne.symm h)]
theorem set_is {G:Prop} {i j:Nat} {sl sl':Slot} (e:getS (ρ.set i (some sl)) j = some sl') (k1:j = i→i < ρ.length→sl = sl'→G) (k2:j ≠ i→getS ρ j = some sl'→G):G:=by
 rw [getS_set] at e
 by_cases h:j = i
 · rw [if_pos h] at e
   by_cases hl:i < ρ.length
   · rw [if_pos hl] at e; exact k1 h hl (Option.some.inj e)
   · rw [if_neg hl] at e; exact nn e
 · rw [if_neg h] at e; exact k2 h e
theorem put_is (cv:Nat→Value) {i j:Nat} {c:Value} {M:Value→Prop} (k1:j = i→M c) (k2:j ≠ i→M (cv j)):M (if j = i then c else cv j):=
 if h:j = i then by rw [if_pos h]; exact k1 h else by rw [if_neg h]; exact k2 h
theorem Post.touch {wE:GW} {sE:Shared} {a:Addr} {t:Nat} (P:Post Z wE sE σ w s) (ha:sE.heap.get? a = none) (p:Priv w a) (hs:Heap.SameBut a s.heap h'):Post Z wE sE σ w { s with heap:=h',toks:=t }:=
 have g:∀ b o,b ≠ a→s.heap.get? b = some o→h'.get? b = some o:=λb o hb e=>(hs.2 b hb).trans e
 ⟨⟨P.sim.base,P.sim.sys,λb o e=>g b o (λq=>no_so p.im (q ▸ e)) (P.sim.im _ _ e),P.sim.len,λi o b e1 e2=>(P.sim.obj i o b e1 e2).elim λob q=>⟨ob,g b _ (λz=>p.ph (z ▸ List.mem_of_getElem? e2)) q.1,q.2⟩,P.sim.nd,P.sim.out⟩,P.ext,
  fun b o e n=>g b o (λq=>no_so ha (q ▸ e)) (P.keep b o e n),P.gens,P.drawn,P.os⟩
noncomputable def NoLst (h:Heap) (a:Addr):Prop:=∀ xs n,h.get? a ≠ some (lstO xs n)
theorem SlotR.other {a:Addr} {sl:Slot} {c:Value} (hs:Heap.SameBut a h h') (hn:NoLst h a):SlotR Z lo w h sl c→SlotR Z lo w h' sl c:=match sl with
 | .v _=>id
 | .own _=>fun | .mk b xs n g r p l=>.mk b xs n ((hs.2 b λq=>hn xs n (q ▸ g)).trans g) r p l
theorem ER.put (r:ER Z B w ρ h m cv) (T:TabOk B.tab) {a:Addr} {i:Nat} {x:Str} {sl:Slot} (hi:(i,x) ∈ B.tab) (hs:Heap.SameBut a h h') (hn:NoLst h a) (ns:h'.Ns B.env.locals m') (hcell:∀ y b,B.env.cells.lookup y = some b→∃ v,h'.IsCell b v)
 (hx:Look1 B.env h' m' x c) (hy:∀ y c,y ≠ x→Look1 B.env h m y c→Look1 B.env h' m' y c) (hsl:SlotR Z B.lo w h sl c) (hown:∀ l,sl = .own l→∀ j l',j ≠ i→(∃ y,(j,y) ∈ B.tab)→getS ρ j = some (.own l')→cv j ≠ c) :
 ER Z B w (ρ.set i (some sl)) h' m' (λj=>if j = i then c else cv j) where
 ns:=ns
 pr:=r.pr
 bnd:=r.bnd
 cell:=λy b e=>⟨hcell y b e,(r.cell y b e).pr,(r.cell y b e).new⟩
 capart:=r.capart
 val:=λj y hj sl' e=>set_is e (λh1 _ h2=>put_is cv (M:=λz=>Look1 B.env h' m' y z∧SlotR Z B.lo w h' sl' z) (λ_=>h2 ▸ (T i x j y hi hj).mp h1.symm ▸ ⟨hx,hsl.other hs hn⟩) λq=>absurd h1 q)
  fun h1 e=>put_is cv (M:=λz=>Look1 B.env h' m' y z∧SlotR Z B.lo w h' sl' z) (λq=>absurd q h1) λ_=>have q:=r.val j y hj sl' e; ⟨hy y _ (λq=>h1 ((T j y i x hj hi).mpr q)) q.1,q.2.other hs hn⟩
 own:=λj k l l' hjk hj hk e1 e2=>set_is e1
  (λa1 _ b1=>set_is e2 (λa2 _ _=>absurd (a1.trans a2.symm) hjk) λa2 e2=>put_is cv (M:=λz=>z ≠ (if k = i then c else cv k)) (λ_=>put_is cv (M:=λz=>c ≠ z) (λq=>absurd q a2) λ_=>(hown l b1 k l' a2 hk e2).symm) λq=>absurd a1 q)
  fun a1 e1=>set_is e2 (λa2 _ b2=>put_is cv (M:=λz=>z ≠ (if k = i then c else cv k)) (λq=>absurd q a1) λ_=>put_is cv (M:=λz=>cv j ≠ z) (λ_=>hown l' b2 j l a1 hj e1) λq=>absurd a2 q)
   fun a2 e2=>put_is cv (M:=λz=>z ≠ (if k = i then c else cv k)) (λq=>absurd q a1) λ_=>put_is cv (M:=λz=>cv j ≠ z) (λq=>absurd q a2) λ_=>r.own j k l l' hjk hj hk e1 e2
noncomputable def storable (B:Blk) (x:Str):Prop:=B.sc.lookup x = some .local∨(B.sc.lookup x = some .cell∧(B.env.cells.lookup x).isSome = true)
theorem ns_data {a b:Addr} {v:Option Value} (n:h.Ns a m) (c:h.IsCell b v):b ≠ a:=λq=>let ⟨_,_,_,h1,h2,_⟩:=n; let ⟨_,h3,h4⟩:=c; nomatch h4.symm.trans ((congrArg Obj.data (some_eq (q ▸ h3) h1)).trans h2)
theorem ns_noLst {a:Addr} (n:h.Ns a m):NoLst h a:=λ_ _ e=>let ⟨_,_,_,h1,h2,_⟩:=n; nomatch h2.symm.trans (congrArg Obj.data (some_eq h1 e))
theorem cell_noLst {a:Addr} {v:Option Value} (n:h.IsCell a v):NoLst h a:=λ_ _ e=>let ⟨_,h1,h2⟩:=n; nomatch h2.symm.trans (congrArg Obj.data (some_eq h1 e))
theorem store_ok {wE:GW} {sE:Shared} {Q:Unit→Shared→Prop} (K:BlkOK B) (P:Post Z wE sE σ w s) (r:ER Z B w ρ s.heap m cv) {i:Nat} {x:Str} {sl:Slot} {c:Value} (hi:(i,x) ∈ B.tab) (hk:storable B x)
 (hb:sE.heap.get? B.env.locals = none) (hb':∀ a,B.env.cells.lookup x = some a→sE.heap.get? a = none) (hsl:SlotR Z B.lo w s.heap sl c) (hown:∀ l,sl = .own l→∀ j l',j ≠ i→(∃ y,(j,y) ∈ B.tab)→getS ρ j = some (.own l')→cv j ≠ c)
 (h:∀ h' tk m',Post Z wE sE σ w { s with heap:=h',toks:=tk }→ER Z B w (ρ.set i (some sl)) h' m' (λj=>if j = i then c else cv j)→
  (∀ b o,b ≠ B.env.locals→(∀ a,B.env.cells.lookup x = some a→b ≠ a)→s.heap.get? b = some o→h'.get? b = some o)→h'.objs.size = s.heap.objs.size→Q () { s with heap:=h',toks:=tk }) :
 wpAny Z.M A (storeName B.env x c) Q E s:=
 hk.elim (λhk=>
  have hk':=(K.env.kindOf x).trans hk
  wpAny_storeName_local hk' r.ns (λh' hn hs=>h h' _ _ (P.touch hb r.pr hs)
   (r.put K.tab hi hs (ns_noLst r.ns) hn (λy b e=>(r.cell y b e).is.elim λv q=>⟨v,let ⟨o,ho,hd⟩:=q; ⟨o,(hs.2 b (ns_data r.ns q)).trans ho,hd⟩⟩) (.inl ⟨hk',if_pos rfl⟩)
    (λy c hy l=>l.elim (λl=>.inl ⟨l.1,(if_neg hy).trans l.2⟩) λ⟨k,a,e,q⟩=>.inr ⟨k,a,e,let ⟨o,ho,hd⟩:=q; ⟨o,(hs.2 a (ns_data r.ns q)).trans ho,hd⟩⟩) hsl hown)
   (λb o hb _ e=>(hs.2 b hb).trans e) hs.1) (by rw [K.env.kind]; rfl))
 fun ⟨hk,hcs⟩=>(Option.isSome_iff_exists.mp hcs).elim λa ha=>(r.cell x a ha).is.elim λv₀ hc0=>
  have hk':=(K.env.kindOf x).trans hk
  wpAny_storeName_cell K.env.kind hk' ha hc0 λh' hc hs=>h h' s.toks m (P.touch (hb' a ha) (r.cell x a ha).pr hs)
   (r.put K.tab hi hs (cell_noLst hc0) (r.ns.sameBut hs (ns_data r.ns hc0).symm) (λy b e=>if q:b = a then ⟨_,q ▸ hc⟩ else (r.cell y b e).is.elim λv ⟨o,ho,hd⟩=>⟨v,o,(hs.2 b q).trans ho,hd⟩) (.inr ⟨.inl hk',a,ha,hc⟩)
    (λy c hy l=>l.elim .inl λ⟨k,b,e,o,ho,hd⟩=>.inr ⟨k,b,e,o,(hs.2 b λz=>hy (r.capart y x a (z ▸ e) ha)).trans ho,hd⟩) hsl hown)
   (λb o _ hb e=>(hs.2 b (hb a ha)).trans e) hs.1
end
inductive QV (Z:Zt) (w:GW) (s:Shared) (σ':H) (v:V) (c:Value) (s':Shared):Prop
 | mk (w':GW):Post Z w s σ' w' s'→VR Z w' v c→QV Z w s σ' v c s'
noncomputable def FO (Z:Zt) (w:GW) (o:Obj) (v:V):Prop:=v.casesOn False (λ_=>False) (λ_=>False) (λ_=>False) (λ_=>False) (λl=>LstO (VRs Z w l) o) (λks vs=>KvR Z ks (VRs Z w vs) o) (λ_ _=>False) (λ_=>False) (λ_ _=>False)
inductive QF (Z:Zt) (w:GW) (s:Shared) (σ':H) (v:V):Value→Shared→Prop
 | mk {s':Shared} (w':GW) (a:Addr) (o:Obj):Post Z w s σ' w' s'→s'.heap.get? a = some o→s.heap.get? a = none→Priv w' a→a ≠ sysModules→FO Z w' o v→QF Z w s σ' v (.ref a) s'
noncomputable def isNew (v:V):Bool:=decide (v.ctorIdx = 5) || decide (v.ctorIdx = 6)
noncomputable def QX (Z:Zt) (w:GW) (s:Shared) (σ':H) (v:V):Value→Shared→Prop:=cond (isNew v) (QF Z w s σ' v) (QV Z w s σ' v)
section
variable {Z:Zt} {w w' w0:GW} {s s' s0:Shared} {σ σ' σ'':H} {v:V} {c:Value} {h h':Heap} {t:Nat}
theorem QF.toV:QF Z w s σ' v c s'→QV Z w s σ' v c s'
 | .mk w' a o P e n p sys f=>
  have x:=w'.add_le (o:=o) p.im
  .mk (w'.add a o) (P.freeze e n p.im p.ph) (match v,f with
   | .lst _,f=>LstO.casesOn (motive:=λob _=>o = ob→SeqR lstO (w'.add a o).im _ (.ref a)) f (λxs k r q=>.mk a xs k (q ▸ w'.add_self _ _) (r.le x)) rfl
   | .dct _ _,f=>.mk a o (w'.add_self _ _) sys (f.imp λ_ r=>r.le x))
theorem QX.toV (q:QX Z w s σ' v c s'):QV Z w s σ' v c s':=match h:isNew v with
 | true=>QF.toV (by unfold QX at q; rw [h] at q; exact q)
 | false=>by unfold QX at q; rw [h] at q; exact q
theorem QV.trans (P:Post Z w0 s0 σ w s):QV Z w s σ' v c s'→QV Z w0 s0 σ' v c s'
 | .mk w' p r=>.mk w' (P.trans p) r
theorem QF.trans (P:Post Z w0 s0 σ w s):QF Z w s σ' v c s'→QF Z w0 s0 σ' v c s'
 | .mk w' a o p g n q e f=>.mk w' a o (P.trans p) g (P.gone n) q e f
theorem QX.trans (P:Post Z w0 s0 σ w s) (q:QX Z w s σ' v c s'):QX Z w0 s0 σ' v c s':=by
 revert q
 unfold QX
 cases isNew v with
 | true=>exact QF.trans P
 | false=>exact QV.trans P
theorem allocs_ph {a:Addr} {ob:Obj} {o:O} (P:Post Z w s σ' w' s') (g:s'.heap.get? a = some ob) (n:s.heap.get? a = none) (p:Priv w' a) (r:OR Z w' ob o):QV Z w s (σ' ++ [o]) (.ref σ'.length) (.ref a) s':=
 .mk _ (P.share g n p.im p.ph r) (.mk a (by rw [← P.sim.len,List.getElem?_append_right (Nat.le_refl _),Nat.sub_self]; rfl))
theorem QF.shared {r:V}:QF Z w s σ' v c s'→allocs v σ' = some (r,σ'')→QV Z w s σ'' r c s'
 | .mk w' a o P g n p sys f,e=>match v,f,e with
  | .lst _,f,e=>pr_is (M:=λr σ''=>QV Z w s σ'' r (.ref a) s') e (allocs_ph (o:=.list _) P g n p f)
  | .dct _ _,f,e=>pr_is (M:=λr σ''=>QV Z w s σ'' r (.ref a) s') e (allocs_ph (o:=.dict _ _) P g n p f)
theorem QF.list {a:Addr} {l:List V} {xs:Array Value} {n:Nat} (x:Sim Z w σ s.heap) (hk:∀ b o,s.heap.get? b = some o→h'.get? b = some o) (hn:s.heap.get? a = none) (e:h'.get? a = some (lstO xs n)) (r:VRs Z w l xs.toList) :
 QF Z w s σ (.lst l) (.ref a) { s with heap:=h',toks:=t }:=.mk w a _ ((Post.refl x).grow hk) e hn (.new x hn) (x.sysSome hn) (.mk xs n r)
theorem QF.push {l:List V} {xs:Array Value} (x:Sim Z w σ s.heap) (r:VRs Z w l xs.toList):QF Z w s σ (.lst l) (.ref s.heap.objs.size) { s with heap:=s.heap.push (lstO xs 0),toks:=t }:=
 .list (n:=0) x (λ_ _ e=>Heap.get?_push_of_some _ e) (get_top _) (Heap.get?_push_size _ rfl) r
theorem QV.tuple {l:List V} {xs:Array Value} (x:Sim Z w σ s.heap) (r:VRs Z w l xs.toList):QV Z w s σ (.tup l) (.ref s.heap.objs.size) { s with heap:=s.heap.push (tupO xs 0),toks:=t }:=
 .mk _ ((Post.refl x).push (o:=tupO xs 0) rfl) (.mk _ xs 0 (w.add_self _ _) (r.le (w.add_le (x.no_im (get_top _)))))
theorem QV.here (x:Sim Z w σ s.heap) (r:VR Z w v c):QV Z w s σ v c { s with toks:=t }:=.mk w (Post.self x) r
theorem QV.grown (x:Sim Z w σ s.heap) (hk:∀ b o,s.heap.get? b = some o→h'.get? b = some o) (r:VR Z w v c):QV Z w s σ v c { s with heap:=h',toks:=t }:=.mk w ((Post.refl x).grow hk) r
theorem QV.is (x:Sim Z w σ s.heap) (r:VR Z w v c):QV Z w s σ v c s:=.mk w (Post.refl x) r
variable {A:Around} {E:Value→Shared→Prop}
structure Room (A:Around) (d:Nat):Prop where
 handled:A.handled = none
 depth:A.depth + 2 * d + 10 < 900
 units:A.units + 60 * d + 300 < 9000
noncomputable def opOf:Op→Operator
 | .add=>.Add | .sub=>.Sub | .mul=>.Mult | .fdiv=>.FloorDiv | .mod=>.Mod
theorem sizeLine_is:sizeLine = 16777216:=by decide
theorem le_line {n:Nat} (h:n ≤ 8000):n ≤ sizeLine:=by rw [sizeLine_is]; exact Nat.le_trans h (by decide)
theorem le_line2 {m n:Nat} (h:m ≤ 4000) (h':n ≤ 4000):m + n ≤ sizeLine:=le_line (Nat.add_le_add h h')
theorem small_is {a:Int} {G:Prop} (h:small a = true) (k:-9223372036854775808 < a→a < 9223372036854775808→G):G:=k (of_decide_eq_true (Bool.and_eq_true_iff.mp h).1) (of_decide_eq_true (Bool.and_eq_true_iff.mp h).2)
theorem intMul_ok {a b:Int} (ha:small a = true):IntMulOk a b:=small_is ha λh1 h2=>by
 have h1:=intBits_le_64 (k:=a) (by omega) (by omega)
 unfold IntMulOk
 rw [decide_eq_false (p:=Builtin.Int.intBits a > shortFactorBits) (Nat.not_lt.mpr h1)]
 exact λq=>nomatch q
theorem an2 {G:Prop} {a b:Bool} (h:(a && b) = true) (k:a = true→b = true→G):G:=k (Bool.and_eq_true_iff.mp h).1 (Bool.and_eq_true_iff.mp h).2
theorem an3 {G:Prop} {a b c:Bool} (h:(a && (b && c)) = true) (k:a = true→b = true→c = true→G):G:=an2 h λx h=>an2 h (k x)
theorem shortL_is {l:List V} (h:shortL l = true):l.length ≤ 4000:=Nat.le_of_ble_eq_true h
theorem shortS_is {l:Str} (h:shortStr l = true):l.length ≤ 4000:=Nat.le_of_ble_eq_true h
theorem tup_size {l:List V} {xs:Array Value} (r:VRs Z w l xs.toList):xs.size = l.length:=Array.length_toList.symm.trans r.length
theorem tup_short {l:List V} {xs:Array Value} (r:VRs Z w l xs.toList) (h:shortL l = true):xs.size ≤ 4000:=tup_size r ▸ shortL_is h
theorem VRs.replicate {l:List V} {cs:List Value} (r:VRs Z w l cs):∀ n:Nat,VRs Z w (List.replicate n l).flatten (List.replicate n cs).flatten
 | 0=>.nil
 | n + 1=>r.append (VRs.replicate r n)
theorem foldl_app (xs:Array Value):∀ (n:Nat) (acc:Array Value),(List.foldl (λx1 x2=>x1 ++ x2) acc (List.replicate n xs)).toList = acc.toList ++ (List.replicate n xs.toList).flatten
 | 0,acc=>(List.append_nil _).symm
 | n + 1,acc=>(foldl_app xs n (acc ++ xs)).trans (by rw [Array.toList_append,List.append_assoc]; rfl)
theorem repl_nil (xs:Array Value) (n:Nat) (h:xs.isEmpty = true):(List.replicate n xs.toList).flatten = []:=by
 have:xs.toList = []:=by simpa using h
 rw [this]; simp
theorem mulList_ok {x:Int} {u:Tok} {l:List V} {a:Addr} {xs:Array Value} {n:Nat} (X:Sim Z w σ s.heap) (ha:s.heap.get? a = some (lstO xs n)) (r:VRs Z w l xs.toList) (hs:small x = true) (hl:l.length * x.toNat ≤ 4000) :
 wpAny Z.M A (binaryOp .Mult (.ref a) (.int x u)) (QF Z w s σ (.lst (List.replicate x.toNat l).flatten)) E s:=by
 have hsz:=tup_size r
 have h:=small_is hs And.intro
 refine wpAny_mono (wpAny_binaryOp_repeat_ref (Q:=λc s'=>c = .ref s.heap.objs.size∧s' = { s with heap:=s.heap.push { cls:=.type "list",data:=.seq (List.foldl (λx1 x2=>x1 ++ x2) #[] (List.replicate (if xs.isEmpty = true then 0 else x.toNat) xs)) } }) (T:="list") (U:="int") (by decide) ⟨_,ha,rfl⟩ (λs'=>typeIs_int s' x u) noFill_list_mul F.fills_int_mul F.slot_int_rmul repeat_list F.slot_int_index.lookup
  (call_meets F.slot_int_rmul (typeIs_int s x u) F.entry_int_rmul (F.args_int_rmul_2 _ _) (int___rmul___int_list x u a xs n)
   ⟨ha,rfl,⟨_,ha,rfl⟩,call_meets F.slot_list_mul ⟨_,ha,rfl⟩ F.entry_list_mul (F.args_list_mul_2 _ _)
    (AutoListH.list___mul___list_int_3 a xs n x u (by simp [Builtin.List.listFitsIndex]; omega) (by rw [hsz]; omega) (by rw [hsz]; simp [Builtin.List.listTooLong,sizeLine]; omega))
    ⟨ha,rfl,rfl⟩⟩)) (λc s' ⟨h1,h2⟩=>h1 ▸ h2 ▸ QF.push X ?_) λ_ _ e=>e
 rw [foldl_app]
 have e:(List.replicate (if xs.isEmpty = true then 0 else x.toNat) xs.toList).flatten = (List.replicate x.toNat xs.toList).flatten:=by
  split
  · rename_i h; exact (repl_nil xs _ h).symm
  · rfl
 rw [e]
 exact r.replicate x.toNat
theorem nil_of {l:List V} {xs:Array Value} (r:VRs Z w l xs.toList) (h:xs.isEmpty = true):l = []:=List.eq_nil_of_length_eq_zero ((tup_size r).symm.trans (by simpa [Array.isEmpty] using h))
theorem addTup_ok {l m:List V} {cx cy:Value} (X:Sim Z w σ s.heap) (hx:VR Z w (.tup l) cx) (hy:VR Z w (.tup m) cy) (hl:shortL l = true) (hm:shortL m = true):wpAny Z.M A (binaryOp .Add cx cy) (QV Z w s σ (.tup (l ++ m))) E s:=by
 obtain ⟨a,xs,n,ha,ra⟩:=hx
 obtain ⟨b,ys,k,hb,rb⟩:=hy
 have ga:=X.im _ _ ha
 have gb:=X.im _ _ hb
 by_cases h1:xs.isEmpty = true
 · obtain rfl:=nil_of ra h1
   exact concat_meets ⟨_,ga,rfl⟩ ⟨_,gb,rfl⟩ noFill_tuple_add seq_tuple_add F.slot_tuple_add F.entry_tuple_add (F.args_tuple_add_2 _ _) (AutoSeq1.tuple___add___tuple_tuple_0 a xs n b ys k h1) ⟨ga,gb,.is X ⟨b,ys,k,hb,rb⟩⟩
 · by_cases h2:ys.isEmpty = true
   · obtain rfl:=nil_of rb h2
     exact concat_meets ⟨_,ga,rfl⟩ ⟨_,gb,rfl⟩ noFill_tuple_add seq_tuple_add F.slot_tuple_add F.entry_tuple_add (F.args_tuple_add_2 _ _) (AutoSeq1.tuple___add___tuple_tuple_1 a xs n b ys k h1 h2) ⟨ga,gb,.is X ⟨a,xs,n,ha,by rw [List.append_nil]; exact ra⟩⟩
   · exact P.add_tuple ga gb h1 h2 (QV.tuple X (by rw [Array.toList_append]; exact ra.append rb)) (le_line2 (tup_short ra hl) (tup_short rb hm))
theorem addLst_ok {l m:List V} {cx cy:Value} (X:Sim Z w σ s.heap):RD Z w s.heap (.lst l) cx→RD Z w s.heap (.lst m) cy→shortL l = true→shortL m = true→wpAny Z.M A (binaryOp .Add cx cy) (QF Z w s σ (.lst (l ++ m))) E s
 | .mk a xs n ga ra,.mk b ys k gb rb,hl,hm=>P.add_list ga gb (QF.push X (by rw [Array.toList_append]; exact ra.append rb)) (le_line2 (tup_short ra hl) (tup_short rb hm))
noncomputable abbrev BinOk (Z:Zt) (A:Around) (E:Value→Shared→Prop) (w:GW) (s:Shared) (σ:H) (o:Operator) (r:V) (cx cy:Value):Prop:=wpAny Z.M A (binaryOp o cx cy) (QX Z w s σ r) E s
theorem ints_is {x y r:V} {cx cy:Value} {k:Int→Int→Option V} {G:V→Value→Value→Prop} (hx:RD Z w s.heap x cx) (hy:RD Z w s.heap y cy) (e:(oInt x λi=>oInt y λj=>k i j) = some r) (c:∀ i j t u,k i j = some r→G r (.int i t) (.int j u)):G r cx cy:=
 oInt_is (M:=λx=>RD Z w s.heap x cx→_) e (λi e hx=>oInt_is (M:=λy=>RD Z w s.heap y cy→_) e (λj e hy=>IntR.casesOn (motive:=λcx _=>G r cx cy) hx λt=>IntR.casesOn (motive:=λcy _=>G r (.int i t) cy) hy λu=>c i j t u e) hy) hx
theorem add_ok {x y r:V} {cx cy:Value} (X:Sim Z w σ s.heap) (hx:RD Z w s.heap x cx) (hy:RD Z w s.heap y cy) (e:addOp x y = some r):BinOk Z A E w s σ .Add r cx cy:=match x,hx,e with
 | .int i,hx,e=>ints_is (x:=.int i) (k:=λi j=>some (.int (i + j))) (G:=BinOk Z A E w s σ .Add) hx hy e λi j t u e=>some_is e (add_int (QV.here X ⟨_⟩))
 | .str i,hx,e=>oStr_is (M:=λy=>RD Z w s.heap y cy→_) e (λj e hy=>StrR.casesOn (motive:=λcx _=>BinOk Z A E w s σ .Add r cx cy) hx λt=>StrR.casesOn (motive:=λcy _=>BinOk Z A E w s σ .Add r _ cy) hy λu=>gd_is e λh e=>an2 h λh1 h2=>some_is e (add_str (λt' tk=>QV.here X (.mk _)) (le_line2 (shortS_is h1) (shortS_is h2)))) hy
 | .tup l,hx,e=>oTup_is (M:=λy=>RD Z w s.heap y cy→_) e (λj e hy=>gd_is e λh e=>an2 h λh1 h2=>some_is e (addTup_ok X hx hy h1 h2)) hy
 | .lst l,hx,e=>oLst_is (M:=λy=>RD Z w s.heap y cy→_) e (λj e hy=>gd_is e λh e=>an2 h λh1 h2=>some_is e (addLst_ok X hx hy h1 h2)) hy
 | .none,_,e | .bool _,_,e | .dct _ _,_,e | .ins _ _,_,e | .ref _,_,e | .obj _ _,_,e=>nn e
theorem mul_ok {x y r:V} {cx cy:Value} (X:Sim Z w σ s.heap) (hx:RD Z w s.heap x cx) (hy:RD Z w s.heap y cy) (e:mulOp x y = some r):BinOk Z A E w s σ .Mult r cx cy:=match x,hx,e with
 | .int i,hx,e=>ints_is (x:=.int i) (k:=λi j=>gd (small i && small j) (some (.int (i * j)))) (G:=BinOk Z A E w s σ .Mult) hx hy e λi j t u e=>gd_is e λh e=>an2 h λh1 h2=>some_is e (mul_int (QV.here X ⟨_⟩) (intMul_ok h1))
 | .lst l,hx,e=>oInt_is (M:=λy=>RD Z w s.heap y cy→_) e (λj e hy=>SeqR.casesOn (motive:=λcx _=>BinOk Z A E w s σ .Mult r cx cy) hx λa xs n g r=>IntR.casesOn (motive:=λcy _=>BinOk Z A E w s σ .Mult _ _ cy) hy λu=>gd_is e λh e=>an2 h λh1 h2=>some_is e (mulList_ok X g r h1 (Nat.le_of_ble_eq_true h2))) hy
 | .none,_,e | .bool _,_,e | .str _,_,e | .tup _,_,e | .dct _ _,_,e | .ins _ _,_,e | .ref _,_,e | .obj _ _,_,e=>nn e
theorem bin_ok {op:Op} {x y r:V} {cx cy:Value} (X:Sim Z w σ s.heap) (hx:RD Z w s.heap x cx) (hy:RD Z w s.heap y cy) (e:binOp op x y = some r):BinOk Z A E w s σ (opOf op) r cx cy:=match op,e with
 | .add,e=>add_ok X hx hy e
 | .mul,e=>mul_ok X hx hy e
 | .sub,e=>ints_is (G:=BinOk Z A E w s σ .Sub) hx hy e λi j t u e=>some_is e (sub_int (QV.here X ⟨_⟩))
 | .fdiv,e=>ints_is (G:=BinOk Z A E w s σ .FloorDiv) hx hy e λi j t u e=>gd_is e λh e=>an2 h λh1 h2=>some_is e (floordiv_int (Int.ne_of_gt (of_decide_eq_true h1)) (QV.here X ⟨_⟩) (.inl (PyProof.noPylong_small (by have:=of_decide_eq_true h1; have:=of_decide_eq_true h2; omega))))
 | .mod,e=>ints_is (G:=BinOk Z A E w s σ .Mod) hx hy e λi j t u e=>gd_is e λh e=>some_is e (mod_int' (Int.ne_of_gt (of_decide_eq_true h)) (QV.here X ⟨_⟩))
end
section
variable {Z:Zt} {w w':GW} {s s':Shared} {σ σ':H} {v:V} {c:Value} {A:Around} {E:Value→Shared→Prop}
theorem reads_tup {h:Heap} {l:List V} {c:Value} {g:Get} (hg:∀ a o,g a = some o→h.get? a = some o) (k:∀ cs,VRs Z w l cs→∃ as,ReadsAll h cs (pys l) as):SeqR tupO g (VRs Z w l) c→∃ as,Reads h c (.tuple (pys l)) as
 | .mk a xs n g r=>(k _ r).elim λas q=>⟨as,.tuple (hg _ _ g) rfl rfl q⟩
theorem reads_lst {h:Heap} {l:List V} {c:Value} {g:Get} (hg:∀ a o,g a = some o→h.get? a = some o) (k:∀ cs,VRs Z w l cs→∃ as,ReadsAll h cs (pys l) as):SeqR lstO g (VRs Z w l) c→∃ as,Reads h c (.list (pys l)) as
 | .mk a xs n g r=>(k _ r).elim λas q=>⟨a :: as,.list (hg _ _ g) rfl rfl q⟩
mutual
theorem VR.reads {h:Heap} (him:∀ a o,w.im a = some o→h.get? a = some o):∀ {v:V} {c:Value},VR Z w v c→(py v).canLay0 = true→∃ as,Reads h c (py v) as
 | .none,_,r,_=>⟨_,Eq.subst (motive:=λc=>Reads h c .none _) r .none⟩
 | .bool b,_,r,_=>⟨_,Eq.subst (motive:=λc=>Reads h c (.bool b) _) r (.bool b)⟩
 | .int i,_,r,_=>IntR.casesOn (motive:=λc _=>∃ as,Reads h c (.int i) as) r λt=>⟨_,.int i t⟩
 | .str x,_,r,_=>StrR.casesOn (motive:=λc _=>∃ as,Reads h c (.str x) as) r λt=>⟨_,.str x t⟩
 | .tup l,_,r,k=>reads_tup him (λcs r=>VRs.reads him r k) r
 | .lst l,_,r,k=>reads_lst him (λcs r=>VRs.reads him r k) r
 | .dct _ _,_,_,k | .ins _ _,_,_,k | .ref _,_,_,k | .obj _ _,_,_,k=>ff k
theorem VRs.reads {h:Heap} (him:∀ a o,w.im a = some o→h.get? a = some o):∀ {l:List V} {cs:List Value},VRs Z w l cs→PyData.canLayAll0 (pys l) = true→∃ as,ReadsAll h cs (pys l) as
 | [],_,r,_=>r.nil_is (M:=λcs=>∃ as,ReadsAll h cs [] as) ⟨_,.nil⟩
 | v :: l,_,r,k=>an2 k λk1 k2=>r.cons_is (M:=λcs=>∃ as,ReadsAll h cs (pys (v :: l)) as) λc cs h1 h2=>(VR.reads him h1 k1).elim λas q=>(VRs.reads him h2 k2).elim λbs p=>⟨_,.cons q p⟩
end
theorem RD.reads (X:Sim Z w σ s.heap) (r:RD Z w s.heap v c) (k:(py v).canLay0 = true):∃ as,Reads s.heap c (py v) as:=match v,r,k with
 | .lst l,r,k=>reads_lst (λ_ _ e=>e) (λcs r=>VRs.reads X.im r k) r
 | .dct _ _,_,k=>ff k
 | .none,r,k | .bool _,r,k | .int _,r,k | .str _,r,k | .tup _,r,k | .ins _ _,r,k | .ref _,r,k | .obj _ _,r,k=>VR.reads (Z:=Z) X.im r k
noncomputable def cmpOf:Cp→CmpOp
 | .eq=>.Eq | .ne=>.NotEq | .lt=>.Lt | .le=>.LtE | .gt=>.Gt | .ge=>.GtE | .isIn=>.In | .notIn=>.NotIn
theorem cLine_eq:cLine = 9900:=rfl
theorem okPair_is {x y:V} {G:Prop} (h:okPair x y = true) (k:(py x).canLay0 = true→(py y).canLay0 = true→min (py x).depth (py y).depth ≤ 60→G):G:=an3 h λh1 h2 h3=>k h1 h2 (Nat.le_of_ble_eq_true h3)
theorem room {u m:Nat} (hu:u < 9000) (h:m ≤ 60):u + 3 * m + 50 ≤ cLine:=by rw [cLine_eq]; omega
structure CmpOk (Z:Zt) (A:Around) (E:Value→Shared→Prop) (s:Shared) (o o':CmpOp) (cx cy:Value) (r:Bool):Prop where
 y:wpAny Z.M A (compareOp o cx cy) (λc s'=>c = .bool r∧∃ t,s' = { s with toks:=t }) E s
 n:wpAny Z.M A (compareOp o' cx cy) (λc s'=>c = .bool (!r)∧∃ t,s' = { s with toks:=t }) E s
theorem eq1_ok {x y:V} {r:Bool} {cx cy:Value} (hu:A.units < 9000) (X:Sim Z w σ s.heap) (hx:RD Z w s.heap x cx) (hy:RD Z w s.heap y cy) (e:eqOp1 x y = some r):CmpOk Z A E s .Eq .NotEq cx cy r:=
 gd_is e λh e=>okPair_is h λh1 h2 h3=>(hx.reads X h1).elim λas ra=>(hy.reads X h2).elim λbs rb=>some_is (M:=CmpOk Z A E s .Eq .NotEq cx cy) e
  ⟨SeqAt.compareEq_reads ra rb h1 h2 (by rw [cLine_eq]; omega) ⟨rfl,_,rfl⟩,SeqAt.compareNe_reads ra rb h1 h2 (by rw [cLine_eq]; omega) ⟨rfl,_,rfl⟩⟩
theorem isNil_is {b:V} {M:V→Prop} (h:isNil b = true) (m:M (.lst [])):M b:=match b,h with
 | .lst [],_=>m
theorem len_ne {l:List V} {v:V} {xs ys:Array Value} (r1:VRs Z w (v :: l) xs.toList) (r2:VRs Z w [] ys.toList):(xs.size != ys.size) = true:=by rw [tup_size r1,tup_size r2]; rfl
theorem eqNil_ok {l:List V} {cx cy:Value} (hu:A.units < 9000) (X:Sim Z w σ s.heap) (hx:RD Z w s.heap (.lst l) cx) (hy:RD Z w s.heap (.lst []) cy):CmpOk Z A E s .Eq .NotEq cx cy l.isEmpty:=match l,hx with
 | [],hx=>eq1_ok (r:=true) hu X hx hy (by decide)
 | v :: l,hx=>SeqR.casesOn (motive:=λcx _=>CmpOk Z A E s .Eq .NotEq cx cy false) hx λa xs n h1 h2=>SeqR.casesOn (motive:=λcy _=>CmpOk Z A E s .Eq .NotEq (.ref a) cy false) hy λb ys k g1 g2=>
  have hne:=len_ne h2 g2
  ⟨P.eq_list_lengths h1 g1 hne (by rw [cLine_eq]; omega) ⟨rfl,_,rfl⟩,
   richCompare_meets_room (op:=.NotEq) ⟨_,h1,rfl⟩ ⟨_,g1,rfl⟩ F.slot_list_ne F.entry_list_ne (F.args_list_ne_2 _ _) (SeqAt.list_ne_lengthsAt a b xs ys n k none none #[] #[] hne) ⟨h1,g1,(λx=>nomatch x),rfl,_,rfl⟩ (by rw [cLine_eq]; omega)⟩
theorem lst_of {a:V} {M:V→Prop} (h:a.ctorIdx = 5) (m:∀ l,M (.lst l)):M a:=V.lst.elim (motive_1:=M) a h m
theorem eq_ok {x y:V} {r:Bool} {cx cy:Value} (hu:A.units < 9000) (X:Sim Z w σ s.heap) (hx:RD Z w s.heap x cx) (hy:RD Z w s.heap y cy) (e:eqOp x y = some r):CmpOk Z A E s .Eq .NotEq cx cy r:=by
 unfold eqOp at e
 cases hn:isNil y with
 | false=>rw [hn] at e; exact eq1_ok hu X hx hy e
 | true=>
  rw [hn] at e
  by_cases h5:x.ctorIdx = 5
  · rw [cond_true,if_pos h5] at e
    revert hx e hy
    exact λhx hy=>isNil_is (M:=λy=>RD Z w s.heap y cy→_) hn (λhy=>lst_of (M:=λx=>RD Z w s.heap x cx→(oLst x λl=>some l.isEmpty) = some r→_) h5 (λl hx e=>some_is (M:=CmpOk Z A E s .Eq .NotEq cx cy) e (eqNil_ok hu X hx hy)) hx) hy
  · rw [cond_true,if_neg h5] at e; exact eq1_ok hu X hx hy e
theorem valueAt_some {x:Str}:∀ {kvs:List (Str×Value)},(valueAt kvs x).isSome = (kvs.map (·.1)).contains x
 | []=>rfl
 | p :: r=>by
  have ih:=valueAt_some (x:=x) (kvs:=r)
  unfold valueAt at ih ⊢
  rw [List.find?_cons,List.map_cons,List.contains_cons]
  by_cases h:p.1 = x
  · rw [decide_eq_true h,h,beq_self_eq_true]; rfl
  · rw [decide_eq_false h,beq_eq_false_iff_ne.mpr (Ne.symm h)]; exact ih
theorem inSeq_tup {x:V} {l:List V} {r:Bool} {cx cy:Value} (hu:A.units < 9000) (X:Sim Z w σ s.heap) (hx:RD Z w s.heap x cx) (hy:RD Z w s.heap (.tup l) cy) (e:inSeq x l = some r):CmpOk Z A E s .In .NotIn cx cy r:=
 gd_is e λh e=>okPair_is h λh1 h2 h3=>(hx.reads X h2).elim λbs rb=>(reads_tup X.im (λcs r=>VRs.reads X.im r h1) hy).elim λas rt=>some_is (M:=CmpOk Z A E s .In .NotIn cx cy) e
  ⟨SeqAt.in_tuple_reads rt rb h1 h2 (by simp only [py,PyData.depth] at h3 ⊢; rw [cLine_eq]; omega) ⟨rfl,_,rfl⟩,SeqAt.notIn_tuple_reads rt rb h1 h2 (by simp only [py,PyData.depth] at h3 ⊢; rw [cLine_eq]; omega) ⟨rfl,_,rfl⟩⟩
theorem inSeq_lst {x:V} {l:List V} {r:Bool} {cx cy:Value} (hu:A.units < 9000) (X:Sim Z w σ s.heap) (hx:RD Z w s.heap x cx) (hy:RD Z w s.heap (.lst l) cy) (e:inSeq x l = some r):CmpOk Z A E s .In .NotIn cx cy r:=
 gd_is e λh e=>okPair_is h λh1 h2 h3=>(hx.reads X h2).elim λbs rb=>(hy.reads X h1).elim λas rt=>some_is (M:=CmpOk Z A E s .In .NotIn cx cy) e
  ⟨SeqAt.in_list_reads rt rb h1 h2 (by simp only [py,PyData.depth] at h3 ⊢; rw [cLine_eq]; omega) ⟨rfl,_,rfl⟩,SeqAt.notIn_list_reads rt rb h1 h2 (by simp only [py,PyData.depth] at h3 ⊢; rw [cLine_eq]; omega) ⟨rfl,_,rfl⟩⟩
theorem inDct {x:Str} {ks:List Str} {vs:List V} {cx cy:Value} (hx:StrR x cx) (hy:DctR Z s.heap.get? ks (VRs Z w vs) cy):CmpOk Z A E s .In .NotIn cx cy (ks.contains x):=match hx,hy with
 | .mk t,.mk a o g n (.mk kvs d hk _)=>
  have hs:(a == sysModules) = false:=beq_eq_false_iff_ne.mpr n
  have hd:=(Heap.dictOf_iff.mpr ⟨o,g,d⟩).mapOf
  have hv:(valueAt kvs x).isSome = ks.contains x:=hk ▸ valueAt_some
  ⟨wpAny_in_of (strKind_is Z.pg Z.wd x t) hs hd ⟨congrArg Value.bool hv,_,rfl⟩,wpAny_notIn_of (strKind_is Z.pg Z.wd x t) hs hd ⟨congrArg (λb=>Value.bool !b) hv,_,rfl⟩⟩
theorem isIn_ok {x y:V} {r:Bool} {cx cy:Value} (hu:A.units < 9000) (X:Sim Z w σ s.heap) (hx:RD Z w s.heap x cx) (hy:RD Z w s.heap y cy) (e:isInOp x y = some r):CmpOk Z A E s .In .NotIn cx cy r:=match y,hy,e with
 | .tup l,hy,e=>inSeq_tup hu X hx hy e
 | .lst l,hy,e=>inSeq_lst hu X hx hy e
 | .dct ks vs,hy,e=>oStr_is (M:=λx=>RD Z w s.heap x cx→_) e (λx e hx=>some_is (M:=CmpOk Z A E s .In .NotIn cx cy) e (inDct hx hy)) hx
 | .none,_,e | .bool _,_,e | .int _,_,e | .str _,_,e | .ins _ _,_,e | .ref _,_,e | .obj _ _,_,e=>nn e
noncomputable def CmpR (Z:Zt) (A:Around) (E:Value→Shared→Prop) (s:Shared) (o:CmpOp) (r:Bool) (cx cy:Value):Prop:=wpAny Z.M A (compareOp o cx cy) (λc s'=>c = .bool r∧∃ t,s' = { s with toks:=t }) E s
theorem cints_is {x y:V} {r:Bool} {cx cy:Value} {k:Int→Int→Bool} {G:Bool→Value→Value→Prop} (hx:RD Z w s.heap x cx) (hy:RD Z w s.heap y cy) (e:(oInt x λi=>oInt y λj=>some (k i j)) = some r) (c:∀ i j t u,G (k i j) (.int i t) (.int j u)):G r cx cy:=
 oInt_is (M:=λx=>RD Z w s.heap x cx→_) e (λi e hx=>oInt_is (M:=λy=>RD Z w s.heap y cy→_) e (λj e hy=>IntR.casesOn (motive:=λcx _=>G r cx cy) hx λt=>IntR.casesOn (motive:=λcy _=>G r (.int i t) cy) hy λu=>some_is (M:=λr=>G r (.int i t) (.int j u)) e (c i j t u)) hy) hx
theorem cmp_ok {op:Cp} {x y:V} {r:Bool} {cx cy:Value} (hu:A.units < 9000) (X:Sim Z w σ s.heap) (hx:RD Z w s.heap x cx) (hy:RD Z w s.heap y cy) (e:cmpOp op x y = some r):CmpR Z A E s (cmpOf op) r cx cy:=match op,e with
 | .eq,e=>(eq_ok hu X hx hy e).y
 | .ne,e=>b1_is e λq e' e=>some_is (M:=λr=>CmpR Z A E s .NotEq r cx cy) e (eq_ok hu X hx hy e').n
 | .lt,e=>cints_is (k:=λa b=>decide (a < b)) (G:=CmpR Z A E s .Lt) hx hy e λi j t u=>lt_int ⟨rfl,_,rfl⟩
 | .le,e=>cints_is (k:=λa b=>decide (a ≤ b)) (G:=CmpR Z A E s .LtE) hx hy e λi j t u=>le_int ⟨rfl,_,rfl⟩
 | .gt,e=>cints_is (k:=λa b=>decide (b < a)) (G:=CmpR Z A E s .Gt) hx hy e λi j t u=>gt_int ⟨rfl,_,rfl⟩
 | .ge,e=>cints_is (k:=λa b=>decide (b ≤ a)) (G:=CmpR Z A E s .GtE) hx hy e λi j t u=>ge_int ⟨rfl,_,rfl⟩
 | .isIn,e=>(isIn_ok hu X hx hy e).y
 | .notIn,e=>b1_is e λq e' e=>some_is (M:=λr=>CmpR Z A E s .NotIn r cx cy) e (isIn_ok hu X hx hy e').n
end
noncomputable def plainPE (e:Expr):Bool:=decide (e.ctorIdx ≠ 26) && decide (e.ctorIdx ≠ 22)
theorem plainPE_sub {pe:Expr} (h:plainPE pe = true) (o i:Value):subscripted pe false o i = operate [o,i] (getItem o i):=by
 cases pe with
 | Slice=>exact ff h
 | Starred=>exact ff h
 | _=>rfl
section
variable {Z:Zt} {w w':GW} {s s':Shared} {σ σ':H} {v:V} {c:Value} {A:Around} {E:Value→Shared→Prop}
theorem getElem?_of_toList {xs:Array Value} {i:Nat} {c:Value} (h:xs.toList[i]? = some c):xs[i]? = some c:=Array.getElem?_toList.symm.trans h
theorem valueAt_both:∀ {kvs:List (Str×Value)} {vs:List V} (x:Str),VRs Z w vs (kvs.map (·.2))→(lk (kvs.map (·.1)) vs x = none∧valueAt kvs x = none)∨∃ r c,lk (kvs.map (·.1)) vs x = some r∧valueAt kvs x = some c∧VR Z w r c
 | [],_,x,_=>.inl ⟨rfl,rfl⟩
 | (k,c) :: kvs,[],x,h=>nomatch (h:[] = _)
 | (k,c) :: kvs,v :: vs,x,h=>by
  have h:ConsR (VR Z w v) (VRs Z w vs) (c :: kvs.map (·.2)):=h
  cases h with
  | mk _ _ h1 h2=>
   have ih:=valueAt_both x h2
   unfold valueAt at ih ⊢
   rw [List.find?_cons]
   simp only [List.map_cons,lk]
   by_cases hx:x = k
   · rw [if_pos hx,decide_eq_true hx.symm]; exact .inr ⟨v,c,rfl,rfl,h1⟩
   · rw [if_neg hx,decide_eq_false (Ne.symm hx)]; exact ih
theorem valueAt_lk {kvs:List (Str×Value)} {ks:List Str} {vs:List V} {x:Str} {r:V} (hk:kvs.map (·.1) = ks) (h:VRs Z w vs (kvs.map (·.2))) (e:lk ks vs x = some r):∃ c,valueAt kvs x = some c∧VR Z w r c:=
 (valueAt_both x h).elim (λq=>no_so (hk ▸ q.1) e) λ⟨r',c,h1,h2,h3⟩=>⟨c,h2,some_eq (hk ▸ h1) e ▸ h3⟩
theorem lk_none {kvs:List (Str×Value)} {ks:List Str} {vs:List V} {x:Str} (hk:kvs.map (·.1) = ks) (h:VRs Z w vs (kvs.map (·.2))) (e:lk ks vs x = none):valueAt kvs x = none:=
 (valueAt_both x h).elim (λq=>q.2) λ⟨r',c,h1,h2,h3⟩=>no_so e (hk ▸ h1)
inductive At (k:Int) (n j:Nat):Prop
 | pos:0 ≤ k→j = k.toNat→At k n j
 | neg:k < 0→-(n:Int) ≤ k→j = (k + n).toNat→At k n j
theorem place_is {l:List V} {k:Int} {r:V} {G:Prop} (e:place l k = some r) (c:small k = true→∀ j,l[j]? = some r→At k l.length j→G):G:=
 gd_is e λhs e=>if h0:0 ≤ k then by rw [if_pos h0] at e; exact c hs _ e (.pos h0 rfl) else by
  rw [if_neg h0] at e
  exact gd_is e λh1 e=>by rw [Int.add_comm] at e; exact c hs _ e (.neg (Int.not_le.mp h0) (of_decide_eq_true h1) rfl)
theorem At.seq {k:Int} {n j:Nat} (h:j < n):At k n j→seqIndex? k n = some j
 | .pos h0 e=>by rw [e] at h ⊢; exact seqIndex_of h0 (by omega)
 | .neg h0 h1 e=>e ▸ seqIndex_neg h0 h1
noncomputable abbrev SubOk (Z:Zt) (A:Around) (E:Value→Shared→Prop) (w:GW) (s:Shared) (σ:H) (pv pi:Expr) (r:V) (cx cy:Value):Prop:=wpAny Z.M A (subscriptTail pv pi cx cy) (QV Z w s σ r) E s
theorem idxTup_ok {pv pi:Expr} {l:List V} {k:Int} {t:Tok} {r:V} {cx:Value} (hp:plainPE pi = true) (X:Sim Z w σ s.heap) (hx:RD Z w s.heap (.tup l) cx) (e:place l k = some r):SubOk Z A E w s σ pv pi r cx (.int k t):=
 SeqR.casesOn (motive:=λcx _=>SubOk Z A E w s σ pv pi r cx (.int k t)) hx λa xs n h1 h2=>place_is e λhs j hj hk=>(h2.get hj).elim λc q=>
  have ga:=X.im _ _ h1
  have hlt:=(List.getElem?_eq_some_iff.mp hj).1
  small_is hs λs1 s2=>tail_any (T:="tuple") ⟨_,ga,rfl⟩ F.slot_tuple_getitem.lookup (P.getItem_tuple ga (by omega) (by omega) (tup_size h2 ▸ hk.seq hlt) (getElem?_of_toList q.1) (QV.here X q.2)) (plainPE_sub hp _ _)
theorem idxLst_ok {pv pi:Expr} {l:List V} {k:Int} {t:Tok} {r:V} {cx:Value} (hp:plainPE pi = true) (X:Sim Z w σ s.heap) (hx:RD Z w s.heap (.lst l) cx) (e:place l k = some r):SubOk Z A E w s σ pv pi r cx (.int k t):=
 SeqR.casesOn (motive:=λcx _=>SubOk Z A E w s σ pv pi r cx (.int k t)) hx λa xs n h1 h2=>place_is e λhs j hj hk=>(h2.get hj).elim λc q=>by
  have hsz:=tup_size h2
  have hL:s.heap.IsList a xs:=⟨_,h1,rfl,n,rfl⟩
  have s2:=small_is hs And.intro
  refine tail_any hL.typeIs slot_list_getitem.lookup ?_ (plainPE_sub hp _ _)
  cases hk with
  | pos h0 hj=>exact wpAny_getItem_list hL h0 (by omega) (hj ▸ getElem?_of_toList q.1) (QV.here X q.2)
  | neg h0 h1 hj=>exact wpAny_getItem_list_neg hL h0 (by rw [hsz]; exact h1) (by omega) (by rw [hsz,← hj]; exact getElem?_of_toList q.1) (QV.here X q.2)
theorem idxInt_ok {pv pi:Expr} {x:V} {k:Int} {t:Tok} {r:V} {cx:Value} (hp:plainPE pi = true) (X:Sim Z w σ s.heap) (hx:RD Z w s.heap x cx) (e:(b1 (seqOf x) λl=>place l k) = some r):SubOk Z A E w s σ pv pi r cx (.int k t):=match x,hx,e with
 | .tup l,hx,e=>idxTup_ok hp X hx e
 | .lst l,hx,e=>idxLst_ok hp X hx e
 | .none,_,e | .bool _,_,e | .int _,_,e | .str _,_,e | .dct _ _,_,e | .ins _ _,_,e | .ref _,_,e | .obj _ _,_,e=>nn e
theorem idxDct_ok {pv pi:Expr} {ks:List Str} {vs:List V} {x:Str} {t:Tok} {r:V} {cx:Value} (hp:plainPE pi = true) (X:Sim Z w σ s.heap) (hx:RD Z w s.heap (.dct ks vs) cx) (e:lk ks vs x = some r):SubOk Z A E w s σ pv pi r cx (.str x t):=
 DctR.casesOn (motive:=λcx _=>SubOk Z A E w s σ pv pi r cx (.str x t)) hx λa o g n q=>q.casesOn λkvs d hk hv=>(valueAt_lk hk hv e).elim λc q=>
  have hd:s.heap.DictOf Z.knd a kvs:=Heap.dictOf_iff.mpr ⟨o,g,d⟩
  tail_any hd.typeIs slot_dict_getitem.lookup (wpAny_getItem_of (strKind_is Z.pg Z.wd x t) hd.mapOf q.1 (QV.here X q.2)) (plainPE_sub hp _ _)
theorem idx_ok {pv pi:Expr} {x y r:V} {cx cy:Value} (hp:plainPE pi = true) (X:Sim Z w σ s.heap) (hx:RD Z w s.heap x cx) (hy:VR Z w y cy) (e:idxOp x y = some r):SubOk Z A E w s σ pv pi r cx cy:=match y,hy,e with
 | .int k,hy,e=>IntR.casesOn (motive:=λcy _=>SubOk Z A E w s σ pv pi r cx cy) hy λt=>idxInt_ok hp X hx e
 | .str k,hy,e=>StrR.casesOn (motive:=λcy _=>SubOk Z A E w s σ pv pi r cx cy) hy λt=>oDct_is (M:=λx=>RD Z w s.heap x cx→_) e (λks vs e hx=>idxDct_ok hp X hx e) hx
 | .none,_,e | .bool _,_,e | .tup _,_,e | .lst _,_,e | .dct _ _,_,e | .ins _ _,_,e | .ref _,_,e | .obj _ _,_,e=>nn e
theorem count_down (n m:Nat):(if (n:Int) > m - 1 then ((n:Int) - (m - 1) - -1 - 1) / (- -1) else 0).toNat = n + 1 - m:=by
 rw [show (- -1:Int) = 1 by decide,Int.ediv_one]
 split <;> omega
theorem down_is (n m:Nat):sliceRange n ((m:Int) - 1) (-1) = (List.range (n + 1 - m)).map λ(k:Nat)=>((n:Int) + -1 * (k:Int)).toNat:=by
 unfold sliceRange
 rw [← count_down n m]
 rfl
theorem revTo1_pick (items:Array Value):slicePick items none (some 0) (some (-1)) = (items.toList.drop 1).reverse.toArray:=by
 obtain ⟨l⟩:=items
 have h:=krv_pick ⟨l⟩
 unfold slicePick at h ⊢
 cases l with
 | nil=>rfl
 | cons c l=>
  have e1:sliceBounds none none (some (-1)) (Array.size ⟨c :: l⟩) = ((l.length:Int),((0:Nat):Int) - 1,-1):=by simp [sliceBounds]
  have e2:sliceBounds none (some 0) (some (-1)) (Array.size ⟨c :: l⟩) = ((l.length:Int),((1:Nat):Int) - 1,-1):=by simp [sliceBounds]; omega
  rw [e1,down_is,Nat.sub_zero,List.range_succ,List.map_append,List.filterMap_append] at h
  rw [e2,down_is,Nat.add_sub_cancel]
  refine congrArg List.toArray (List.append_cancel_right (bs:=[c]) ?_)
  have z:(List.filterMap (λx=>(⟨c :: l⟩:Array Value)[x]?) (List.map (λ(k:Nat)=>((l.length:Int) + -1 * (k:Int)).toNat) [l.length])) = [c]:=by
   rw [List.map_cons,show ((l.length:Int) + -1 * (l.length:Int)).toNat = 0 by omega]; rfl
  rw [z] at h
  exact (congrArg Array.toList h).trans List.reverse_cons
theorem lstSlice_ok {pv psl:Expr} {sl:Addr} {l l':List V} {vl vu vk cx:Value} {lo hi st:Option Int} {ops:Value→List Value} (X:Sim Z w σ s.heap)
 (hx:RD Z w s.heap (.lst l) cx) (hl:shortL l = true) (hs:s.heap.IsSliceOf sl vl vu vk) (pl:IsPart vl lo) (pu:IsPart vu hi) (pk:IsPart vk st) (h0:st ≠ some 0)
 (hr:∀ xs:Array Value,VRs Z w l xs.toList→VRs Z w l' (slicePick xs lo hi st).toList) (hsub:∀ c,subscripted psl false c (.ref sl) = operate (ops c) (getItem c (.ref sl))) :
 wpAny Z.M A (subscriptTail pv psl cx (.ref sl)) (QF Z w s σ (.lst l')) E s:=
 SeqR.casesOn (motive:=λcx _=>wpAny Z.M A (subscriptTail pv psl cx (.ref sl)) (QF Z w s σ (.lst l')) E s) hx λa xs n ga r=>
  have hL:s.heap.IsList a xs:=⟨_,ga,rfl,n,rfl⟩
  tail_any hL.typeIs slot_list_getitem.lookup (wpAny_getItem_list_slice hL hs pl pu pk h0 (QF.push X (hr xs r)) (le_line (Nat.le_trans (tup_short r hl) (by decide)))) (hsub _)
noncomputable def SlV (cl cu ck cn:Value) (pk:Option Expr):Sl→Prop
 | .rev=>cl = .none∧cu = .none∧(∃ t,ck = .int (-1) t)∧pk.isSome = true
 | .from1=>(∃ t,cl = .int 1 t)∧cu = .none∧ck = .none∧pk = none
 | .revTo1=>cl = .none∧(∃ t,cu = .int 0 t)∧(∃ t,ck = .int (-1) t)∧pk.isSome = true
 | .upto=>cl = .none∧cu = cn∧ck = .none∧pk = none
theorem subS {pl pu pk:Option Expr} {pp:Pos} (h:pk.isSome = true) (i o:Value):subscripted (.Slice pl pu pk pp) false o i = operate [o,i] (getItem o i):=(Option.isSome_iff_exists.mp h).elim λz e=>e ▸ rfl
theorem subN {pl pu pk:Option Expr} {pp:Pos} (h:pk = none) (i o:Value):subscripted (.Slice pl pu pk pp) false o i = operate [i,o] (getItem o i):=h ▸ rfl
theorem from1_ok {pv psl:Expr} {sl:Addr} {u:V} {l:List V} {cx:Value} {t:Tok} (X:Sim Z w σ s.heap) (hx:RD Z w s.heap (.tup (u :: l)) cx) (hl:shortL l = true) (hs:s.heap.IsSliceOf sl (.int 1 t) .none .none)
 (hsub:∀ c,subscripted psl false c (.ref sl) = operate [.ref sl,c] (getItem c (.ref sl))):wpAny Z.M A (subscriptTail pv psl cx (.ref sl)) (QV Z w s σ (.tup l)) E s:=
 SeqR.casesOn (motive:=λcx _=>wpAny Z.M A (subscriptTail pv psl cx (.ref sl)) (QV Z w s σ (.tup l)) E s) hx λa xs n g r=>by
  have ga:=X.im _ _ g
  have hsz:=tup_size r
  have hl':=shortL_is hl
  rw [List.length_cons] at hsz
  exact tail_any (T:="tuple") ⟨_,ga,rfl⟩ F.slot_tuple_getitem.lookup (getItem_tuple_from (a:=1) (u:=t) ⟨_,ga,rfl,_,rfl⟩ (by simpa using hs) (Nat.le_refl _) (by omega) (QV.tuple X (by simpa using r.drop 1)) (by rw [hsz,sizeLine_is]; omega)) (hsub _)
theorem upto_pick (xs:Array Value) {z:Int} (h:0 ≤ z):(slicePick xs none (some z) none).toList = xs.toList.take z.toNat:=by
 have q:=slicePick_upto' xs z.toNat
 rw [Int.toNat_of_nonneg h] at q
 rw [q]
theorem slc_ok {pv:Expr} {pl pu pk:Option Expr} {pp:Pos} {k:Sl} {x n r:V} {cx cn cl cu ck:Value} {sl:Addr} (X:Sim Z w σ s.heap) (hx:RD Z w s.heap x cx) (hn:VR Z w n cn)
 (hs:s.heap.IsSliceOf sl cl cu ck) (hk:SlV cl cu ck cn pk k) (e:slcOp k x n = some r):wpAny Z.M A (subscriptTail pv (.Slice pl pu pk pp) cx (.ref sl)) (QX Z w s σ r) E s:=match k,hk,e with
 | .rev,⟨h1,h2,⟨t,h3⟩,hp⟩,e=>oLst_is (M:=λx=>RD Z w s.heap x cx→_) e (λl e hx=>gd_is e λhl e=>some_is e (lstSlice_ok X hx hl (h1 ▸ h2 ▸ h3 ▸ hs) .none .none (.int _ _) (by decide) (λxs r=>by rw [krv_pick]; exact r.reverse) (subS hp _))) hx
 | .from1,⟨⟨t,h1⟩,h2,h3,hp⟩,e=>oTup_is (M:=λx=>RD Z w s.heap x cx→_) e (λl e hx=>match l,e,hx with
  | u :: l,e,hx=>gd_is e λhl e=>some_is e (from1_ok X hx hl (h1 ▸ h2 ▸ h3 ▸ hs) (subN hp _))
  | [],e,_=>nn e) hx
 | .revTo1,⟨h1,⟨u,h2⟩,⟨t,h3⟩,hp⟩,e=>oLst_is (M:=λx=>RD Z w s.heap x cx→_) e (λl e hx=>gd_is e λhl e=>some_is e (lstSlice_ok X hx hl (h1 ▸ h2 ▸ h3 ▸ hs) .none (.int _ _) (.int _ _) (by decide) (λxs r=>by rw [revTo1_pick]; exact (r.drop 1).reverse) (subS hp _))) hx
 | .upto,⟨h1,h2,h3,hp⟩,e=>oLst_is (M:=λx=>RD Z w s.heap x cx→_) e (λl e hx=>oInt_is (M:=λn=>VR Z w n cn→_) e (λz e hn=>gd_is e λhl e=>an3 hl λhl h0 _=>IntR.casesOn (motive:=λc _=>cu = c→_) hn (λu h2=>
  some_is e (lstSlice_ok X hx hl (h1 ▸ h2 ▸ h3 ▸ hs) .none (.int _ _) .none (by decide) (λxs r=>by rw [upto_pick xs (of_decide_eq_true h0)]; exact r.take z.toNat) (subN hp _))) h2) hn) hx
end
section
variable {Z:Zt} {w w':GW} {s s':Shared} {σ σ':H} {v:V} {c:Value} {A:Around} {E:Value→Shared→Prop}
noncomputable def biV:Bi→Str×Value
 | .len=>("len",.builtin "len")
 | .list=>("list",.type "list")
 | .tuple=>("tuple",.type "tuple")
 | .dict=>("dict",.type "dict")
 | .int=>("int",.type "int")
 | .str=>("str",.type "str")
 | .max1=>("max",.builtin "max")
 | .max2=>("max",.builtin "max")
 | .min2=>("min",.builtin "min")
 | .sum=>("sum",.builtin "sum")
 | .sorted=>("sorted",.builtin "sorted")
theorem intR {i j:Int} {t:Tok} (e:i = j):IntR i (.int j t):=e ▸ ⟨t⟩
theorem ints?_is {i:V} {r:List V} {z:List Int} {M:V→List Int→Prop} (e:ints? (i :: r) = some z) (c:∀ n q,ints? r = some q→M (.int n) (n :: q)):M i z:=
 oInt_is (M:=λi=>M i z) e λn e=>b1_is e λq e' e=>some_is (M:=M (.int n)) e (c n q e')
theorem VRs.ints:∀ {l:List V} {cs:List Value} {z:List Int},VRs Z w l cs→ints? l = some z→∀ (i:Nat) (c:Value),cs[i]? = some c→∃ t,c = .int (z.getD i 0) t
 | [],cs,z,r,e,i,c,h=>nn ((r.nil_is (M:=λcs=>[] = cs) rfl ▸ h:([]:List Value)[i]? = some c))
 | v :: l,cs,z,r,e,i,c,h=>ints?_is (M:=λv z=>VRs Z w (v :: l) cs→∃ t,c = .int (z.getD i 0) t) e (λn q e' r=>ConsR.casesOn (motive:=λcs _=>cs[i]? = some c→_) r (λc' r' h1 h2 h=>match i,h with
  | 0,h=>IntR.casesOn (motive:=λc' _=>c' = c→_) h1 (λt e=>⟨t,e.symm⟩) (Option.some.inj h)
  | i + 1,h=>VRs.ints h2 e' i c h) h) r
theorem ints?_length:∀ {l:List V} {z:List Int},ints? l = some z→z.length = l.length
 | [],_,e=>some_is (M:=λz:List Int=>z.length = 0) e rfl
 | v :: l,z,e=>ints?_is (M:=λ_ z=>z.length = l.length + 1) e λn q e'=>congrArg (· + 1) (ints?_length e')
structure MaxOf (z:List Int) (m:Int):Prop where
 mem:m ∈ z
 ge:∀ a ∈ z,a ≤ m
theorem maxOf:∀ (r:List Int) (a:Int),MaxOf (a :: r) (r.foldl max a)
 | [],a=>⟨.head _,λb hb=>Int.le_of_eq (List.mem_singleton.mp hb)⟩
 | b :: r,a=>by
  have h:=maxOf r (max a b)
  have g:=h.ge _ (.head _)
  refine ⟨?_,λx hx=>?_⟩
  · rcases List.mem_cons.mp h.mem with q | q
    · rw [List.foldl_cons,q]
      rcases Int.le_total a b with z | z
      · rw [Int.max_eq_right z]; exact .tail _ (.head _)
      · rw [Int.max_eq_left z]; exact .head _
    · exact .tail _ (.tail _ q)
  · rcases List.mem_cons.mp hx with rfl | hx
    · exact Int.le_trans (Int.le_max_left _ _) g
    · rcases List.mem_cons.mp hx with rfl | hx
      · exact Int.le_trans (Int.le_max_right _ _) g
      · exact h.ge _ (.tail _ hx)
theorem maxs_is:∀ {z:List Int} {m:Int},maxs z = some m→MaxOf z m
 | [],_,e=>nn e
 | a :: r,m,e=>Option.some.inj e ▸ maxOf r a
theorem iter_keep {a:Addr} {h':Heap} (hb:∀ b o,¬ b ∈ [s.heap.objs.size]→(s.heap.push ({ cls:=.type "list_iterator",data:=.fields #[.ref a,.int 0 0] }:Obj)).get? b = some o→h'.get? b = some o) (b:Addr) (o:Obj) (e:s.heap.get? b = some o):h'.get? b = some o:=
 hb b o (λq=>Nat.ne_of_lt (Heap.lt_size e) (List.mem_singleton.mp q)) (Heap.get?_push_of_some _ e)
theorem listiter_new {h:Heap} {a:Addr} {xs:Array Value} {n:Nat} (ga:h.get? a = some (lstO xs n)) :
 (h.push ({ cls:=.type "list_iterator",data:=.fields #[.ref a,.int 0 0] }:Obj)).IsListIter h.objs.size a 0∧(h.push ({ cls:=.type "list_iterator",data:=.fields #[.ref a,.int 0 0] }:Obj)).IsList a xs:=
 ⟨⟨_,Heap.get?_push_size _ rfl,rfl,rfl⟩,⟨_,Heap.get?_push_of_some _ ga,rfl,n,rfl⟩⟩
theorem fp_lt {h:Heap} {o:Obj} {a:Addr} (hlt:a < h.objs.size) (b:Addr) (hb:b ∈ [h.objs.size,a]):b < (h.push o).objs.size:=by
 rw [Heap.size_push]
 rcases List.mem_cons.mp hb with rfl | hb
 · exact Nat.lt_succ_self _
 · rw [List.mem_singleton.mp hb]; exact Nat.lt_succ_of_lt hlt
theorem getD_mem {z:List Int} {i:Nat} (h:i < z.length):z.getD i 0 ∈ z:=by
 rw [List.getD_eq_getElem?_getD,List.getElem?_eq_getElem h]; exact List.getElem_mem h
theorem getD_at {z:List Int} {m:Int} (h:m ∈ z):∃ i,i < z.length∧z.getD i 0 = m:=by
 obtain ⟨i,hi,e⟩:=List.getElem_of_mem h
 exact ⟨i,hi,by rw [List.getD_eq_getElem?_getD,List.getElem?_eq_getElem hi]; exact e⟩
theorem best_is {z:List Int} {m:Int} (M:MaxOf z m) (h:z.length - 1 + 1 = z.length):z.getD (argBest (λi j=>decide (z.getD i 0 > z.getD j 0)) (z.length - 1)) 0 = m:=by
 obtain ⟨g1,g2⟩:=argBest_gt (λi=>z.getD i 0) (z.length - 1)
 obtain ⟨i,hi,e⟩:=getD_at M.mem
 exact Int.le_antisymm (M.ge _ (getD_mem (by omega))) (e ▸ g2 i (by omega))
theorem max1_ok {l:List V} {z:List Int} {m:Int} (hh:A.handled = none) (X:Sim Z w σ s.heap) (hx:RD Z w s.heap (.lst l) c) (e1:ints? l = some z) (e2:maxs z = some m) :
 wpAny Z.M A (call (.builtin "max") [c]) (QV Z w s σ (.int m)) E s:=
 SeqR.casesOn (motive:=λc _=>wpAny Z.M A (call (.builtin "max") [c]) (QV Z w s σ (.int m)) E s) hx λa xs n ga r=>by
  have hlt:=Heap.lt_size ga
  have hz:z.length = xs.size:=(ints?_length e1).trans (tup_size r).symm
  have M:=maxs_is e2
  have hpos:z.length - 1 + 1 = z.length:=Nat.sub_add_cancel (List.length_pos_of_mem M.mem)
  have hval:∀ (i:Nat) (v:Value),xs[i]? = some v→∃ t,v = .int (z.getD i 0) t:=λi v h=>r.ints e1 i v (Array.getElem?_toList.trans h)
  refine call_max_walk (wpAny_pyIter_list ⟨_,ga,rfl,n,rfl⟩ ?_)
  refine ⟨s.heap.objs.size,_,_,_,_,_,_,rfl,Walks.list (by simpa using hh) _ a (Nat.ne_of_lt hlt) xs,⟨(listiter_new ga).1,(listiter_new ga).2⟩,fp_lt hlt,by omega,CmpOf.ints_gt (λi=>z.getD i 0) hval,λv h' tk hv hk=>?_⟩
  obtain ⟨t,rfl⟩:=hval _ _ hv
  exact QV.grown (s:=s) X (iter_keep hk) (intR (hz ▸ (best_is M hpos).symm))
theorem small_all {z:List Int} (hs:z.all (λi=>decide (0 ≤ i) && decide (i < 1000)) = true) (a:Int) (h:a ∈ z):0 ≤ a∧a < 1000:=an2 (List.all_eq_true.mp hs a h) λh1 h2=>⟨of_decide_eq_true h1,of_decide_eq_true h2⟩
theorem sum_le:∀ (z:List Int),(∀ a ∈ z,0 ≤ a∧a < 1000)→∀ j,0 ≤ (z.take j).sum∧(z.take j).sum ≤ 1000 * (z.length:Int)
 | [],_,j=>by rw [List.take_nil]; exact ⟨Int.le_refl _,Int.le_refl _⟩
 | a :: z,h,0=>⟨Int.le_refl _,Int.mul_nonneg (by decide) (Int.natCast_nonneg _)⟩
 | a :: z,h,j + 1=>by
  have h1:=sum_le z (λb hb=>h b (.tail _ hb)) j
  have h2:=h a (.head _)
  rw [List.take_succ_cons,List.sum_cons,List.length_cons]
  omega
theorem inLong {s a:Int} {n:Nat} (h1:0 ≤ s) (h2:s ≤ 1000 * (n:Int)) (h3:0 ≤ a) (h4:a < 1000) (hn:n ≤ 4000):(-9223372036854775808 ≤ s∧s ≤ 9223372036854775807)∧-9223372036854775808 ≤ a∧a ≤ 9223372036854775807:=by omega
theorem sum_ok {l:List V} {z:List Int} (hh:A.handled = none) (X:Sim Z w σ s.heap) (hx:RD Z w s.heap (.lst l) c) (e1:ints? l = some z) (hs:z.all (λi=>decide (0 ≤ i) && decide (i < 1000)) = true) (hl:z.length ≤ 4000) :
 wpAny Z.M A (call (.builtin "sum") [c]) (QV Z w s σ (.int z.sum)) E s:=
 SeqR.casesOn (motive:=λc _=>wpAny Z.M A (call (.builtin "sum") [c]) (QV Z w s σ (.int z.sum)) E s) hx λa xs n ga r=>by
  have hlt:=Heap.lt_size ga
  have hz:z.length = xs.size:=(ints?_length e1).trans (tup_size r).symm
  refine call_sum_walk (wpAny_pyIter_list ⟨_,ga,rfl,n,rfl⟩ ?_)
  refine ⟨s.heap.objs.size,_,_,_,_,_,λi=>z.getD i 0,rfl,Walks.list (by simpa using hh) _ a (Nat.ne_of_lt hlt) xs,⟨(listiter_new ga).1,(listiter_new ga).2⟩,fp_lt hlt,λi v h=>r.ints e1 i v (Array.getElem?_toList.trans h),λj hj=>?_,λh' tk t' hk=>?_⟩
  · rw [preSum_getD]
    have h1:=sum_le z (small_all hs) (j + 1)
    have h2:=small_all hs _ (getD_mem (i:=j) (by omega))
    unfold InLong
    dsimp only
    omega
  · rw [preSum_getD,List.take_of_length_le (by omega)]
    exact QV.grown (s:=s) X (iter_keep hk) ⟨t'⟩
noncomputable def RDs (Z:Zt) (w:GW) (h:Heap):List V→List Value→Prop
 | [],cs=>[] = cs
 | v :: l,cs=>ConsR (RD Z w h v) (RDs Z w h l) cs
@[elab_as_elim] theorem RDs.one {M:List Value→Prop} {h:Heap} {cs:List Value} (r:RDs Z w h [v] cs) (m:∀ c,RD Z w h v c→M [c]):M cs:=ConsR.casesOn (motive:=λcs _=>M cs) r λc r h e=>Eq.subst (motive:=λr=>M (c :: r)) e (m c h)
@[elab_as_elim] theorem RDs.two {M:List Value→Prop} {h:Heap} {u:V} {cs:List Value} (r:RDs Z w h [v,u] cs) (m:∀ c d,RD Z w h v c→RD Z w h u d→M [c,d]):M cs:=
 ConsR.casesOn (motive:=λcs _=>M cs) r λc r h e=>RDs.one (M:=λr=>M (c :: r)) e λd h'=>m c d h h'
theorem log2_small {i:Int} (h0:0 ≤ i) (h1:i < 1000):i.natAbs.log2 < 1920:=
 Nat.lt_of_le_of_lt (Nat.log2_le_self _) (by omega)
noncomputable abbrev BiR (Z:Zt) (A:Around) (E:Value→Shared→Prop) (w:GW) (s:Shared) (σ:H) (f:Value) (r:V) (cs:List Value):Prop:=wpAny Z.M A (call f cs) (QX Z w s σ r) E s
theorem len_ok {a r:V} (X:Sim Z w σ s.heap) (hx:RD Z w s.heap a c) (e:lenOp a = some r):BiR Z A E w s σ (.builtin "len") r [c]:=match a,hx,e with
 | .tup l,hx,e=>gd_is e λhl e=>some_is e (SeqR.casesOn (motive:=λc _=>BiR Z A E w s σ (.builtin "len") _ [c]) hx λa xs n g rr=>P.len_tuple (X.im _ _ g) (by have:=tup_short rr hl; omega) (QV.here X (intR (congrArg Nat.cast (tup_size rr).symm))))
 | .lst l,hx,e=>gd_is e λhl e=>some_is e (SeqR.casesOn (motive:=λc _=>BiR Z A E w s σ (.builtin "len") _ [c]) hx λa xs n g rr=>len_list ⟨_,g,rfl,n,rfl⟩ (by have:=tup_short rr hl; omega) (QV.here X (intR (congrArg Nat.cast (tup_size rr).symm))))
 | .dct ks vs,hx,e=>gd_is e λhl e=>some_is e (DctR.casesOn (motive:=λc _=>BiR Z A E w s σ (.builtin "len") _ [c]) hx λa o g hn q=>q.casesOn λkvs d hk rr=>
  have hs:kvs.length = ks.length:=by rw [← hk,List.length_map]
  call_len_dict (beq_eq_false_iff_ne.mpr hn) (Heap.dictOf_iff.mpr ⟨o,g,d⟩) (by have:=Nat.le_of_ble_eq_true hl; omega) (QV.here X (intR (congrArg Nat.cast hs.symm))))
 | .none,_,e | .bool _,_,e | .int _,_,e | .str _,_,e | .ins _ _,_,e | .ref _,_,e | .obj _ _,_,e=>nn e
theorem list_ok {a r:V} (X:Sim Z w σ s.heap) (hx:RD Z w s.heap a c) (e:listOp a = some r):BiR Z A E w s σ (.type "list") r [c]:=match a,hx,e with
 | .tup l,hx,e=>gd_is e λhl e=>some_is e (SeqR.casesOn (motive:=λc _=>BiR Z A E w s σ (.type "list") _ [c]) hx λa xs n g rr=>call_list_seq a (.inr rfl) (X.im _ _ g) rfl rfl (λh' c' hk hn=>QF.list X hk (get_top _) hn rr) (le_line (Nat.le_trans (tup_short rr hl) (by decide))))
 | .lst l,hx,e=>gd_is e λhl e=>some_is e (SeqR.casesOn (motive:=λc _=>BiR Z A E w s σ (.type "list") _ [c]) hx λa xs n g rr=>call_list_seq a (.inl rfl) g rfl rfl (λh' c' hk hn=>QF.list X hk (get_top _) hn rr) (le_line (Nat.le_trans (tup_short rr hl) (by decide))))
 | .none,_,e | .bool _,_,e | .int _,_,e | .str _,_,e | .dct _ _,_,e | .ins _ _,_,e | .ref _,_,e | .obj _ _,_,e=>nn e
theorem tupNew {l:List V} {xs:Array Value} {h':Heap} (X:Sim Z w σ s.heap) (hk:∀ b o,s.heap.get? b = some o→h'.get? b = some o) (rr:VRs Z w l xs.toList):QV Z w s σ (.tup l) (.ref h'.objs.size) { s with heap:=h'.push (tupO xs 0) }:=
 have P0:Post Z w s σ w { s with heap:=h' }:=(Post.refl X).grow hk
 .mk _ (P0.push (o:=tupO xs 0) (t:=s.toks) rfl) ⟨_,xs,0,w.add_self _ _,rr.le (w.add_le (P0.sim.no_im (get_top _)))⟩
theorem tuple_ok {a r:V} (X:Sim Z w σ s.heap) (hx:RD Z w s.heap a c) (e:tupleOp a = some r):BiR Z A E w s σ (.type "tuple") r [c]:=match a,hx,e with
 | .tup l,hx,e=>some_is e (SeqR.casesOn (motive:=λc _=>BiR Z A E w s σ (.type "tuple") _ [c]) hx λa xs n g rr=>call_tuple_same ⟨_,X.im _ _ g,rfl,n,rfl⟩ (QV.is X ⟨a,xs,n,g,rr⟩))
 | .lst l,hx,e=>gd_is e λhl e=>some_is e (SeqR.casesOn (motive:=λc _=>BiR Z A E w s σ (.type "tuple") _ [c]) hx λa xs n g rr=>call_tuple_list ⟨_,g,rfl,n,rfl⟩ (λh' hk=>tupNew X hk rr) (le_line (Nat.le_trans (tup_short rr hl) (by decide))))
 | .none,_,e | .bool _,_,e | .int _,_,e | .str _,_,e | .dct _ _,_,e | .ins _ _,_,e | .ref _,_,e | .obj _ _,_,e=>nn e
theorem int_ok {a r:V} (X:Sim Z w σ s.heap) (hx:RD Z w s.heap a c) (e:intOp a = some r):BiR Z A E w s σ (.type "int") r [c]:=match a,hx,e with
 | .int i,hx,e=>some_is e (IntR.casesOn (motive:=λc _=>BiR Z A E w s σ (.type "int") _ [c]) hx λt=>call_int_int (QV.is X ⟨t⟩))
 | .bool b,hx,e=>some_is e (Eq.subst (motive:=λc=>BiR Z A E w s σ (.type "int") _ [c]) hx (call_int_bool (QV.here X (by cases b <;> exact ⟨_⟩))))
 | .none,_,e | .str _,_,e | .tup _,_,e | .lst _,_,e | .dct _ _,_,e | .ins _ _,_,e | .ref _,_,e | .obj _ _,_,e=>nn e
theorem dictDct_ok {ks:List Str} {vs:List V} (X:Sim Z w σ s.heap) (hx:RD Z w s.heap (.dct ks vs) c) (hl:ks.length ≤ 4000):wpAny Z.M A (call (.type "dict") [c]) (QF Z w s σ (.dct ks vs)) E s:=
 DctR.casesOn (motive:=λc _=>wpAny Z.M A (call (.type "dict") [c]) (QF Z w s σ (.dct ks vs)) E s) hx λa o g hn q=>q.casesOn λkvs d hk rr=>by
  have hs:kvs.length = ks.length:=by rw [← hk,List.length_map]
  refine kt_call_dict (beq_eq_false_iff_ne.mpr hn) (Heap.dictOf_iff.mpr ⟨o,g,d⟩) (le_line (by omega)) λh' hd' hsb=>?_
  obtain ⟨o,ho,hdo⟩:=Heap.dictOf_iff.mp hd'
  exact .mk w _ o ((Post.refl X).grow λb o eb=>(hsb.2 b (Nat.ne_of_lt (Heap.lt_size eb))).trans (Heap.get?_push_of_some _ eb)) ho (get_top _) (.new X (get_top _)) (X.sysSome (get_top _)) ⟨kvs,hdo,hk,rr⟩
theorem RD.int_is {M:Value→Prop} {i:Int} {h:Heap} (hx:RD Z w h (.int i) c) (m:∀ t,M (.int i t)):M c:=IntR.casesOn (motive:=λc _=>M c) hx m
theorem bi1_ok {b:Bi} {args:List V} {r:V} {cs:List Value} (hh:A.handled = none) (X:Sim Z w σ s.heap) (hx:RDs Z w s.heap args cs) (e:biOp b args = some r) (h1:b ≠ .sorted) (h2:b ≠ .dict):BiR Z A E w s σ (biV b).2 r cs:=match b,e,h1,h2 with
 | .len,e,_,_=>o1_is (M:=λl=>RDs Z w s.heap l cs→_) e (λa e r=>r.one λc hc=>len_ok X hc e) hx
 | .list,e,_,_=>o1_is (M:=λl=>RDs Z w s.heap l cs→_) e (λa e r=>r.one λc hc=>list_ok X hc e) hx
 | .tuple,e,_,_=>o1_is (M:=λl=>RDs Z w s.heap l cs→_) e (λa e r=>r.one λc hc=>tuple_ok X hc e) hx
 | .int,e,_,_=>o1_is (M:=λl=>RDs Z w s.heap l cs→_) e (λa e r=>r.one λc hc=>int_ok X hc e) hx
 | .str,e,_,_=>o1_is (M:=λl=>RDs Z w s.heap l cs→_) e (λa e r=>r.one λc hc=>oInt_is (M:=λa=>RD Z w s.heap a c→_) e (λi e hc=>gd_is e λh e=>an2 h λh1 h2=>some_is e (RD.int_is (M:=λc=>BiR Z A E w s σ (.type "str") _ [c]) hc λt=>P.str_of_int (log2_small (of_decide_eq_true h1) (of_decide_eq_true h2)) (QV.here X ⟨_⟩))) hc) hx
 | .max1,e,_,_=>o1_is (M:=λl=>RDs Z w s.heap l cs→_) e (λa e r=>r.one λc hc=>oLst_is (M:=λa=>RD Z w s.heap a c→_) e (λl e hc=>b1_is e λz e1 e=>b1_is e λm e2 e=>some_is e (max1_ok hh X hc e1 e2)) hc) hx
 | .max2,e,_,_=>o2_is (M:=λl=>RDs Z w s.heap l cs→_) e (λa b e r=>r.two λc d hc hd=>ints_is (k:=λa b=>some (.int (if b > a then b else a))) (G:=λr c d=>BiR Z A E w s σ (.builtin "max") r [c,d]) hc hd e λi j t u e=>some_is e (max_two_ints hh λh' tk hk=>by split <;> exact QV.grown X hk ⟨_⟩)) hx
 | .min2,e,_,_=>o2_is (M:=λl=>RDs Z w s.heap l cs→_) e (λa b e r=>r.two λc d hc hd=>ints_is (k:=λa b=>some (.int (if b < a then b else a))) (G:=λr c d=>BiR Z A E w s σ (.builtin "min") r [c,d]) hc hd e λi j t u e=>some_is e (min_two_ints hh λh' tk hk=>by split <;> exact QV.grown X hk ⟨_⟩)) hx
 | .sum,e,_,_=>o1_is (M:=λl=>RDs Z w s.heap l cs→_) e (λa e r=>r.one λc hc=>oLst_is (M:=λa=>RD Z w s.heap a c→_) e (λl e hc=>b1_is e λz e1 e=>gd_is e λh e=>an2 h λh1 h2=>some_is e (sum_ok hh X hc e1 h1 (Nat.le_of_ble_eq_true h2))) hc) hx
 | .sorted,_,h,_ | .dict,_,_,h=>absurd rfl h
end
section
variable {Z:Zt} {w w':GW} {s s':Shared} {σ σ':H} {v:V} {c:Value} {A:Around} {E:Value→Shared→Prop} {kvs:List (Str×Value)}
theorem isStr_fun (x:Str):(λe:DictEntry=>e.key.isStr x) = λe=>Z.knd.is x e.key:=funext λe=>isStr_of x e.key
structure DictIs (Z:Zt) (kvs:List (Str×Value)) (es:Array DictEntry):Prop where
 keys:KeysOf Z.knd es
 pairs:Pairs Z.knd es.toList kvs
 nodup:(kvs.map (·.1)).Nodup
 noRef:es.toList.any (·.refKey) = false
abbrev dictO (es:Array DictEntry) (n:Nat):Obj:={ cls:=.type "dict",dict:=none,data:=.dict es n,slots:=#[] }
theorem dict_is {M:Obj→Prop} {o:Obj} (D:Obj.IsDictOf Z.knd o kvs) (m:∀ es n,DictIs Z kvs es→M (dictO es n)):M o:=by
 obtain ⟨es,n,⟨h1,h2,h3⟩,hd,hk,hp,hn⟩:=D
 obtain ⟨oc,od,dt,sl⟩:=o
 dsimp only at h1 h2 h3 hd
 subst h1 h2 h3 hd
 refine m es n ⟨hk,hp,hn,List.any_eq_false.mpr λe he=>?_⟩
 obtain ⟨k,hk',_⟩:=hk e (Array.mem_def.mpr he)
 obtain ⟨t,ht⟩:=Value.isStrOf_shape hk'
 rw [DictEntry.refKey,ht]; exact Bool.false_ne_true
theorem lookIn_dict {o:Obj} (D:Obj.IsDictOf Z.knd o kvs) (x:Str):lookIn x o = some (valueAt kvs x):=dict_is (M:=λo=>lookIn x o = some (valueAt kvs x)) D λes n d=>by
 unfold lookIn
 dsimp only
 rw [isStr_fun (Z:=Z),← d.pairs.find x]
 cases hf:es.toList.find? λe=>Z.knd.is x e.key with
 | some e=>rfl
 | none=>rw [d.noRef]; rfl
theorem put_old {es:Array DictEntry} {i:Nat} {x:Str} (d:DictIs Z kvs es) (v:Value) (hi:(kvs.findIdx? λkv=>decide (kv.1 = x)) = some i) (n:Nat) :
 Obj.IsDictOf Z.knd (dictO (es.modify i λe=>{ e with val:=v }) n) (kvs.map λkv=>if kv.1 = x then (kv.1,v) else kv):=by
 refine ⟨_,_,⟨rfl,rfl,rfl⟩,rfl,λe he=>?_,?_,?_⟩
 · obtain ⟨j,hj,rfl⟩:=Array.mem_iff_getElem.mp he
   rw [Array.getElem_modify]
   have hj':j < es.size:=by simpa using hj
   split
   · exact let ⟨k,a,b⟩:=d.keys es[j] (Array.getElem_mem hj'); ⟨k,a,b⟩
   · exact d.keys es[j] (Array.getElem_mem hj')
 · rw [Array.toList_modify]
   exact d.pairs.modify d.nodup ((d.pairs.findIdx x).trans hi) v
 · rw [keys_map_store]; exact d.nodup
theorem put_new {es:Array DictEntry} {x:Str} (d:DictIs Z kvs es) (v:Value) (t:Tok) (hn:x ∉ kvs.map (·.1)) (n:Nat) :
 Obj.IsDictOf Z.knd (dictO (es.push { hash:=PyData.keyHash Z.wd.params x,key:=.str x t,val:=v }) n) (kvs ++ [(x,v)]):=
 have hkey:Z.knd.is x (.str x t) = true:=strKind_is Z.pg Z.wd x t
 ⟨_,_,⟨rfl,rfl,rfl⟩,rfl,λe he=>(Array.mem_push.mp he).elim (d.keys e) λq=>q ▸ ⟨x,hkey,rfl⟩,by rw [Array.toList_push]; exact d.pairs.append hkey _ v,
  by rw [List.map_append]; exact List.nodup_append.mpr ⟨d.nodup,List.nodup_cons.mpr ⟨(λh=>nomatch h),List.nodup_nil⟩,λa ha b hb q=>hn ((q.trans (show b = x from List.mem_singleton.mp hb)) ▸ ha)⟩⟩
theorem putName_dict {o:Obj} (D:Obj.IsDictOf Z.knd o kvs) (x:Str) (t:Tok) (v:Value):Obj.IsDictOf Z.knd (Obj.putName x (PyData.keyHash Z.wd.params x) (.str x t) v o) (PySem.stored kvs x v):=
 dict_is (M:=λo=>Obj.IsDictOf Z.knd (Obj.putName x _ (.str x t) v o) (PySem.stored kvs x v)) D λes n d=>by
 have hidx:es.findIdx? (·.key.isStr x) = kvs.findIdx? λkv=>decide (kv.1 = x):=by
  rw [← d.pairs.findIdx x,isStr_fun (Z:=Z)]
  obtain ⟨l⟩:=es
  simp [List.findIdx?_toArray]
 rw [Obj.putName_eq,Obj.putNameByArray]
 simp only [hidx]
 unfold PySem.stored
 cases hi:kvs.findIdx? λkv=>decide (kv.1 = x) with
 | some i=>rw [if_pos (any_of_findIdx_some hi)]; exact put_old d v hi _
 | none=>
  have hnm:=not_mem_of_findIdx_none hi
  rw [if_neg λh=>(List.any_eq_true.mp h).elim λkv q=>hnm (List.mem_map.mpr ⟨kv,q.1,of_decide_eq_true q.2⟩)]
  exact put_new d v t hnm _
noncomputable def clsOk (K:Frag) (C:Addr):Bool:=
 ((clsIn K C).any λcd=>cd.hasDict) && (findIn K (.ref C) "__getattribute__" == some (some (.builtin "object.__getattribute__")) && (findIn K (.ref C) "__getattr__" == some none &&
 (findIn K (.ref C) "__setattr__" == some (some (.builtin "object.__setattr__")) && plainOver K C)))
structure ClsOk (K:Frag) (C:Addr):Prop where
 dict:(clsIn K C).any (λcd=>cd.hasDict) = true
 ga:findIn K (.ref C) "__getattribute__" = some (some (.builtin "object.__getattribute__"))
 gt:findIn K (.ref C) "__getattr__" = some none
 sa:findIn K (.ref C) "__setattr__" = some (some (.builtin "object.__setattr__"))
 plain:plainOver K C = true
theorem clsOk_is {K:Frag} {C:Addr} (h:clsOk K C = true):ClsOk K C:=an2 h λh1 h=>an2 h λh2 h=>an3 h λh3 h4 h5=>⟨h1,eq_of_beq h2,eq_of_beq h3,eq_of_beq h4,h5⟩
noncomputable def fieldOk (K:Frag) (C:Addr) (x:Str):Bool:=findIn K (.ref C) x == some none
theorem inst_at {h:Heap} {a d C:Addr} {o:Obj} (h1:h.get? a = some (instObj C d)) (h2:h.get? d = some o):InstAt h a (instObj C d) C (some o):=⟨h1,rfl,rfl,h2⟩
theorem handed_VR (r:VR Z w v c):handedIn c = true:=match v,r with
 | .none,r=>Eq.subst (motive:=λc=>handedIn c = true) r rfl
 | .bool b,r=>Eq.subst (motive:=λc=>handedIn c = true) r rfl
 | .int i,r=>IntR.casesOn (motive:=λc _=>handedIn c = true) r λ_=>rfl
 | .str i,r=>StrR.casesOn (motive:=λc _=>handedIn c = true) r λ_=>rfl
 | .tup l,r | .lst l,r=>SeqR.casesOn (motive:=λc _=>handedIn c = true) r λ_ _ _ _ _=>rfl
 | .dct _ _,r=>DctR.casesOn (motive:=λc _=>handedIn c = true) r λ_ _ _ _ _=>rfl
 | .ins _ _,r=>InsR.casesOn (motive:=λc _=>handedIn c = true) r λ_ _ _ _ _ _=>rfl
 | .ref _,r=>RefR.casesOn (motive:=λc _=>handedIn c = true) r λ_ _=>rfl
 | .obj _ _,r=>ObjR.casesOn (motive:=λc _=>handedIn c = true) r λ_ _ _ _=>rfl
theorem findObj_field {K:Frag} {C:Addr} {x:Str} {o:Obj} {c:Value} (hc:ClsOk K C) (hf:fieldOk K C x = true) (D:Obj.IsDictOf Z.knd o kvs) (hv:valueAt kvs x = some c):findObj K C (some o) x = some (.value c):=by
 obtain ⟨cd,h1,h2⟩:=any_some hc.dict
 unfold findObj
 rw [h1,Option.bind_some,eq_of_beq hf,Option.bind_some]
 dsimp only
 rw [Option.bind_some,Option.bind_some]
 dsimp only
 unfold PySem.W.ownOf
 rw [if_pos h2]
 dsimp only
 rw [lookIn_dict D,hv,Option.bind_some]
theorem field_at {ks:List Str} {l:List V} {k:Nat} {x:Str} {r:V} (hk:kvs.map (·.1) = ks) (hn:(kvs.map (·.1)).Nodup) (rr:VRs Z w l (kvs.map (·.2))) (hx:ks[k]? = some x) (hr:l[k]? = some r):∃ c,valueAt kvs x = some c∧VR Z w r c:=
 (rr.get hr).elim λc q=>by
  have h1:=q.1
  rw [← hk,List.getElem?_map] at hx
  rw [List.getElem?_map] at h1
  obtain ⟨p,hp,e⟩:=Option.map_eq_some_iff.mp h1
  rw [hp] at hx
  exact ⟨c,by rw [← Option.some.inj hx,← e]; exact valueAt_of_get hn hp,q.2⟩
theorem dictOf_nodup {o:Obj} (D:Obj.IsDictOf Z.knd o kvs):(kvs.map (·.1)).Nodup:=let ⟨_,_,_,_,_,_,hn⟩:=D; hn
inductive FldAt (Z:Zt) (w:GW) (h:Heap) (cl:Nat) (l:List V):Value→Prop
 | mk (a d:Addr) (o:Obj) (kvs:List (Str×Value)):h.get? a = some (instObj (Z.I.cadr cl) d)→h.get? d = some o→Obj.IsDictOf Z.knd o kvs→kvs.map (·.1) = Z.I.flds cl→VRs Z w l (kvs.map (·.2))→FldAt Z w h cl l (.ref a)
theorem eq_to {a b:Nat} {M:Nat→Prop} (h:(a == b) = true) (m:M a):M b:=eq_of_beq h ▸ m
theorem clsF_is {cl:Nat} {y:V} {l:List V} (X:Sim Z w σ s.heap) (hy:VR Z w y c) (e:clsF σ y cl = some l):FldAt Z w s.heap cl l c:=match y,hy,e with
 | .ins c' l',hy,e=>gd_is e λh e=>some_is (M:=λl=>FldAt Z w s.heap cl l c) e (InsR.casesOn (motive:=λc _=>FldAt Z w s.heap cl l' c) (eq_to (M:=λk=>InsR Z w.im k (VRs Z w l') c) h hy) λa d o g1 g2 q=>q.casesOn λkvs D hk rr=>.mk a d o kvs (X.im _ _ g1) (X.im _ _ g2) D hk rr)
 | .obj c' i,hy,e=>gd_is e λh e=>recd_is e λn l' hs e=>gd_is e λh2 e=>some_is (M:=λl=>FldAt Z w s.heap cl l c) e (ObjR.casesOn (motive:=λc _=>FldAt Z w s.heap cl l' c) (eq_to (M:=λk=>ObjR Z w k i c) h hy) λa d g1 g2=>
  (X.obj i _ d hs g2).elim λo q=>KvR.casesOn (eq_to (M:=λn=>KvR Z (Z.I.flds n) (VRs Z w l') o) h2 q.2) λkvs D hk rr=>.mk a d o kvs (X.im _ _ g1) q.1 D hk rr)
 | .none,_,e | .bool _,_,e | .int _,_,e | .str _,_,e | .tup _,_,e | .lst _,_,e | .dct _ _,_,e | .ref _,_,e=>nn e
theorem attr_ok {K:Frag} {cl k:Nat} {x:Str} {y r:V} {b:Bool} (XK:K.In s.heap) (X:Sim Z w σ s.heap) (hy:VR Z w y c) (e:fieldOf σ y cl k = some r) (h1:ClsOk K (Z.I.cadr cl)) (h2:fieldOk K (Z.I.cadr cl) x = true) (h3:(Z.I.flds cl)[k]? = some x) :
 wpAny Z.M A (getAttr c x b) (QV Z w s σ r) E s:=
 b1_is e λl e1 e=>FldAt.casesOn (motive:=λc _=>wpAny Z.M A (getAttr c x b) (QV Z w s σ r) E s) (clsF_is X hy e1) λa d o kvs g1 g2 D hk rr=>(field_at hk (dictOf_nodup D) rr h3 e).elim λc q=>
  get_value XK (inst_at g1 g2) h1.ga (findObj_field h1 h2 D q.1) (handed_VR q.2) (QV.here X q.2)
theorem pairs_length {es:List DictEntry} (h:Pairs Z.knd es kvs):es.length = kvs.length:=by
 induction h with
 | nil=>rfl
 | cons _ _ _ ih=>exact congrArg (· + 1) ih
theorem stored_length (kvs:List (Str×Value)) (x:Str) (c:Value):(PySem.stored kvs x c).length ≤ kvs.length + 1:=by
 unfold PySem.stored
 split
 · rw [List.length_map]; exact Nat.le_succ _
 · rw [List.length_append]; exact Nat.le_refl _
theorem isFreed_dict {o:Obj} (D:Obj.IsDictOf Z.knd o kvs):o.isFreed = false:=dict_is (M:=λo=>o.isFreed = false) D λ_ _ _=>rfl
theorem past_dict {o:Obj} (D:Obj.IsDictOf Z.knd o kvs) (h:kvs.length ≤ 8000):o.data.pastItsLine = none:=dict_is (M:=λo=>o.data.pastItsLine = none) D λes n d=>pastItsLine_dict (by rw [← Array.length_toList,pairs_length d.pairs]; exact Nat.le_succ_of_le (le_line h))
theorem set_ok {K:Frag} {a d C:Addr} {x:Str} {od:Obj} {v:Value} {Q:Unit→Shared→Prop} (XK:K.In s.heap) (hc:ClsOk K C) (hf:fieldOk K C x = true)
 (g1:s.heap.get? a = some (instObj C d)) (g2:s.heap.get? d = some od) (D:Obj.IsDictOf Z.knd od kvs) (hl:kvs.length ≤ 1000)
 (h:∀ h' tk od',Heap.SameBut d s.heap h'→h'.get? d = some od'→Obj.IsDictOf Z.knd od' (PySem.stored kvs x v)→Q () { s with heap:=h',toks:=tk }) :
 wpAny Z.M A (setAttr (.ref a) x v) Q E s:=by
 obtain ⟨hp0,gn,dr,tk0,os0⟩:=s
 dsimp only at XK g1 g2 h
 have IA:W.InstAt hp0 a (instObj C d) C (some od):=inst_at g1 g2
 refine set_plain XK IA hc.sa ?_
 have ht:takerIn K C x = some none:=by unfold takerIn; rw [eq_of_beq hf]; rfl
 refine osa_open (s:=⟨hp0,gn,dr,tk0 + 1,os0⟩) XK IA hc.plain ht λb=>?_
 obtain ⟨cd,hcd,hd'⟩:=any_some hc.dict
 have D':=putName_dict D x (tk0 + 1) v
 have gU:(hp0.update d (Obj.putName x (PyData.keyHash Z.wd.params x) (.str x (tk0 + 1)) v)).get? d = some _:=Heap.get?_update_self _ g2 (isFreed_dict D')
 refine wpAny_bind (wpAny_pure (wpAny_bind (wpAny_bind (wpAny_loadPart g1 (wpAny_bind ((looks_clsIn XK hcd).here ?_))))))
 rw [hd']
 refine wpAny_pure (a:=some d) (wpAny_bind (wpAny_pure (wpAny_bind ?_)))
 unfold nsSet
 refine wpAny_bind (wpAny_bind (wpAny_askSetting (wpAny_pure (wpAny_bind (wpAny_mkText (wpAny_bind (wpAny_loadPart g2 ?_)))))))
 have cc:∃ es n,od = dictO es n∧(!es.any (·.key.isStr x) && es.any (·.refKey)) = false:=dict_is (M:=λod=>∃ es n,od = dictO es n∧(!es.any (·.key.isStr x) && es.any (·.refKey)) = false) D λes n q=>⟨es,n,rfl,by have:=q.noRef; rw [Array.any_toList] at this; rw [this,Bool.and_false]⟩
 obtain ⟨es,n,rfl,cc⟩:=cc
 dsimp only
 rw [aRefKeyMayBeTheName_at,cc]
 exact wpAny_updatePart g2 (wpAny_bind (wpAny_lookBehind gU (past_dict D' (Nat.le_trans (stored_length kvs x v) (by omega))) (wpAny_pure (h _ _ _ (Heap.SameBut.update _ _ _) gU D'))))
theorem method_ok {K:Frag} {a d C f:Addr} {x:Str} {od:Obj} {pl:Sem Bool} {Q:Value×List Value→Shared→Prop} (XK:K.In s.heap) (hc:ClsOk K C)
 (g1:s.heap.get? a = some (instObj C d)) (g2:s.heap.get? d = some od) (D:Obj.IsDictOf Z.knd od kvs) (hx:(kvs.map (·.1)).contains x = false)
 (hf:findIn K (.ref C) x = some (some (.ref f))) (ht:typeIn K (.ref f) = some (.type "function")) (h:Q (.ref f,[.ref a]) s):wpAny Z.M A (getMethod (.ref a) x pl) Q E s:=by
 refine method_fn XK (inst_at g1 g2) hc.ga hc.gt hf ht ?_ h
 unfold shadowIn
 dsimp only
 rw [lookIn_dict D,Option.map_some,valueAt_some,hx]
end
section
variable {Z:Zt} {w w' wE:GW} {s s' sE:Shared} {σ σ':H} {v:V} {c:Value} {A:Around} {E:Value→Shared→Prop} {B:Blk} {ρ:Rho} {m:Str→Option Value} {cv:Nat→Value} {t:Nat} {h':Heap}
theorem upd_list {h:Heap} {a:Addr} {xs:Array Value} {n:Nat} (g:h.get? a = some (lstO xs n)) (f:Array Value→Array Value):∃ n',(h.update a (Obj.mapSeq f)).get? a = some (lstO (f xs) n')∧Heap.SameBut a h (h.update a (Obj.mapSeq f)):=
 ⟨_,Heap.get?_update_self _ g rfl,Heap.SameBut.update _ _ _⟩
theorem nodup_at {l:List Addr} (h:l.Nodup) {i j:Nat} {a:Addr} (e1:l[i]? = some a) (e2:l[j]? = some a):i = j:=by
 obtain ⟨l1,z1⟩:=List.getElem?_eq_some_iff.mp e1
 obtain ⟨l2,z2⟩:=List.getElem?_eq_some_iff.mp e2
 rcases Nat.lt_trichotomy i j with q | q | q
 · exact absurd (z1.trans z2.symm) (List.pairwise_iff_getElem.mp h i j l1 l2 q)
 · exact q
 · exact absurd (z2.trans z1.symm) (List.pairwise_iff_getElem.mp h j i l2 l1 q)
theorem set_get {α:Type} {l:List α} {i j:Nat} {a b:α} {G:Prop} (e:(l.set i a)[j]? = some b) (k1:i = j→a = b→G) (k2:i ≠ j→l[j]? = some b→G):G:=by
 rw [List.getElem?_set] at e
 by_cases h:i = j
 · rw [if_pos h] at e
   by_cases hl:i < l.length
   · rw [if_pos hl] at e; exact k1 h (Option.some.inj e)
   · rw [if_neg hl] at e; exact nn e
 · rw [if_neg h] at e; exact k2 h e
theorem Post.put {i:Nat} {a:Addr} {o':O} {ob':Obj} (X:Sim Z w σ s.heap) (hi:w.ph[i]? = some a) (hs:Heap.SameBut a s.heap h') (e:h'.get? a = some ob') (r:OR Z w ob' o'):Post Z w s (σ.set i o') w { s with heap:=h',toks:=t }:=
 have hm:=List.mem_of_getElem? hi
 have g:∀ b o,b ≠ a→s.heap.get? b = some o→h'.get? b = some o:=λb o hb e=>(hs.2 b hb).trans e
 ⟨⟨X.base,X.sys,λb o q=>g b o (λz=>no_so (X.out a hm) (z ▸ q)) (X.im _ _ q),by rw [List.length_set]; exact X.len,λj o b e1 e2=>set_get e1 (λh1 h2=>⟨ob',some_eq (h1 ▸ hi) e2 ▸ e,h2 ▸ r⟩)
  fun h1 e1=>(X.obj j o b e1 e2).elim λob q=>⟨ob,g b _ (λz=>h1 (nodup_at X.nd hi (z ▸ e2))) q.1,q.2⟩,X.nd,X.out⟩,.refl _,λb o q n=>g b o (λz=>n (z ▸ hm)) q,rfl,rfl,rfl⟩
noncomputable def PutBack (Z:Zt) (B:Blk) (wE:GW) (sE:Shared) (w:GW) (s:Shared) (m:Str→Option Value) (cv:Nat→Value) (a:Addr) (put:List V→Rho×H):Prop:=
 ∀ l' xs' n' h' t,VRs Z w l' (Array.toList xs')→Heap.SameBut a s.heap h'→h'.get? a = some (lstO xs' n')→Post Z wE sE (put l').2 w { s with heap:=h',toks:=t }∧ER Z B w (put l').1 h' m cv
inductive ListAt (Z:Zt) (B:Blk) (wE:GW) (sE:Shared) (w:GW) (s:Shared) (m:Str→Option Value) (cv:Nat→Value) (l:List V) (put:List V→Rho×H):Value→Prop
 | mk (a:Addr) (xs:Array Value) (n:Nat):s.heap.get? a = some (lstO xs n)→VRs Z w l xs.toList→PutBack Z B wE sE w s m cv a put→ListAt Z B wE sE w s m cv l put (.ref a)
theorem getS_lt {i:Nat} {sl:Slot} (h:getS ρ i = some sl):ρ[i]? = some (some sl):=by
 unfold getS at h
 cases q:ρ[i]? with
 | none=>rw [q] at h; exact nn h
 | some o=>rw [q] at h; exact congrArg some h
theorem ER.relist {i:Nat} {x:Str} {l l':List V} {a:Addr} {xs xs':Array Value} {n n':Nat} (r:ER Z B w ρ s.heap m cv) (hi:(i,x) ∈ B.tab) (hs:getS ρ i = some (.own l)) (hcv:cv i = .ref a) (g:s.heap.get? a = some (lstO xs n)) (p:Priv w a) (hlo:B.lo.get? a = none)
 (r':VRs Z w l' xs'.toList) (hsb:Heap.SameBut a s.heap h') (g':h'.get? a = some (lstO xs' n')):ER Z B w (setO ρ i l') h' m cv:=
 have gk:∀ b o,s.heap.get? b = some o→(∀ xs n,o ≠ lstO xs n)→h'.get? b = some o:=λb o q z=>(hsb.2 b λy=>z xs n (some_eq (y ▸ q) g)).trans q
 have lk:∀ y c,Look1 B.env s.heap m y c→Look1 B.env h' m y c:=λy c z=>z.elim .inl λ⟨z1,b,z2,o,ho,hd⟩=>.inr ⟨z1,b,z2,o,gk b o ho (λ_ _ q=>nomatch hd.symm.trans (congrArg Obj.data q)),hd⟩
 { ns:=let ⟨o,es,ep,ho,hd,q⟩:=r.ns; ⟨o,es,ep,gk _ o ho (λ_ _ q=>nomatch hd.symm.trans (congrArg Obj.data q)),hd,q⟩
   pr:=r.pr
   bnd:=r.bnd
   cell:=λy b q=>⟨let ⟨v,o,ho,hd⟩:=(r.cell y b q).is; ⟨v,o,gk b o ho (λ_ _ q=>nomatch hd.symm.trans (congrArg Obj.data q)),hd⟩,(r.cell y b q).pr,(r.cell y b q).new⟩
   capart:=r.capart
   val:=λj y hj sl' e=>set_is e (λh1 _ h2=>⟨lk y _ (r.val j y hj _ (h1 ▸ hs)).1,h2 ▸ h1 ▸ hcv ▸ OwnR.mk a xs' n' g' r' p hlo⟩) λh1 e=>have q:=r.val j y hj sl' e
    ⟨lk y _ q.1,match sl',q.2,e with
     | .v _,q,_=>q
     | .own lj,q,e=>OwnR.casesOn (motive:=λc _=>cv j = c→OwnR Z B.lo w h' lj c) q (λb ys k gb rr p hl ec=>.mk b ys k ((hsb.2 b λz=>r.own j i lj l h1 ⟨y,hj⟩ ⟨x,hi⟩ e hs (ec.trans (z ▸ hcv.symm))).trans gb) rr p hl) rfl⟩
   own:=λj k lj lk' hjk hj hk e1 e2=>set_is e1 (λa1 _ _=>set_is e2 (λa2 _ _=>absurd (a1.trans a2.symm) hjk) λa2 e2=>a1 ▸ r.own i k l lk' (λz=>a2 z.symm) ⟨x,hi⟩ hk hs e2)
    fun a1 e1=>set_is e2 (λa2 _ _=>a2 ▸ r.own j i lj l a1 hj ⟨x,hi⟩ e1 hs) λa2 e2=>r.own j k lj lk' hjk hj hk e1 e2 }
theorem listAt_ok {i:Nat} {x:Str} {l:List V} {put:List V→Rho×H} (hlo:B.lo = sE.heap) (P:Post Z wE sE σ w s) (r:ER Z B w ρ s.heap m cv) (hi:(i,x) ∈ B.tab) (e:listAt ρ σ i = some (l,put)):ListAt Z B wE sE w s m cv l put (cv i):=by
 unfold listAt at e
 cases hs:getS ρ i with
 | none=>rw [hs] at e; exact nn e
 | some sl=>
  rw [hs] at e
  have q:=(r.val i x hi _ hs).2
  cases sl with
  | own l0=>
   exact pr_is (M:=λl put=>ListAt Z B wE sE w s m cv l put (cv i)) e (OwnR.casesOn (motive:=λc _=>cv i = c→ListAt Z B wE sE w s m cv l0 (λl'=>(setO ρ i l',σ)) c) q
    (λa xs n g rr p hl hcv=>.mk a xs n g rr λl' xs' n' h' t r' hsb g'=>⟨P.touch (hlo ▸ hl) p hsb,r.relist hi hs hcv g p hl r' hsb g'⟩) rfl)
  | v y=>
   exact oRef_is (M:=λy=>VR Z w y (cv i)→_) e (λj e q=>RefR.casesOn (motive:=λc _=>ListAt Z B wE sE w s m cv l put c) q λa ph=>olist_is e λl0 ho e=>pr_is (M:=λl put=>ListAt Z B wE sE w s m cv l put (.ref a)) e
    ((P.sim.obj j _ a ho ph).elim λob q=>LstO.casesOn (motive:=λob _=>s.heap.get? a = some ob→ListAt Z B wE sE w s m cv l0 _ (.ref a)) q.2 (λxs n rr g=>.mk a xs n g rr λl' xs' n' h' t r' hsb g'=>
     have P':=Post.put (t:=t) P.sim ph hsb g' (o':=.list l') ⟨xs',n',r'⟩
     ⟨P.trans P',r.post P'⟩) q.1)) q
end
abbrev NoE:Value→Shared→Prop:=λ_ _=>False
structure Yt where
 C:Orc
 A:Around
 N:Nat
noncomputable def fresh:E→Bool
 | .lst _ | .dct _ | .bin _ _ _ | .slc _ _ _ | .bi _ _ | .sortK _ _ | .split _ _ | .comp _ _=>true
 | .ife _ a b=>fresh a && fresh b
 | .bad | .cst _ | .neg _ | .pow _ _ | .var _ | .glo _ _ | .tup _ | .shr _ | .cmp _ _ _ | .isN _ _ | .conj _ | .disj _ | .not _ | .idx _ _ | .attr _ _ _ _ | .callF _ _ | .callM _ _ _ _ | .get2 _ _ _ | .join _ _=>false
inductive ConsE (P:Expr→Prop) (R:List Expr→Prop):List Expr→Prop
 | mk (c:Expr) (r:List Expr):P c→R r→ConsE P R (c :: r)
section
variable (Z:Zt) (Y:Yt) (B:Blk)
structure Now (ρ:Rho) (σ:H) (w:GW) (s:Shared):Prop where
 sim:Sim Z w σ s.heap
 br:BR Z B ρ w s.heap
noncomputable def RE (f:Bool) (w:GW) (s:Shared) (σ':H) (v:V):Value→Shared→Prop:=cond f (QX Z w s σ' v) (QV Z w s σ' v)
inductive QB (w:GW) (s:Shared) (σ':H) (v:V) (c:Value) (s':Shared):Prop
 | mk (w':GW):Post Z w s σ' w' s'→VB Z w' s'.heap v c→QB w s σ' v c s'
inductive QT {α:Type} (w:GW) (s:Shared) (σ':H) (b:α):α→Shared→Prop
 | mk {s':Shared} (w':GW):Post Z w s σ' w' s'→QT w s σ' b b s'
inductive QL (w:GW) (s:Shared) (σ':H) (l:List V) (cs:List Value) (s':Shared):Prop
 | mk (w':GW):Post Z w s σ' w' s'→VRs Z w' l cs→QL w s σ' l cs s'
inductive QR (w:GW) (s:Shared) (σ':H) (l:List V) (cs:List Value) (s':Shared):Prop
 | mk (w':GW):Post Z w s σ' w' s'→RDs Z w' s'.heap (l.map (dr σ')) cs→QR w s σ' l cs s'
noncomputable def EOK (e:E) (pe:Expr):Prop:=∀ (ρ:Rho) (σ:H) (v:V) (σ':H) (w:GW) (s:Shared),Now Z B ρ σ w s→evE Y.C e ρ σ = some (v,σ')→wpAny Z.M Y.A (eval pe B.env) (RE Z (fresh e) w s σ' v) NoE s
noncomputable def XOK (e:E) (pe:Expr):Prop:=∀ (ρ:Rho) (σ:H) (v:V) (σ':H) (w:GW) (s:Shared),Now Z B ρ σ w s→orB (brw ρ e) σ (evE Y.C e ρ σ) = some (v,σ')→wpAny Z.M Y.A (eval pe B.env) (QB Z w s σ' v) NoE s
noncomputable def TOK (e:E) (pe:Expr):Prop:=∀ (ρ:Rho) (σ:H) (b:Bool) (σ':H) (w:GW) (s:Shared),Now Z B ρ σ w s→evE Y.C e ρ σ = some (.bool b,σ')→wpAny Z.M Y.A (isTrue pe B.env (eval pe B.env)) (QT Z w s σ' b) NoE s
noncomputable def EsOK (es:List E) (pes:List Expr):Prop:=∀ (pos:Pos) (ρ:Rho) (σ:H) (l:List V) (σ':H) (w:GW) (s:Shared),Now Z B ρ σ w s→evEs Y.C es ρ σ = some (l,σ')→wpAny Z.M Y.A (spliced (backTo pos (starEach pes B.env))) (QL Z w s σ' l) NoE s
noncomputable def XsOK (es:List E) (pes:List Expr):Prop:=∀ (pos:Pos) (ρ:Rho) (σ:H) (l:List V) (σ':H) (w:GW) (s:Shared),Now Z B ρ σ w s→evXs Y.C es ρ σ = some (l,σ')→wpAny Z.M Y.A (spliced (backTo pos (starEach pes B.env))) (QR Z w s σ' l) NoE s
structure AOK (e:E) (pe:Expr):Prop where
 ee:EOK Z Y B e pe
 x:XOK Z Y B e pe
 t:TOK Z Y B e pe
noncomputable def AllOK:List E→List Expr→Prop
 | [],pes=>[] = pes
 | e :: es,pes=>ConsE (AOK Z Y B e) (AllOK es) pes
end
section
variable {Z:Zt} {Y:Yt} {B:Blk} {w w' w0:GW} {s s' s0:Shared} {σ σ':H} {v:V} {c:Value} {ρ:Rho} {f:Bool} {e:E} {pe:Expr} {K:Value→Shared→Prop} {pos:Pos}
theorem AllOK.nil:AllOK Z Y B [] []:=rfl
theorem AllOK.cons {es:List E} {pes:List Expr} (h:AOK Z Y B e pe) (hs:AllOK Z Y B es pes):AllOK Z Y B (e :: es) (pe :: pes):=.mk pe pes h hs
@[elab_as_elim] theorem AllOK.nil_is {M:List Expr→Prop} {pes:List Expr} (h:AllOK Z Y B [] pes) (m:M []):M pes:=Eq.subst (motive:=M) h m
@[elab_as_elim] theorem AllOK.cons_is {M:List Expr→Prop} {es:List E} {pes:List Expr} (h:AllOK Z Y B (e :: es) pes) (m:∀ pe r,AOK Z Y B e pe→AllOK Z Y B es r→M (pe :: r)):M pes:=ConsE.casesOn (motive:=λpes _=>M pes) h m
theorem Now.post (X:Now Z B ρ σ w s) (P:Post Z w s σ' w' s'):Now Z B ρ σ' w' s':=⟨P.sim,X.br.post P⟩
theorem RE.toV (q:RE Z f w s σ' v c s'):QV Z w s σ' v c s':=match f,q with
 | true,q=>QX.toV q
 | false,q=>q
theorem RE.trans (P:Post Z w0 s0 σ w s) (q:RE Z f w s σ' v c s'):RE Z f w0 s0 σ' v c s':=match f,q with
 | true,q=>QX.trans P q
 | false,q=>QV.trans P q
theorem RE.weaken {g:Bool} (h:g = true→f = true) (q:RE Z f w s σ' v c s'):RE Z g w s σ' v c s':=match g,h with
 | false,_=>q.toV
 | true,h=>h rfl ▸ q
theorem EOK.go (h:EOK Z Y B e pe) (X:Now Z B ρ σ w s) (e1:evE Y.C e ρ σ = some (v,σ')) (k:∀ c w1 s1,Post Z w s σ' w1 s1→Now Z B ρ σ' w1 s1→VR Z w1 v c→K c s1):wpAny Z.M Y.A (eval pe B.env) K NoE s:=
 wpAny_mono (h ρ σ v σ' w s X e1) (λc s1 q=>q.toV.casesOn λw1 P r=>k c w1 s1 P (X.post P) r) λ_ _ e=>e
theorem XOK.go (h:XOK Z Y B e pe) (X:Now Z B ρ σ w s) (e1:orB (brw ρ e) σ (evE Y.C e ρ σ) = some (v,σ')) (k:∀ c w1 s1,Post Z w s σ' w1 s1→Now Z B ρ σ' w1 s1→VB Z w1 s1.heap v c→K c s1):wpAny Z.M Y.A (eval pe B.env) K NoE s:=
 wpAny_mono (h ρ σ v σ' w s X e1) (λc s1 q=>q.casesOn λw1 P r=>k c w1 s1 P (X.post P) r) λ_ _ e=>e
theorem TOK.go {K:Bool→Shared→Prop} {b:Bool} (h:TOK Z Y B e pe) (X:Now Z B ρ σ w s) (e1:evE Y.C e ρ σ = some (.bool b,σ')) (k:∀ w1 s1,Post Z w s σ' w1 s1→Now Z B ρ σ' w1 s1→K b s1):wpAny Z.M Y.A (isTrue pe B.env (eval pe B.env)) K NoE s:=
 wpAny_mono (h ρ σ b σ' w s X e1) (λc s1 q=>q.casesOn λw1 P=>k w1 _ P (X.post P)) λ_ _ e=>e
theorem EsOK.go {es:List E} {pes:List Expr} {l:List V} {K:List Value→Shared→Prop} (h:EsOK Z Y B es pes) (X:Now Z B ρ σ w s) (e1:evEs Y.C es ρ σ = some (l,σ')) (k:∀ cs w1 s1,Post Z w s σ' w1 s1→Now Z B ρ σ' w1 s1→VRs Z w1 l cs→K cs s1):wpAny Z.M Y.A (spliced (backTo pos (starEach pes B.env))) K NoE s:=
 wpAny_mono (h pos ρ σ l σ' w s X e1) (λc s1 q=>q.casesOn λw1 P r=>k c w1 s1 P (X.post P) r) λ_ _ e=>e
theorem wpV {Q Q':Value→Shared→Prop} {M:Model} {A:Around} {m:Sem Value} (h:wpAny M A m Q NoE s) (k:∀ c s',Q c s'→Q' c s'):wpAny M A m Q' NoE s:=wpAny_mono h k λ_ _ e=>e
theorem AOK.x' (h:AOK Z Y B e pe) (X:Now Z B ρ σ w s) (e1:orB (brw ρ e) σ (evE Y.C e ρ σ) = some (v,σ')) (k:∀ c w1 s1,Post Z w s σ' w1 s1→Now Z B ρ σ' w1 s1→VB Z w1 s1.heap v c→K c s1):wpAny Z.M Y.A (eval pe B.env) K NoE s:=h.x.go X e1 k
theorem name_load {Q:Value→Shared→Prop} {i:Nat} {x:Str} {sl:Slot} (K:BlkOK B) (r:BR Z B ρ w s.heap) (hi:(i,x) ∈ B.tab) (hs:getS ρ i = some sl) (h1:(x == ("__classdict__":Str)) = false)
 (h2:(x == ("__debug__":Str)) = false) (h:∀ c,SlotR Z B.lo w s.heap sl c→Q c s):wpAny Z.M Y.A (eval (.Name x pos) B.env) Q NoE s:=
 r.elim λm ⟨cv,r⟩=>have q:=r.val i x hi sl hs; wpAny_Name (load_at K.env r.ns q.1 h1 (h _ q.2)) h2
theorem var_arm {i:Nat} {x:Str} (K:BlkOK B) (hi:(i,x) ∈ B.tab) (h1:(x == ("__classdict__":Str)) = false) (h2:(x == ("__debug__":Str)) = false):EOK Z Y B (.var i) (.Name x pos)∧XOK Z Y B (.var i) (.Name x pos):=
 ⟨λρ σ v σ' w s X e=>gV_is (M:=λo=>getS ρ i = o→_) e (λy e hs=>pr_is (M:=λv σ'=>wpAny Z.M Y.A _ (RE Z false w s σ' v) NoE s) e (name_load K X.br hi hs h1 h2 λc hc=>QV.is X.sim hc)) rfl,
  fun ρ σ v σ' w s X e=>match hs:getS ρ i with
   | none=>by rw [brw_var,hs] at e; exact nn ((congrArg (λo=>gV o λx=>some (x,σ)) hs).symm.trans e)
   | some (.v y)=>by rw [brw_var,hs] at e; exact pr_is (M:=λv σ'=>wpAny Z.M Y.A _ (QB Z w s σ' v) NoE s) ((congrArg (λo=>gV o λx=>some (x,σ)) hs).symm.trans e) (name_load K X.br hi hs h1 h2 λc hc=>.mk w (.refl X.sim) (.v hc))
   | some (.own l)=>by rw [brw_var,hs] at e; exact pr_is (M:=λv σ'=>wpAny Z.M Y.A _ (QB Z w s σ' v) NoE s) e (name_load K X.br hi hs h1 h2 λc hc=>OwnR.casesOn (motive:=λc _=>QB Z w s σ (.lst l) c s) hc λa xs n g r p _=>.mk w (.refl X.sim) (.own a xs n g r p.ph))⟩
theorem brw_none {e:E} (hb:∀ i,e ≠ .var i):brw ρ e = none:=dif_neg λh:e.ctorIdx = 4=>E.var.elim (motive_1:=λe=>(∀ i,e ≠ .var i)→False) e h (λi q=>q i rfl) hb
theorem xok_of (hb:∀ i,e ≠ .var i) (h:EOK Z Y B e pe):XOK Z Y B e pe:=λρ σ v σ' w s X e1=>h.go X ((congrArg (orB · σ (evE Y.C e ρ σ)) (brw_none hb)).symm.trans e1) λc w1 s1 P _ r=>.mk w1 P (.v r)
theorem bool_is {M:Value→Prop} {b:Bool} (h:VR Z w (.bool b) c) (m:M (.bool b)):M c:=Eq.subst (motive:=M) h m
theorem tok_of (h:EOK Z Y B e pe) (he:∀ whole,isTrue pe B.env whole = (do let v ← whole; standAt pe.pos; holding [v] (truthy v))):TOK Z Y B e pe:=λρ σ b σ' w s X e1=>
 isTrue_plain (h.go X e1 λc w1 s1 P _ hx=>bool_is (M:=λc=>wpAny Z.M Y.A (truthy c) _ NoE s1) hx (wpAny_truthy_bool (.mk w1 P))) (he _)
structure Wld (Z:Zt):Prop extends Base Z Z.h₀ where
 gl:∀ x v,Z.I.gl x = some v→∃ c,nsIn Z.I.K mainGlobals x = some (some c)∧∀ w:GW,(∀ a o,Z.h₀.get? a = some o→w.im a = some o)→VR Z w v c
theorem glob_name {Q:Value→Shared→Prop} {x:Str} {c:Value} (W:Wld Z) (K:BlkOK B) (X:Now Z B ρ σ w s) (hk:B.sc.lookup x = some .globalImplicit) (hx:nsIn Z.I.K mainGlobals x = some (some c))
 (hd:(x == ("__debug__":Str)) = false) (h:Q c s):wpAny Z.M Y.A (eval (.Name x pos) B.env) Q NoE s:=
 Name_function_global K.env.kind ((K.env.kindOf x).trans hk) (loadGlobal_global (by rw [K.env.glob]; exact W.g.keeps X.sim.keeps) (mg_of W.k W.g hx) h) hd
theorem built_name {Q:Value→Shared→Prop} {x:Str} {c:Value} (W:Wld Z) (K:BlkOK B) (X:Now Z B ρ σ w s) (hk:B.sc.lookup x = some .globalImplicit) (hx:nsIn Z.I.K mainGlobals x = some none)
 (hb:bootBuiltins x = some c) (hn:x ≠ "__name__") (hd:(x == ("__debug__":Str)) = false) (h:Q c s):wpAny Z.M Y.A (eval (.Name x pos) B.env) Q NoE s:=
 Name_function_global K.env.kind ((K.env.kindOf x).trans hk) (loadGlobal_builtin (by rw [K.env.glob]; exact W.g.keeps X.sim.keeps) (mg_none_of W.k W.g hx) (by rw [K.env.bi]; exact W.b.keeps X.sim.keeps) ((W.builtins x hn).trans hb) h) hd
theorem glo_arm {x:Str} {v0:V} (W:Wld Z) (K:BlkOK B) (hk:B.sc.lookup x = some .globalImplicit) (hg:Z.I.gl x = some v0) (hd:(x == ("__debug__":Str)) = false):EOK Z Y B (.glo x v0) (.Name x pos):=λρ σ v σ' w s X e=>
 pr_is (M:=λv σ'=>wpAny Z.M Y.A _ (RE Z false w s σ' v) NoE s) e ((W.gl x v0 hg).elim λc q=>glob_name W K X hk q.1 hd (QV.is X.sim (q.2 w X.sim.base)))
theorem neg_arm {i:Int} {k:Nat} {p1 p2:Pos}:EOK Z Y B (.neg (-i)) (.UnaryOp .USub (.Constant (.int i) k p1) p2):=λρ σ v σ' w s X e=>
 pr_is (M:=λv σ'=>wpAny Z.M Y.A _ (RE Z false w s σ' v) NoE s) e (UnaryOp_ (wpAny_Constant_int (neg_int (QV.here X.sim ⟨_⟩))))
theorem pow_arm {a b:Int} {k1 k2:Nat} {p1 p2 p3:Pos} (ha:a = 10) (hb:b = 18):EOK Z Y B (.pow 10 18) (.BinOp (.Constant (.int a) k1 p1) .Pow (.Constant (.int b) k2 p2) p3):=λρ σ v σ' w s X e=>ha ▸ hb ▸
 pr_is (M:=λv σ'=>wpAny Z.M Y.A _ (RE Z false w s σ' v) NoE s) e (wpAny_BinOp (wpAny_Constant_int (wpAny_Constant_int (AutoIntOps.pow_4 (by decide) (by decide) (by decide) (by decide) (by decide +kernel) (QV.here X.sim ⟨_⟩)))))
theorem bin_arm {op:Op} {a b:E} {pa pb:Expr} (ha:XOK Z Y B a pa) (hb:XOK Z Y B b pb):EOK Z Y B (.bin op a b) (.BinOp pa (opOf op) pb pos):=λρ σ v σ' w s X e=>
 b2_is e λx σ1 e1 e=>b2_is e λy σ2 e2 e=>wS_is (M:=λv σ'=>wpAny Z.M Y.A _ (QX Z w s σ' v) NoE s) e λz e3=>
  wpAny_BinOp (ha.go X e1 λcx w1 s1 P1 X1 hx=>hb.go X1 e2 λcy w2 s2 P2 X2 hy=>wpV (bin_ok X2.sim (.of_VB X2.sim (hx.post P2)) (.of_VB X2.sim hy) e3) λ_ _=>QX.trans (P1.trans P2))
theorem cmp_core {op:Cp} {a b:E} {pa pb:Expr} {Q:Bool→Shared→Prop} {r:Bool} (hu:Y.A.units < 9000) (ha:XOK Z Y B a pa) (hb:XOK Z Y B b pb) (X:Now Z B ρ σ w s) (e:evE Y.C (.cmp op a b) ρ σ = some (v,σ')) (k:∀ z s',v = .bool z→QT Z w s σ' z z s'→Q z s') :
 wpAny Z.M Y.A (eval pa B.env) (λcx s1=>wpAny Z.M Y.A (eval pb B.env) (λcy s2=>wpAny Z.M Y.A (compareOp (cmpOf op) cx cy) (λc s3=>∃ z,c = .bool z∧Q z s3) NoE s2) NoE s1) NoE s:=
 b2_is e λx σ1 e1 e=>b2_is e λy σ2 e2 e=>b1_is e λz e3 e=>ha.go X e1 λcx w1 s1 P1 X1 hx=>hb.go X1 e2 λcy w2 s2 P2 X2 hy=>wpV (cmp_ok hu X2.sim (.of_VB X2.sim (hx.post P2)) (.of_VB X2.sim hy) e3)
  fun c s3 ⟨q1,t,q2⟩=>⟨z,q1,k z s3 (pr_is (M:=λv _=>v = .bool z) e rfl) (pr_is (M:=λ_ σ'=>QT Z w s σ' z z s3) e (q2 ▸ .mk w2 (P1.trans P2).tok))⟩
theorem QT.toV {b:Bool}:QT Z w s σ' b b s'→QV Z w s σ' (.bool b) (.bool b) s'
 | .mk w' P=>.mk w' P rfl
theorem cmp_arm {op:Cp} {a b:E} {pa pb:Expr} (hu:Y.A.units < 9000) (hm:behindInMarks (cmpOf op) pb = false) (ha:XOK Z Y B a pa) (hb:XOK Z Y B b pb) :
 EOK Z Y B (.cmp op a b) (.Compare pa [cmpOf op] [pb] pos)∧TOK Z Y B (.cmp op a b) (.Compare pa [cmpOf op] [pb] pos):=
 ⟨λρ σ v σ' w s X e=>wpAny_Compare1 (wpV (cmp_core (r:=true) (Q:=λz s'=>QV Z w s σ' v (.bool z) s') hu ha hb X e λz s' h q=>h ▸ q.toV) λcx s1 h1=>wpV h1 λcy s2 h2=>wpV h2 λc s3 ⟨z,hc,q⟩=>hc ▸ q) hm,
  fun ρ σ b' σ' w s X e=>wpAny_isTrue_Compare1 (wpV (cmp_core (r:=true) (Q:=λz s'=>QT Z w s σ' b' z s') hu ha hb X e λz s' h q=>V.bool.inj h ▸ q) λcx s1 h1=>wpV h1 λcy s2 h2=>wpV h2 λc s3 ⟨z,hc,q⟩=>hc ▸ wpAny_truthy_bool q) hm⟩
end
section
variable {Z:Zt} {Y:Yt} {B:Blk} {w w' w0:GW} {s s' s0:Shared} {σ σ':H} {v:V} {c:Value} {ρ:Rho} {f:Bool} {e:E} {pe:Expr} {pos:Pos}
theorem VR.isNone {x:V} (h:VR Z w x c):(c == Value.none) = decide (x.ctorIdx = 0):=match x,h with
 | .none,r=>Eq.subst (motive:=λc=>(c == Value.none) = true) r rfl
 | .bool b,r=>Eq.subst (motive:=λc=>(c == Value.none) = false) r rfl
 | .int i,r=>IntR.casesOn (motive:=λc _=>(c == Value.none) = false) r λ_=>rfl
 | .str i,r=>StrR.casesOn (motive:=λc _=>(c == Value.none) = false) r λ_=>rfl
 | .tup l,r | .lst l,r=>SeqR.casesOn (motive:=λc _=>(c == Value.none) = false) r λ_ _ _ _ _=>rfl
 | .dct _ _,r=>DctR.casesOn (motive:=λc _=>(c == Value.none) = false) r λ_ _ _ _ _=>rfl
 | .ins _ _,r=>InsR.casesOn (motive:=λc _=>(c == Value.none) = false) r λ_ _ _ _ _ _=>rfl
 | .ref _,r=>RefR.casesOn (motive:=λc _=>(c == Value.none) = false) r λ_ _=>rfl
 | .obj _ _,r=>ObjR.casesOn (motive:=λc _=>(c == Value.none) = false) r λ_ _ _ _=>rfl
theorem isN_core {yes:Bool} {a:E} {pa:Expr} {k:Nat} {p1:Pos} {Q:Bool→Shared→Prop} (ha:EOK Z Y B a pa) (X:Now Z B ρ σ w s) (e:evE Y.C (.isN yes a) ρ σ = some (v,σ')) (q:∀ z s',v = .bool z→QT Z w s σ' z z s'→Q z s') :
 wpAny Z.M Y.A (eval pa B.env) (λcx s1=>wpAny Z.M Y.A (eval (.Constant .none k p1) B.env) (λcy s2=>wpAny Z.M Y.A (compareOp (if yes then .Is else .IsNot) cx cy) (λc s3=>∃ z,c = .bool z∧Q z s3) NoE s2) NoE s1) NoE s:=
 b2_is e λx σ1 e1 e=>ha.go X e1 λcx w1 s1 P1 X1 hx=>Constant_none (
  have h:Q (cond (decide (x.ctorIdx = 0)) yes !yes) s1:=q _ _ (pr_is (M:=λv _=>v = V.bool (cond (decide (x.ctorIdx = 0)) yes !yes)) e rfl) (pr_is (M:=λ_ σ'=>QT Z w s σ' (cond (decide (x.ctorIdx = 0)) yes !yes) (cond (decide (x.ctorIdx = 0)) yes !yes) s1) e (.mk w1 P1))
  match yes,h with
  | true,h=>is_none ⟨_,rfl,hx.isNone ▸ (by revert h; cases decide (x.ctorIdx = 0) <;> exact id)⟩
  | false,h=>isNot_none ⟨_,rfl,hx.isNone ▸ (by revert h; cases decide (x.ctorIdx = 0) <;> exact id)⟩)
theorem isN_arm {yes:Bool} {a:E} {pa:Expr} {k:Nat} {p1:Pos} (ha:EOK Z Y B a pa) :
 EOK Z Y B (.isN yes a) (.Compare pa [if yes then .Is else .IsNot] [.Constant .none k p1] pos)∧TOK Z Y B (.isN yes a) (.Compare pa [if yes then .Is else .IsNot] [.Constant .none k p1] pos):=
 ⟨λρ σ v σ' w s X e=>wpAny_Compare1 (wpV (isN_core (Q:=λz s'=>QV Z w s σ' v (.bool z) s') ha X e λz s' h q=>h ▸ q.toV) λcx s1 h1=>wpV h1 λcy s2 h2=>wpV h2 λc s3 ⟨z,hc,q⟩=>hc ▸ q) rfl,
  fun ρ σ b' σ' w s X e=>wpAny_isTrue_Compare1 (wpV (isN_core (Q:=λz s'=>QT Z w s σ' b' z s') ha X e λz s' h q=>V.bool.inj h ▸ q) λcx s1 h1=>wpV h1 λcy s2 h2=>wpV h2 λc s3 ⟨z,hc,q⟩=>hc ▸ wpAny_truthy_bool q) rfl⟩
theorem QT.trans {α:Type} {b r:α} (P:Post Z w0 s0 σ w s):QT Z w s σ' b r s'→QT Z w0 s0 σ' b r s'
 | .mk w' q=>.mk w' (P.trans q)
theorem wpT {α:Type} {Q Q':α→Shared→Prop} {M:Model} {A:Around} {m:Sem α} (h:wpAny M A m Q NoE s) (k:∀ c s',Q c s'→Q' c s'):wpAny M A m Q' NoE s:=wpAny_mono h k λ_ _ e=>e
theorem and_is {C:Orc} {e0 e1:E} {es:List E} {r:V×H} (e:evAnd C (e0 :: e1 :: es) ρ σ = some r):bT (evE C e0 ρ σ) (evAnd C (e1 :: es) ρ) (λσ=>some (.bool false,σ)) = some r:=e
theorem or_is {C:Orc} {e0 e1:E} {es:List E} {r:V×H} (e:evOr C (e0 :: e1 :: es) ρ σ = some r):bT (evE C e0 ρ σ) (λσ=>some (.bool true,σ)) (evOr C (e1 :: es) ρ) = some r:=e
theorem truthy_of {M:Model} {A:Around} {Q:Bool→Shared→Prop} {b:Bool} (h:VR Z w (.bool b) c) (k:Q b s):wpAny M A (truthy c) Q NoE s:=bool_is (M:=λc=>wpAny M A (truthy c) Q NoE s) h (wpAny_truthy_bool k)
structure BoolsOK (Z:Zt) (Y:Yt) (B:Blk) (ev:Rho→H→Option (V×H)) (pe:Expr):Prop where
 e:∀ (ρ:Rho) (σ:H) (v:V) (σ':H) (w:GW) (s:Shared),Now Z B ρ σ w s→ev ρ σ = some (v,σ')→wpAny Z.M Y.A (eval pe B.env) (QV Z w s σ' v) NoE s
 t:∀ (ρ:Rho) (σ:H) (b:Bool) (σ':H) (w:GW) (s:Shared),Now Z B ρ σ w s→ev ρ σ = some (.bool b,σ')→∀ whole,wpAny Z.M Y.A (isTrue pe B.env whole) (QT Z w s σ' b) NoE s
theorem and_arm:∀ {es:List E} {pes:List Expr},AllOK Z Y B es pes→BoolsOK Z Y B (evAnd Y.C es) (.BoolOp .And pes pos)
 | [],_,_=>⟨λρ σ v σ' w s X e=>nn e,λρ σ v σ' w s X e=>nn e⟩
 | [_],_,h=>h.cons_is λpe r h hr=>hr.nil_is ⟨λρ σ v σ' w s X e=>BoolOp_one (h.ee.go X e λc w1 s1 P _ r=>.mk w1 P r),λρ σ b σ' w s X e whole=>isTrue_and (h.t.go X e λw1 s1 P1 _=>match b with
  | false=>.mk w1 P1
  | true=>isTrue_and_nil (.mk w1 P1))⟩
 | e0 :: e1 :: es,_,h=>h.cons_is λpe0 r h hr=>
  have ih:=and_arm hr
  hr.cons_is (M:=λr=>BoolsOK Z Y B (evAnd Y.C (e1 :: es)) (.BoolOp .And r pos)→BoolsOK Z Y B (evAnd Y.C (e0 :: e1 :: es)) (.BoolOp .And (pe0 :: r) pos)) (λpe1 pes h1 hs ih=>
  ⟨λρ σ v σ' w s X e=>bT_is (and_is e) λb σ1 e0 e=>BoolOp_and (h.ee.go X e0 λc w1 s1 P1 X1 hx=>truthy_of hx (match b,e,hx with
   | true,e,_=>wpV (ih.e ρ σ1 v σ' w1 s1 X1 e) λ_ _=>QV.trans P1
   | false,e,hx=>pr_is (M:=λv σ'=>QV Z w s σ' v c s1) e (.mk w1 P1 hx))),
   fun ρ σ r σ' w s X e whole=>bT_is (and_is e) λb σ1 e0 e=>isTrue_and (h.t.go X e0 λw1 s1 P1 X1=>match b,e with
    | true,e=>wpT (ih.t ρ σ1 r σ' w1 s1 X1 e whole) λ_ _=>QT.trans P1
    | false,e=>pr_is (M:=λv σ'=>v = V.bool r→QT Z w s σ' r false s1) e (λh=>V.bool.inj h ▸ .mk w1 P1) rfl)⟩) ih
theorem or_arm:∀ {es:List E} {pes:List Expr},AllOK Z Y B es pes→BoolsOK Z Y B (evOr Y.C es) (.BoolOp .Or pes pos)
 | [],_,_=>⟨λρ σ v σ' w s X e=>nn e,λρ σ v σ' w s X e=>nn e⟩
 | [_],_,h=>h.cons_is λpe r h hr=>hr.nil_is ⟨λρ σ v σ' w s X e=>BoolOp_one (h.ee.go X e λc w1 s1 P _ r=>.mk w1 P r),λρ σ b σ' w s X e whole=>isTrue_or (h.t.go X e λw1 s1 P1 _=>match b with
  | true=>.mk w1 P1
  | false=>isTrue_or_nil (.mk w1 P1))⟩
 | e0 :: e1 :: es,_,h=>h.cons_is λpe0 r h hr=>
  have ih:=or_arm hr
  hr.cons_is (M:=λr=>BoolsOK Z Y B (evOr Y.C (e1 :: es)) (.BoolOp .Or r pos)→BoolsOK Z Y B (evOr Y.C (e0 :: e1 :: es)) (.BoolOp .Or (pe0 :: r) pos)) (λpe1 pes h1 hs ih=>
  ⟨λρ σ v σ' w s X e=>bT_is (or_is e) λb σ1 e0 e=>BoolOp_or (h.ee.go X e0 λc w1 s1 P1 X1 hx=>truthy_of hx (match b,e,hx with
   | false,e,_=>wpV (ih.e ρ σ1 v σ' w1 s1 X1 e) λ_ _=>QV.trans P1
   | true,e,hx=>pr_is (M:=λv σ'=>QV Z w s σ' v c s1) e (.mk w1 P1 hx))),
   fun ρ σ r σ' w s X e whole=>bT_is (or_is e) λb σ1 e0 e=>isTrue_or (h.t.go X e0 λw1 s1 P1 X1=>match b,e with
    | false,e=>wpT (ih.t ρ σ1 r σ' w1 s1 X1 e whole) λ_ _=>QT.trans P1
    | true,e=>pr_is (M:=λv σ'=>v = V.bool r→QT Z w s σ' r true s1) e (λh=>V.bool.inj h ▸ .mk w1 P1) rfl)⟩) ih
theorem conj_arm {es:List E} {pes:List Expr} (h:AllOK Z Y B es pes):EOK Z Y B (.conj es) (.BoolOp .And pes pos)∧TOK Z Y B (.conj es) (.BoolOp .And pes pos):=⟨(and_arm h).e,λρ σ b σ' w s X e=>(and_arm h).t ρ σ b σ' w s X e _⟩
theorem disj_arm {es:List E} {pes:List Expr} (h:AllOK Z Y B es pes):EOK Z Y B (.disj es) (.BoolOp .Or pes pos)∧TOK Z Y B (.disj es) (.BoolOp .Or pes pos):=⟨(or_arm h).e,λρ σ b σ' w s X e=>(or_arm h).t ρ σ b σ' w s X e _⟩
theorem not_arm {a:E} {pa:Expr} (h:AOK Z Y B a pa):EOK Z Y B (.not a) (.UnaryOp .Not pa pos)∧TOK Z Y B (.not a) (.UnaryOp .Not pa pos):=
 ⟨λρ σ v σ' w s X e=>b2_is e λx σ1 e1 e=>oBool_is (M:=λx=>evE Y.C a ρ σ = some (x,σ1)→_) e (λb e e1=>pr_is (M:=λv σ'=>wpAny Z.M Y.A _ (QV Z w s σ' v) NoE s) e (UnaryOp_ (h.ee.go X e1 λc w1 s1 P1 _ hx=>bool_is (M:=λc=>wpAny Z.M Y.A (unaryOp .Not c) _ NoE s1) hx (not_of (wpAny_truthy_bool (.mk w1 P1 rfl)))))) e1,
  fun ρ σ r σ' w s X e=>b2_is e λx σ1 e1 e=>oBool_is (M:=λx=>evE Y.C a ρ σ = some (x,σ1)→_) e (λb e e1=>pr_is (M:=λv σ'=>v = V.bool r→wpAny Z.M Y.A _ (QT Z w s σ' r) NoE s) e (λh'=>V.bool.inj h' ▸ isTrue_not (h.t.go X e1 λw1 s1 P1 _=>.mk w1 P1)) rfl) e1⟩
theorem ife_arm {t a b:E} {pt pa pb:Expr} (ht:AOK Z Y B t pt) (ha:AOK Z Y B a pa) (hb:AOK Z Y B b pb):EOK Z Y B (.ife t a b) (.IfExp pt pa pb pos)∧TOK Z Y B (.ife t a b) (.IfExp pt pa pb pos):=
 ⟨λρ σ v σ' w s X e=>bT_is e λb σ1 e1 e=>IfExp_ (ht.t.go X e1 λw1 s1 P1 X1=>match b,e with
  | true,e=>wpV (ha.ee ρ σ1 v σ' w1 s1 X1 e) λ_ _ q=>RE.trans P1 (q.weaken λz=>an2 z λz _=>z)
  | false,e=>wpV (hb.ee ρ σ1 v σ' w1 s1 X1 e) λ_ _ q=>RE.trans P1 (q.weaken λz=>an2 z λ_ z=>z)),
  fun ρ σ r σ' w s X e=>bT_is e λb σ1 e1 e=>isTrue_IfExp (ht.t.go X e1 λw1 s1 P1 X1=>match b,e with
   | true,e=>wpT (ha.t ρ σ1 r σ' w1 s1 X1 e) λ_ _=>QT.trans P1
   | false,e=>wpT (hb.t ρ σ1 r σ' w1 s1 X1 e) λ_ _=>QT.trans P1)⟩
noncomputable def plainPEs (l:List Expr):Bool:=l.all plainPE
theorem star_plain {pe:Expr} {pes:List Expr} {env:Env} (h:plainPE pe = true):starEach (pe :: pes) env = (false,eval pe env) :: starEach pes env:=by
 cases pe with
 | Slice=>exact ff h
 | Starred=>exact ff h
 | _=>rfl
theorem star_any {env:Env}:∀ {pes:List Expr},plainPEs pes = true→(backTo pos (starEach pes env)).any (·.1) = false
 | [],_=>rfl
 | pe :: pes,h=>an2 h λh1 h2=>star_plain (pes:=pes) (env:=env) h1 ▸ star_any (pes:=pes) h2
theorem es_arm:∀ {es:List E} {pes:List Expr},plainPEs pes = true→AllOK Z Y B es pes→EsOK Z Y B es pes
 | [],_,_,h=>h.nil_is λpos ρ σ l σ' w s X e=>pr_is (M:=λl σ'=>wpAny Z.M Y.A _ (QL Z w s σ' l) NoE s) e (PySem.Calls.spliced_nil (.mk w (.refl X.sim) .nil))
 | e0 :: es,_,hp,h=>h.cons_is (M:=λpes=>plainPEs pes = true→EsOK Z Y B (e0 :: es) pes) (λpe pes h hs hp pos ρ σ l σ' w s X e=>an2 hp λh1 h2=>b2_is e λx σ1 e1 e=>b2_is e λl2 σ2 e2 e=>pr_is (M:=λl σ'=>wpAny Z.M Y.A _ (QL Z w s σ' l) NoE s) e
  (star_plain (pes:=pes) (env:=B.env) h1 ▸ PySem.Calls.spliced_cons (h.ee.go X e1 λc w1 s1 P1 X1 hx=>(es_arm h2 hs).go X1 e2 λcs w2 s2 P2 _ hl=>.mk w2 (P1.trans P2) (.cons (hx.ext P2.ext) hl)))) hp
noncomputable def VBs (Z:Zt) (w:GW) (h:Heap):List V→List Value→Prop
 | [],cs=>[] = cs
 | v :: l,cs=>ConsR (VB Z w h v) (VBs Z w h l) cs
theorem VBs.rd {h:Heap} (X:Sim Z w σ h):∀ {l:List V} {cs:List Value},VBs Z w h l cs→RDs Z w h (l.map (dr σ)) cs
 | [],_,r=>r
 | _ :: _,_,r=>ConsR.imp (λ_=>RD.of_VB X) (λ_=>VBs.rd X) r
inductive QBs (Z:Zt) (w:GW) (s:Shared) (σ':H) (l:List V) (cs:List Value) (s':Shared):Prop
 | mk (w':GW):Post Z w s σ' w' s'→VBs Z w' s'.heap l cs→QBs Z w s σ' l cs s'
theorem xs_arm':∀ {es:List E} {pes:List Expr},plainPEs pes = true→AllOK Z Y B es pes→∀ (pos:Pos) (ρ:Rho) (σ:H) (l:List V) (σ':H) (w:GW) (s:Shared),Now Z B ρ σ w s→evXs Y.C es ρ σ = some (l,σ')→wpAny Z.M Y.A (spliced (backTo pos (starEach pes B.env))) (QBs Z w s σ' l) NoE s
 | [],_,_,h=>h.nil_is λpos ρ σ l σ' w s X e=>pr_is (M:=λl σ'=>wpAny Z.M Y.A _ (QBs Z w s σ' l) NoE s) e (PySem.Calls.spliced_nil (.mk w (.refl X.sim) rfl))
 | e0 :: es,_,hp,h=>h.cons_is (M:=λpes=>plainPEs pes = true→∀ (pos:Pos) (ρ:Rho) (σ:H) (l:List V) (σ':H) (w:GW) (s:Shared),Now Z B ρ σ w s→evXs Y.C (e0 :: es) ρ σ = some (l,σ')→wpAny Z.M Y.A (spliced (backTo pos (starEach pes B.env))) (QBs Z w s σ' l) NoE s)
  (λpe pes h hs hp pos ρ σ l σ' w s X e=>an2 hp λh1 h2=>b2_is e λx σ1 e1 e=>b2_is e λl2 σ2 e2 e=>pr_is (M:=λl σ'=>wpAny Z.M Y.A _ (QBs Z w s σ' l) NoE s) e
   (star_plain (pes:=pes) (env:=B.env) h1 ▸ PySem.Calls.spliced_cons (h.x.go X e1 λc w1 s1 P1 X1 hx=>wpT (xs_arm' h2 hs pos ρ σ1 l2 σ2 w1 s1 X1 e2) λcs s2 q=>q.casesOn λw2 P2 hl=>.mk w2 (P1.trans P2) (.mk c cs (hx.post P2) hl)))) hp
theorem xs_arm {es:List E} {pes:List Expr} (hp:plainPEs pes = true) (h:AllOK Z Y B es pes):XsOK Z Y B es pes:=λpos ρ σ l σ' w s X e=>wpT (xs_arm' hp h pos ρ σ l σ' w s X e) λ_ _ q=>q.casesOn λw' P r=>.mk w' P (r.rd P.sim)
theorem AllOK.length:∀ {es:List E} {pes:List Expr},AllOK Z Y B es pes→es.length = pes.length
 | [],_,h=>h.nil_is rfl
 | _ :: _,_,h=>h.cons_is λ_ _ _ h=>congrArg (· + 1) h.length
theorem evEs_length {C:Orc}:∀ {es:List E} {ρ:Rho} {σ:H} {l:List V} {σ':H},evEs C es ρ σ = some (l,σ')→l.length = es.length
 | [],_,_,_,_,e=>pr_is (M:=λl _=>l.length = 0) e rfl
 | e0 :: es,ρ,σ,l,σ',e=>b2_is e λx σ1 e1 e=>b2_is e λl2 σ2 e2 e=>pr_is (M:=λl _=>l.length = es.length + 1) e (congrArg (· + 1) (evEs_length e2))
theorem QF.pushAt {l:List V} {cs:List Value} (P:Post Z w0 s0 σ' w s) (r:VRs Z w l cs):QF Z w0 s0 σ' (.lst l) (.ref s.heap.objs.size) { s with heap:=s.heap.push { cls:=.type "list",data:=.seq cs.toArray } }:=QF.trans P (QF.push (t:=s.toks) (xs:=cs.toArray) P.sim r)
theorem disp_le {es:List E} {pes:List Expr} {l:List V} {cs:List Value} {C:Orc} (h:AllOK Z Y B es pes) (hl:pes.length ≤ 1000) (e:evEs C es ρ σ = some (l,σ')) (r:VRs Z w l cs):cs.length ≤ sizeLine:=le_line (by rw [r.length,evEs_length e,h.length]; omega)
theorem tup_arm {es:List E} {pes:List Expr} {k:Nat} (hp:plainPEs pes = true) (hl:pes.length ≤ 1000) (h:AllOK Z Y B es pes):EOK Z Y B (.tup es) (.Tuple pes k pos):=λρ σ v σ' w s X e=>
 b2_is e λl σ1 e1 e=>pr_is (M:=λv σ'=>wpAny Z.M Y.A _ (QV Z w s σ' v) NoE s) e (wpAny_Tuple_spliced ((es_arm hp h).go X e1 λcs w1 s1 P1 _ r=>⟨disp_le h hl e1 r,QV.trans P1 (QV.tuple (t:=s1.toks) (xs:=cs.toArray) P1.sim r)⟩))
theorem lst_arm {es:List E} {pes:List Expr} (hp:plainPEs pes = true) (hl:pes.length ≤ 1000) (h:AllOK Z Y B es pes):EOK Z Y B (.lst es) (.List pes pos):=λρ σ v σ' w s X e=>
 b2_is e λl σ1 e1 e=>pr_is (M:=λv σ'=>wpAny Z.M Y.A _ (QX Z w s σ' v) NoE s) e (wpAny_List_spliced ((es_arm hp h).go X e1 λcs w1 s1 P1 _ r=>⟨disp_le h hl e1 r,QF.pushAt P1 r⟩))
theorem QX.shared {σ'':H} {r:V} (q:QX Z w s σ' v c s') (e:allocs v σ' = some (r,σ'')):QV Z w s σ'' r c s':=match v,q,e with
 | .lst _,q,e=>QF.shared q e
 | .dct _ _,q,e=>QF.shared q e
 | .none,_,e | .bool _,_,e | .int _,_,e | .str _,_,e | .tup _,_,e | .ins _ _,_,e | .ref _,_,e | .obj _ _,_,e=>nn e
theorem shr_arm {a:E} {pa:Expr} (hf:fresh a = true) (h:EOK Z Y B a pa):EOK Z Y B (.shr a) pa:=λρ σ v σ' w s X e=>
 b2_is e λx σ1 e1 e=>wpV (h ρ σ x σ1 w s X e1) λc s' q=>QX.shared (s':=s') (c:=c) (by rw [hf] at q; exact q) e
end
section
variable {Z:Zt} {Y:Yt} {B:Blk} {w w' w0:GW} {s s' s0:Shared} {σ σ':H} {v:V} {c:Value} {ρ:Rho} {f:Bool} {e:E} {pe:Expr} {pos:Pos} {a i n:E} {pa pi:Expr}
theorem idx_arm (hp:plainPE pi = true) (ha:XOK Z Y B a pa) (hi:EOK Z Y B i pi):EOK Z Y B (.idx a i) (.Subscript pa pi pos):=λρ σ v σ' w s X e=>
 b2_is e λx σ1 e1 e=>b2_is e λy σ2 e2 e=>wS_is (M:=λv σ'=>wpAny Z.M Y.A _ (QV Z w s σ' v) NoE s) e λz e3=>
  Subscript_ (ha.go X e1 λcx w1 s1 P1 X1 hx=>hi.go X1 e2 λcy w2 s2 P2 X2 hy=>wpV (idx_ok hp X2.sim (.of_VB X2.sim (hx.post P2)) hy e3) λ_ _=>QV.trans (P1.trans P2))
inductive SlOK (Z:Zt) (Y:Yt) (B:Blk):Sl→E→Option Expr→Option Expr→Option Expr→Prop
 | rev {n k p1 p2}:SlOK Z Y B .rev n none none (some (.UnaryOp .USub (.Constant (.int 1) k p1) p2))
 | from1 {n k p1}:SlOK Z Y B .from1 n (some (.Constant (.int 1) k p1)) none none
 | revTo1 {n k p1 p2 k3 p3}:SlOK Z Y B .revTo1 n none (some (.Constant (.int 0) k3 p3)) (some (.UnaryOp .USub (.Constant (.int 1) k p1) p2))
 | upto {n pn}:EOK Z Y B n pn→SlOK Z Y B .upto n none (some pn) none
theorem slc_fin {k:Sl} {x n:V} {pl pu pk:Option Expr} {pp:Pos} {cx cl cu ck cn:Value} {w1 w2:GW} {s1 s2:Shared} {σ1:H} (P1:Post Z w s σ1 w1 s1) (hx:VB Z w1 s1.heap x cx) (P2:Post Z w1 s1 σ' w2 s2) (hn:VR Z w2 n cn) (hk:SlV cl cu ck cn pk k) (e:slcOp k (dr σ' x) n = some v) :
 wpAny Z.M Y.A (subscriptTail pa (.Slice pl pu pk pp) cx (.ref s2.heap.objs.size)) (QX Z w s σ' v) NoE { s2 with heap:=s2.heap.push { cls:=.type "slice",data:=.fields #[cl,cu,ck] } }:=
 have P3:Post Z w1 s1 σ' w2 { s2 with heap:=s2.heap.push { cls:=.type "slice",data:=.fields #[cl,cu,ck] } }:=P2.pushed (t:=s2.toks)
 wpV (slc_ok (s:={ s2 with heap:=s2.heap.push { cls:=.type "slice",data:=.fields #[cl,cu,ck] } }) P3.sim (.of_VB P3.sim (hx.post P3)) hn (Heap.IsSliceOf.new _ _ _ _) hk e) λ_ _=>QX.trans (P1.trans P3)
theorem slc_in {α:Type} {k:Sl} {a b r:Option α} (hk:k.ctorIdx ≠ 3) (e:(if k.ctorIdx = 3 then a else b) = r):b = r:=(if_neg hk).symm.trans e
theorem slc_up {α:Type} {a b r:Option α} (e:(if Sl.upto.ctorIdx = 3 then a else b) = r):a = r:=e
theorem part {M:Model} {A:Around} {E:Value→Shared→Prop} {Q:Value→Shared→Prop} {pe:Expr} {env:Env} (h:wpAny M A (eval pe env) Q E s):wpAny M A (evalPart (some pe) env) Q E s:=by rw [evalPart_some]; exact h
theorem slc_arm {k:Sl} {pl pu pk:Option Expr} {pp:Pos} (ha:XOK Z Y B a pa) (hk:SlOK Z Y B k n pl pu pk):EOK Z Y B (.slc k a n) (.Subscript pa (.Slice pl pu pk pp) pos):=λρ σ v σ' w s X e=>match hk,e with
 | .rev,e=>b2_is e λx σ1 e1 e=>wS_is (M:=λv σ'=>wpAny Z.M Y.A _ (QX Z w s σ' v) NoE s) (slc_in (by decide) e) λz e3=>Subscript_ (ha.go X e1 λcx w1 s1 P1 X1 hx=>wpAny_Slice (wpAny_pure (wpAny_pure (part (UnaryOp_ (wpAny_Constant_int (neg_int (slc_fin (k:=.rev) P1 hx (Post.self P1.sim) (n:=.none) rfl ⟨rfl,rfl,⟨_,rfl⟩,rfl⟩ e3))))))))
 | .from1,e=>b2_is e λx σ1 e1 e=>wS_is (M:=λv σ'=>wpAny Z.M Y.A _ (QX Z w s σ' v) NoE s) (slc_in (by decide) e) λz e3=>Subscript_ (ha.go X e1 λcx w1 s1 P1 X1 hx=>wpAny_Slice (part (wpAny_Constant_int (wpAny_pure (wpAny_pure (slc_fin (k:=.from1) P1 hx (Post.self P1.sim) (n:=.none) rfl ⟨⟨_,rfl⟩,rfl,rfl,rfl⟩ e3))))))
 | .revTo1,e=>b2_is e λx σ1 e1 e=>wS_is (M:=λv σ'=>wpAny Z.M Y.A _ (QX Z w s σ' v) NoE s) (slc_in (by decide) e) λz e3=>Subscript_ (ha.go X e1 λcx w1 s1 P1 X1 hx=>wpAny_Slice (wpAny_pure (part (wpAny_Constant_int (part (UnaryOp_ (wpAny_Constant_int (neg_int (slc_fin (k:=.revTo1) P1 hx (Post.self P1.sim) (n:=.none) rfl ⟨rfl,⟨_,rfl⟩,⟨_,rfl⟩,rfl⟩ e3)))))))))
 | .upto hn,e=>b2_is e λx σ1 e1 e=>b2_is (slc_up e) λy σ2 e2 e=>wS_is (M:=λv σ'=>wpAny Z.M Y.A _ (QX Z w s σ' v) NoE s) e λz e3=>Subscript_ (ha.go X e1 λcx w1 s1 P1 X1 hx=>wpAny_Slice (wpAny_pure (part (hn.go X1 e2 λcn w2 s2 P2 X2 hy=>wpAny_pure (slc_fin (k:=.upto) P1 hx P2 hy ⟨rfl,rfl,rfl,rfl⟩ e3)))))
noncomputable def attrOk (I:Info) (cl k:Nat) (x:Str):Bool:=clsOk I.K (I.cadr cl) && (fieldOk I.K (I.cadr cl) x && ((I.flds cl)[k]? == some x))
theorem attr_arm {cl k:Nat} {x:Str} (W:Base Z Z.h₀) (hc:attrOk Z.I cl k x = true) (hb:∀ env whole,attributeBase pa x env whole = whole) (ha:EOK Z Y B a pa):EOK Z Y B (.attr a cl k x) (.Attribute pa x pos):=λρ σ v σ' w s X e=>
 an3 hc λh1 h2 h3=>b2_is e λy σ1 e1 e=>wS_is (M:=λv σ'=>wpAny Z.M Y.A _ (QV Z w s σ' v) NoE s) e λz e3=>
  Attribute_any_ (ha.go X e1 λcx w1 s1 P1 X1 hx=>wpV (attr_ok (W.k.keeps X1.sim.keeps) X1.sim hx e3 (clsOk_is h1) h2 (eq_of_beq h3)) λ_ _=>QV.trans P1) (by rw [arm_eval_Attribute,hb])
noncomputable def CallOK (Z:Zt) (C:Orc) (d:Nat):Prop:=∀ (f:Nat) (args:List V) (σ:H) (v:V) (σ':H),C f args σ = some (v,σ')→
 ∀ (A:Around) (w:GW) (s:Shared) (cs:List Value),Room A d→Sim Z w σ s.heap→VRs Z w args cs→wpAny Z.M A (call (.ref (Z.I.addr f)) cs) (QV Z w s σ' v) NoE s
theorem callArgs {P:Heap→Prop} {M:Model} {A:Around} {E:Value→Shared→Prop} {f:Value} {first:List Value} {pes:List Expr} {env:Env} {Q:Value→Shared→Prop} (hp:plainPEs pes = true) (hk:∀ h,P h→∃ k,(k = Keeper.frame∨k = Keeper.machine∨k = Keeper.boundFrame)∧Looks M h (keeperOf f) k)
 (h:wpAny M A (spliced (backTo pos (starEach pes env))) (λvs s₁=>P s₁.heap∧wpAny M A (call f (first ++ vs)) Q E s₁) E s):wpAny M A (callWith pos f first (backTo pos (starEach pes env)) []) Q E s:=
 callWith_of (P:=P) (by rw [star_any hp]; rfl) hk (match pes,hp,h with
  | [],_,h=>λΓ p hΓ=>evalArgs_nil3 (h Γ p hΓ) Γ p hΓ
  | pe :: pes,hp,h=>an2 hp λh1 h2=>by rw [star_plain h1] at h ⊢; exact evalArgs_plain h)
theorem keeps_B {M:Model} {f:Value} (hf:∀ a,f ≠ .ref a) (h:Heap) (_:True):∃ k,(k = Keeper.frame∨k = Keeper.machine∨k = Keeper.boundFrame)∧Looks M h (keeperOf f) k:=
 ⟨.machine,.inr (.inl rfl),by unfold keeperOf; cases f <;> first | exact .now | exact absurd rfl (hf _)⟩
noncomputable def fnOk (I:Info) (f:Nat):Bool:=(nsIn I.K mainGlobals (I.name f) == some (some (.ref (I.addr f)))) && keepIn I.K (.ref (I.addr f))
theorem callF_arm {f:Nat} {es:List E} {pes:List Expr} {np:Pos} {d:Nat} (W:Wld Z) (K:BlkOK B) (R:Room Y.A d) (hC:CallOK Z Y.C d) (hf:fnOk Z.I f = true) (hk:B.sc.lookup (Z.I.name f) = some .globalImplicit)
 (hd:(Z.I.name f == ("__debug__":Str)) = false) (hp:plainPEs pes = true) (h:AllOK Z Y B es pes):EOK Z Y B (.callF f es) (.Call (.Name (Z.I.name f) np) pes [] pos):=λρ σ v σ' w s X e=>
 an2 hf λh1 h2=>b2_is e λl σ1 e1 e=>by
  rw [arm_eval_Call_Name']
  exact wpAny_bind (glob_name W K X hk (eq_of_beq h1) hd (callArgs (P:=Z.I.K.In) (first:=[]) hp (keeps_K h2) ((es_arm hp h).go X e1 λcs w1 s1 P1 X1 hl=>⟨W.k.keeps X1.sim.keeps,wpV (hC f l σ1 v σ' e Y.A w1 s1 cs R X1.sim hl) λ_ _=>QV.trans P1⟩)))
theorem methodCall_eq {o:Expr} {name:Str} {apos pos:Pos} {env:Env} {ov:Value} {pes:List Expr} (hp:plainPEs pes = true) (hl:pes.length < 30) (hpos:(apos.endLine == pos.line) = true) :
 methodCall o name apos pos env ov (pes.length + ([]:List Keyword).length) (backTo pos (starEach pes env)) (backToKw pos (keywordEach [] env)) =
  (holding [ov] (getMethod ov name (do return (← importBound o env).getD true)) >>= λfx=>callWith pos fx.1 fx.2 (backTo pos (starEach pes env)) []):=by
 have h0:(backTo pos (starEach pes env)).all (λx=>!x.1) = true:=by
  rw [List.all_eq_not_any_not]
  simp only [Bool.not_not]
  rw [star_any hp]; rfl
 have h1:methodCallForm (pes.length + ([]:List Keyword).length) (backTo pos (starEach pes env)) (backToKw pos (keywordEach [] env)) = true:=by
  unfold methodCallForm
  rw [h0]
  exact decide_eq_true hl
 unfold methodCall
 rw [h1]
 unfold calleeOf methodCallPos
 rw [hpos]
 rfl
theorem methCall {o:Expr} {name:Str} {apos:Pos} {env:Env} {pes:List Expr} {Q:Value→Shared→Prop} (hb:∀ env whole,attributeBase o name env whole = whole) (hp:plainPEs pes = true) (hl:pes.length < 30) (hpos:(apos.endLine == pos.line) = true)
 (h:wpAny Z.M Y.A (eval o env) (λov s1=>∀ pl,wpAny Z.M Y.A (getMethod ov name pl) (λfx s2=>wpAny Z.M Y.A (callWith pos fx.1 fx.2 (backTo pos (starEach pes env)) []) Q NoE s2) NoE s1) NoE s) :
 wpAny Z.M Y.A (eval (.Call (.Attribute o name apos) pes [] pos) env) Q NoE s:=by
 rw [arm_eval_Call,hb]
 refine wpAny_bind (wpV h λov s1 h1=>wpAny_bind (wpAny_standAt ?_))
 rw [methodCall_eq hp hl hpos]
 exact wpAny_bind (wpAny_holding (h1 _))
noncomputable def methOk (I:Info) (f cl:Nat):Bool:=clsOk I.K (I.cadr cl) && (findIn I.K (.ref (I.cadr cl)) (I.name f) == some (some (.ref (I.addr f))) && (typeIn I.K (.ref (I.addr f)) == some (.type "function") && (keepIn I.K (.ref (I.addr f)) &&
 !((I.flds cl).contains (I.name f)))))
theorem nb {b:Bool} (h:(!b) = true):b = false:=match b,h with
 | false,_=>rfl
theorem callM_arm {f cl:Nat} {es:List E} {pes:List Expr} {apos:Pos} {d:Nat} (W:Wld Z) (R:Room Y.A d) (hC:CallOK Z Y.C d) (hm:methOk Z.I f cl = true)
 (hb:∀ env whole,attributeBase pa (Z.I.name f) env whole = whole) (hp:plainPEs pes = true) (hl:pes.length < 30) (hpos:(apos.endLine == pos.line) = true) (ha:EOK Z Y B a pa) (h:AllOK Z Y B es pes):EOK Z Y B (.callM f cl a es) (.Call (.Attribute pa (Z.I.name f) apos) pes [] pos):=λρ σ v σ' w s X e=>
 an3 hm λh1 h2 h3=>an2 h3 λh3 h4=>an2 h4 λh4 h5=>b2_is e λy σ1 e1 e=>gd_is e λhcl e=>b2_is e λl σ2 e2 e=>methCall hb hp hl hpos (ha.go X e1 λcx w1 s1 P1 X1 hx pl=>
  (Option.isSome_iff_exists.mp hcl).elim λl0 hcl=>FldAt.casesOn (motive:=λc _=>VR Z w1 y c→wpAny Z.M Y.A (getMethod c _ pl) _ NoE s1) (clsF_is X1.sim hx hcl) (λa d o kvs g1 g2 D hk _ hx=>method_ok (W.k.keeps X1.sim.keeps) (clsOk_is h1) g1 g2 D (by rw [hk]; exact nb h5) (eq_of_beq h2) (eq_of_beq h3)
   (callArgs (P:=Z.I.K.In) hp (keeps_K h4) ((es_arm hp h).go X1 e2 λcs w2 s2 P2 X2 hl'=>⟨W.k.keeps X2.sim.keeps,wpV (hC f (y :: l) σ2 v σ' e Y.A w2 s2 (_ :: cs) R X2.sim (.cons (hx.ext P2.ext) hl')) λ_ _=>QV.trans (P1.trans P2)⟩))) hx)
noncomputable def nobase (b:Expr):Bool:=decide (b.ctorIdx ≠ 16)
theorem nobase_is {b:Expr} (h:nobase b = true) (x:Str) (env:Env) (whole:Sem Value):attributeBase b x env whole = whole:=by
 cases b with
 | Call=>exact ff h
 | _=>rfl
noncomputable def biOk (I:Info) (b:Bi):Bool:=nsIn I.K mainGlobals (biV b).1 == some none
theorem biV_boot (b:Bi):bootBuiltins (biV b).1 = some (biV b).2:=by cases b <;> kernel_rfl
theorem biV_name (b:Bi):(biV b).1 ≠ "__name__":=by cases b <;> decide
theorem biV_debug (b:Bi):((biV b).1 == ("__debug__":Str)) = false:=by cases b <;> decide
theorem biV_ref (b:Bi) (a:Addr):(biV b).2 ≠ .ref a:=by cases b <;> exact λh=>nomatch h
theorem bi_call {b:Bi} {pes:List Expr} {np:Pos} {Q:Value→Shared→Prop} (W:Wld Z) (K:BlkOK B) (X:Now Z B ρ σ w s) (hb:biOk Z.I b = true) (hk:B.sc.lookup (biV b).1 = some .globalImplicit) (hp:plainPEs pes = true)
 (h:wpAny Z.M Y.A (spliced (backTo pos (starEach pes B.env))) (λcs s1=>wpAny Z.M Y.A (call (biV b).2 cs) Q NoE s1) NoE s):wpAny Z.M Y.A (eval (.Call (.Name (biV b).1 np) pes [] pos) B.env) Q NoE s:=by
 rw [arm_eval_Call_Name']
 exact wpAny_bind (built_name W K X hk (eq_of_beq hb) (biV_boot b) (biV_name b) (biV_debug b) (callArgs (P:=λ_=>True) (first:=[]) hp (keeps_B (biV_ref b)) (wpT h λ_ _ h=>⟨trivial,h⟩)))
theorem bi_arm {b:Bi} {es:List E} {pes:List Expr} {np:Pos} (W:Wld Z) (K:BlkOK B) (hh:Y.A.handled = none) (h1:b ≠ .sorted) (h2:b ≠ .dict) (hb:biOk Z.I b = true) (hk:B.sc.lookup (biV b).1 = some .globalImplicit)
 (hp:plainPEs pes = true) (h:AllOK Z Y B es pes):EOK Z Y B (.bi b es) (.Call (.Name (biV b).1 np) pes [] pos):=λρ σ v σ' w s X e=>
 b2_is e λl σ1 e1 e=>wS_is (M:=λv σ'=>wpAny Z.M Y.A _ (QX Z w s σ' v) NoE s) e λz e3=>bi_call W K X hb hk hp (wpT (xs_arm hp h pos ρ σ l σ1 w s X e1) λcs s1 q=>q.casesOn λw1 P1 hl=>wpV (bi1_ok hh P1.sim hl e3 h1 h2) λ_ _=>QX.trans P1)
theorem get2_val {t:Nat} {kvs:List (Str×Value)} {vs:List V} {x:Str} {xv:V} {cx:Value} (X:Sim Z w σ s.heap) (hv:VRs Z w vs (kvs.map (·.2))) (hx:VR Z w xv cx):QV Z w s σ ((lk (kvs.map (·.1)) vs x).getD xv) ((valueAt kvs x).getD cx) { s with toks:=t }:=
 (valueAt_both x hv).elim (λq=>by rw [q.1,q.2]; exact .here X hx) λ⟨r,c,h1,h2,h3⟩=>by rw [h1,h2]; exact .here X h3
theorem dct_of {v:V} {M:V→Prop} (h:isDct v = true) (m:∀ ks vs,M (.dct ks vs)):M v:=V.dct.elim (motive_1:=M) v (of_decide_eq_true h) m
theorem get2_arm {d k x:E} {pd pk px:Expr} {apos:Pos} (hb:nobase pd = true) (hp:plainPEs [pk,px] = true) (hpos:(apos.endLine == pos.line) = true)
 (hd:EOK Z Y B d pd) (hk:AOK Z Y B k pk) (hx:AOK Z Y B x px):EOK Z Y B (.get2 d k x) (.Call (.Attribute pd "get" apos) [pk,px] [] pos):=λρ σ v σ' w s X e=>
 b2_is e λdv σ1 e1 e=>gd_is e λhdc e=>b2_is e λkv σ2 e2 e=>b2_is e λxv σ3 e3 e=>methCall (nobase_is hb _) hp (show [pk,px].length < 30 from (by decide:2 < 30)) hpos (hd.go X e1 λcd w1 s1 P1 X1 hdr pl=>
  dct_of (M:=λv=>RD Z w1 s1.heap v cd→_) hdc (λks1 vs1 D1=>DctR.casesOn (motive:=λc _=>VR Z w1 dv c→wpAny Z.M Y.A (getMethod c "get" pl) _ NoE s1) D1 (λad o g hn q hdr=>q.casesOn λkvs1 D _ _=>
   have g2:=Heap.dictOf_iff.mpr ⟨o,g,D⟩
   getMethod_builtin g2.typeIs PySem.F.plainAttrs_dict PySem.F.slot_dict_get PySem.F.type_dict_get g2.mapOf.noDict (callArgs (P:=λ_=>True) hp (keeps_B (λa h=>nomatch h)) ((es_arm hp (.cons hk (.cons hx .nil))).go X1 (l:=[kv,xv]) (σ':=σ3) (by simp only [evEs,e2,e3,b2_some]) λcs w2 s2 P2 X2 hl=>⟨trivial,
    hl.cons_is λck r hck r1=>r1.cons_is λcx r2 hcx r3=>r3.nil_is (
     oDct_is (M:=λv=>RD Z w2 s2.heap v (.ref ad)→_) e (λks vs e D2=>oStr_is (M:=λkv=>VR Z w2 kv ck→_) e (λst e hck=>pr_is (M:=λv σ'=>wpAny Z.M Y.A _ (QV Z w s σ' v) NoE s2) e (StrR.casesOn (motive:=λck _=>wpAny Z.M Y.A (call _ [.ref ad,ck,cx]) _ NoE s2) hck λt=>
          DctR.casesOn (motive:=λc _=>Value.ref ad = c→_) D2 (λad' o' g' hn' q' ea=>q'.casesOn λkvs D' hk hv=>by
           have ea:=Value.ref.inj ea
           subst ea
           have g4:=Heap.dictOf_iff.mpr ⟨o',g',D'⟩
           subst hk
           exact call_meetsIn PySem.F.slot_dict_get g4.typeIs PySem.F.entry_dict_get (PySem.F.args_dict_get_3 _ _ _) (meets_dict_get_default Z.knd ad (strKind_is Z.pg Z.wd st t) (beq_eq_false_iff_ne.mpr hn') cx) ⟨_,g4.mapOf,QV.trans (P1.trans P2) (get2_val X2.sim hv hcx)⟩) rfl)) hck) (RD.of_dr X2.sim (hdr.ext P2.ext)))⟩))) hdr) (RD.of_dr X1.sim hdr))
end
section
variable {Z:Zt} {Y:Yt} {B:Blk} {w w' w'' wE wB w0:GW} {s s' s'' sE sB s0:Shared} {σ σ':H} {v:V} {c:Value} {ρ ρ' ρ'' ρ0:Rho} {cv cv' cv'' cv0 cvB:Nat→Value} {X X':Addr→Prop}
structure Step (B:Blk) (X:Addr→Prop) (ρ:Rho) (cv:Nat→Value) (w:GW) (s:Shared) (ρ':Rho) (cv':Nat→Value) (w':GW) (s':Shared):Prop where
 keep:∀ b o,s.heap.get? b = some o→b ∉ w.ph→¬ Mut B ρ cv b→¬ X b→s'.heap.get? b = some o∧b ∉ w'.ph∧(w.im b = none→w'.im b = none)∧¬ Mut B ρ' cv' b
 le:WLe w w'
theorem Step.refl:Step B X ρ cv w s ρ cv w s:=⟨λ_ _ e n m _=>⟨e,n,id,m⟩,.refl⟩
theorem Step.trans (x:Step B X ρ cv w s ρ' cv' w' s') (y:Step B X ρ' cv' w' s' ρ'' cv'' w'' s''):Step B X ρ cv w s ρ'' cv'' w'' s'':=
 ⟨λb o e n1 n2 n3=>have ⟨e',n',i',m'⟩:=x.keep b o e n1 n2 n3
  have ⟨e2,n2',i2,m2⟩:=y.keep b o e' n' m' n3
  ⟨e2,n2',λz=>i2 (i' z),m2⟩,x.le.trans y.le⟩
theorem Post.step (P:Post Z w s σ' w' s'):Step B X ρ cv w s ρ cv w' s':=⟨λb o e n m _=>⟨P.keep b o e n,P.ext.notin e n,P.ext.imNone e,m⟩,P.ext.le⟩
theorem Step.more (hX:∀ b,X b→X' b) (st:Step B X ρ cv w s ρ' cv' w' s'):Step B X' ρ cv w s ρ' cv' w' s':=⟨λb o e n m y=>st.keep b o e n m λx=>y (hX b x),st.le⟩
structure ST (Z:Zt) (B:Blk) (wE:GW) (sE:Shared) (ρ:Rho) (σ:H) (cv:Nat→Value) (w:GW) (s:Shared):Prop where
 post:Post Z wE sE σ w s
 er:∃ m,ER Z B w ρ s.heap m cv
theorem ST.now (t:ST Z B wE sE ρ σ cv w s):Now Z B ρ σ w s:=⟨t.post.sim,let ⟨m,r⟩:=t.er; ⟨m,cv,r⟩⟩
theorem ST.go (t:ST Z B wE sE ρ σ cv w s) (P:Post Z w s σ' w' s'):ST Z B wE sE ρ σ' cv w' s':=⟨t.post.trans P,let ⟨m,r⟩:=t.er; ⟨m,r.post P⟩⟩
theorem ST.there (t:ST Z B wE sE ρ σ cv w s) {b:Addr} (m:Mut B ρ cv b):(∃ o,s.heap.get? b = some o)∧Priv w b:=t.er.elim λ_ r=>r.there m
theorem ST.noMut (t:ST Z B wE sE ρ σ cv w s) {b:Addr} (n:s.heap.get? b = none):¬ Mut B ρ cv b:=λm=>(t.there m).1.elim λo e=>no_so n e
structure Nm (B:Blk) (i:Nat) (x:Str):Prop where
 tab:(i,x) ∈ B.tab
 may:storable B x
 st:B.st x = true
structure Stored (Z:Zt) (B:Blk) (X:Addr→Prop) (wE:GW) (sE:Shared) (ρ0:Rho) (cv0:Nat→Value) (w0:GW) (s0:Shared) (ρ':Rho) (σ:H) (cv':Nat→Value) (w:GW) (s:Shared) (s':Shared):Prop where
 t:ST Z B wE sE ρ' σ cv' w s'
 st:Step B X ρ0 cv0 w0 s0 ρ' cv' w s'
 keep:∀ b o,s.heap.get? b = some o→b ≠ B.env.locals→(∀ z,B.env.cells.lookup z ≠ some b)→s'.heap.get? b = some o
theorem put_ok {Q:Unit→Shared→Prop} (K:BlkOK B) (hlo:B.lo = sE.heap) {i:Nat} {x:Str} {sl:Slot} (hi:Nm B i x) (t:ST Z B wE sE ρ σ cv w s) (base:Step B X ρ0 cv0 w0 s0 ρ cv w s) (hsl:SlotR Z B.lo w s.heap sl c)
 (hown:∀ l,sl = .own l→∀ j l',j ≠ i→(∃ y,(j,y) ∈ B.tab)→getS ρ j = some (.own l')→cv j ≠ c) (hnew:∀ l b,sl = .own l→c = .ref b→s0.heap.get? b = none)
 (h:∀ s',Stored Z B X wE sE ρ0 cv0 w0 s0 (ρ.set i (some sl)) σ (λj=>if j = i then c else cv j) w s s'→Q () s'):wpAny Z.M Y.A (storeName B.env x c) Q NoE s:=
 t.er.elim λm r=>store_ok K t.post r hi.tab hi.may (hlo ▸ r.bnd) (λa ha=>hlo ▸ (r.cell x a ha).new hi.st) hsl hown λh' tk m' P' r' hk hz=>
  h _ ⟨⟨P',m',r'⟩,⟨λb o e n1 n2 n3=>have ⟨e',n',i',m''⟩:=base.keep b o e n1 n2 n3
   ⟨hk b o (λq=>m'' (.inl q)) (λa ha q=>m'' (.inr (.inl ⟨x,q ▸ ha⟩))) e',n',i',λmm=>mm.elim (λq=>m'' (.inl q)) λmm=>mm.elim (λq=>m'' (.inr (.inl q))) λ⟨j,y,l,hj,hg,hc⟩=>
    set_is hg (λh1 _ h2=>no_so (hnew l b h2 ((if_pos h1).symm.trans hc)) e) λh1 hg=>m'' (.inr (.inr ⟨j,y,l,hj,hg,(if_neg h1).symm.trans hc⟩))⟩,base.le⟩,λb o e n1 n2=>hk b o n1 (λa ha q=>n2 x (q ▸ ha)) e⟩
theorem putv_ok {Q:Unit→Shared→Prop} (K:BlkOK B) (hlo:B.lo = sE.heap) {i:Nat} {x:Str} {y:V} (hi:Nm B i x) (t:ST Z B wE sE ρ σ cv w s) (hv:VR Z w y c)
 (h:∀ s' cv',ST Z B wE sE (setV ρ i y) σ cv' w s'→Step B X ρ cv w s (setV ρ i y) cv' w s'→Q () s'):wpAny Z.M Y.A (storeName B.env x c) Q NoE s:=
 put_ok K hlo hi t .refl (sl:=.v y) hv (λl e=>nomatch e) (λl b e=>nomatch e) λs' q=>h s' _ q.t q.st
inductive TgOK (B:Blk):Tg→Expr→Prop
 | one {i x p}:Nm B i x→TgOK B (.one i) (.Name x p)
 | two {i j x y p1 p2 k p}:Nm B i x→Nm B j y→TgOK B (.two i j) (.Tuple [.Name x p1,.Name y p2] k p)
theorem extBut_new {h h':Heap} (x:Heap.ExtBut h.objs.size h h') (b:Addr) (o:Obj) (e:h.get? b = some o):h'.get? b = some o:=x b o (Nat.ne_of_lt (Heap.lt_size e)) e
theorem two_arr {a b:V} {xs:Array Value} {M:Array Value→Prop} (r:VRs Z w [a,b] xs.toList) (m:∀ ca cb,VR Z w a ca→VR Z w b cb→M #[ca,cb]):M xs:=by
 obtain ⟨l⟩:=xs
 exact VRs.cons_is (M:=λl=>M ⟨l⟩) r λca r1 va r=>r.cons_is (M:=λr1=>M ⟨ca :: r1⟩) λcb r2 vb r=>r.nil_is (M:=λr2=>M ⟨ca :: cb :: r2⟩) (m ca cb va vb)
theorem assign_ok {Q:Unit→Shared→Prop} (hh:Y.A.handled = none) (K:BlkOK B) (hlo:B.lo = sE.heap) {tg:Tg} {pt:Expr} (ht:TgOK B tg pt) {y:V} (hb:bindT tg ρ y = some ρ') (t:ST Z B wE sE ρ σ cv w s) (hv:VR Z w y c)
 (h:∀ s' cv',ST Z B wE sE ρ' σ cv' w s'→Step B X ρ cv w s ρ' cv' w s'→Q () s'):wpAny Z.M Y.A (assign pt B.env c) Q NoE s:=match ht,hb with
 | .one hi,hb=>some_is (M:=λρ'=>(∀ s' cv',ST Z B wE sE ρ' σ cv' w s'→Step B X ρ cv w s ρ' cv' w s'→Q () s')→_) hb (λh=>wpAny_assign_Name (putv_ok K hlo hi t hv h)) h
 | .two hi hj,hb=>oTup_is (M:=λy=>VR Z w y c→_) hb (λl hb hv=>o2_is (M:=λl=>VR Z w (.tup l) c→_) hb (λa b hb hv=>some_is (M:=λρ'=>(∀ s' cv',ST Z B wE sE ρ' σ cv' w s'→Step B X ρ cv w s ρ' cv' w s'→Q () s')→_) hb (λh=>
  SeqR.casesOn (motive:=λc _=>wpAny Z.M Y.A (assign _ B.env c) Q NoE s) hv λad xs n g r=>two_arr (M:=λxs=>w.im ad = some (tupO xs n)→_) r (λca cb va vb g=>wpAny_assign_Tuple hh ⟨_,t.post.sim.im _ _ g,rfl,n,rfl⟩ rfl rfl λh' hx'=>
   have P':Post Z w s σ w { s with heap:=h' }:=(Post.refl t.post.sim).grow (extBut_new hx')
   have st':Step B X ρ cv w s ρ cv w { s with heap:=h' }:=P'.step
   wpAny_bind (wpAny_holding (wpAny_assign_Name (putv_ok (X:=X) K hlo hi (t.go P') va λs1 cv1 t1 st1=>wpAny_bind (wpAny_holding (wpAny_assign_Name (putv_ok (X:=X) K hlo hj t1 vb λs2 cv2 t2 st2=>wpAny_pure (h s2 cv2 t2 ((st'.trans st1).trans st2))))))))) g) h) hv) hv
noncomputable def Sub (ρ ρ':Rho):Prop:=∀ i sl,getS ρ i = some sl→getS ρ' i = some sl
theorem Sub.refl:Sub ρ ρ:=λ_ _ e=>e
theorem ER.weak {h:Heap} {m:Str→Option Value} (hs:Sub ρ ρ') (r:ER Z B w ρ' h m cv):ER Z B w ρ h m cv:=
 ⟨r.ns,r.pr,r.bnd,r.cell,r.capart,λi x hi sl e=>r.val i x hi sl (hs i sl e),λi j l l' hij hi hj e1 e2=>r.own i j l l' hij hi hj (hs _ _ e1) (hs _ _ e2)⟩
theorem ST.weak (hs:Sub ρ ρ') (t:ST Z B wE sE ρ' σ cv w s):ST Z B wE sE ρ σ cv w s:=⟨t.post,let ⟨m,r⟩:=t.er; ⟨m,r.weak hs⟩⟩
theorem Mut.weak (hs:Sub ρ ρ') {b:Addr}:Mut B ρ cv b→Mut B ρ' cv b:=Or.imp_right (Or.imp_right λ⟨i,x,l,h1,h2,h3⟩=>⟨i,x,l,h1,hs _ _ h2,h3⟩)
theorem Step.weak (hs:Sub ρ' ρ'') (st:Step B X ρ cv w s ρ'' cv' w' s'):Step B X ρ cv w s ρ' cv' w' s':=⟨λb o e n m x=>let ⟨a,b',c,d⟩:=st.keep b o e n m x; ⟨a,b',c,λq=>d (q.weak hs)⟩,st.le⟩
theorem setV_sub {i:Nat} {x:V} (h:isFree ρ i = true):Sub ρ (setV ρ i x):=λj sl e=>by
 unfold setV
 rw [getS_set,if_neg λq=>?_]
 · exact e
 · unfold isFree at h; rw [← q,e] at h; exact ff h
theorem isFree_set {i j:Nat} {x:V} (h:isFree ρ j = true) (hij:(i != j) = true):isFree (setV ρ i x) j = true:=by
 unfold isFree setV
 rw [getS_set,if_neg λq=>?_]
 · exact h
 · rw [q,bne_self_eq_false] at hij; exact ff hij
theorem Sub.trans (h1:Sub ρ ρ') (h2:Sub ρ' ρ''):Sub ρ ρ'':=λi sl e=>h2 i sl (h1 i sl e)
theorem bindT_sub {t:Tg} {x:V} (hf:freeT ρ t = true) (hb:bindT t ρ x = some ρ'):Sub ρ ρ':=match t,hf,hb with
 | .one i,hf,hb=>some_is hb (setV_sub hf)
 | .two i j,hf,hb=>oTup_is (M:=λ_=>Sub ρ ρ') hb λl hb=>o2_is (M:=λ_=>Sub ρ ρ') hb λa b hb=>some_is hb (an3 hf λh1 h2 h3=>(setV_sub h1).trans (setV_sub (isFree_set h2 h3)))
theorem noOwn_get {i:Nat}:getS (noOwn ρ) i = gV (getS ρ i) λx=>some (.v x):=by
 unfold getS noOwn
 rw [List.getElem?_map]
 cases ρ[i]? <;> rfl
theorem noOwn_sub:Sub (noOwn ρ) ρ:=λi sl e=>gV_is (M:=λo=>o = some sl) (noOwn_get.symm.trans e) λl e=>congrArg some (Option.some.inj e)
theorem noOwn_own {i:Nat} {l:List V} {G:Prop} (e:getS (noOwn ρ) i = some (.own l)):G:=gV_is (M:=λ_=>G) (noOwn_get.symm.trans e) λl e=>nomatch Option.some.inj e
structure Own (sE:Shared) (w:GW) (b:Addr):Prop where
 new:sE.heap.get? b = none
 pr:Priv w b
noncomputable def Kept (wr:List Addr) (s s':Shared):Prop:=∀ b o,b ∉ wr→s.heap.get? b = some o→s'.heap.get? b = some o
theorem ST.touches {wr:List Addr} (t:ST Z B wE sE ρ σ cv w s) (P':Post Z wE sE σ w' s') (hx:Ext w s.heap w') (hw:∀ b ∈ wr,¬ Mut B ρ cv b) (hs:Kept wr s s'):ST Z B wE sE ρ σ cv w' s':=
 ⟨P',let ⟨m,r⟩:=t.er; ⟨m,r.move hx.le λb o q e=>⟨hs b o (λz=>hw b z q) e,(r.there q).2.ext hx e⟩⟩⟩
theorem Step.touches {wr:List Addr} (st:Step B X ρ cvB wB sB ρ' cv w s) (hx:Ext w s.heap w') (hn:∀ b ∈ wr,sB.heap.get? b = none) (hs:Kept wr s s'):Step B X ρ cvB wB sB ρ' cv w' s':=
 ⟨λb o e n m x=>have ⟨a,p,i,d⟩:=st.keep b o e n m x; ⟨hs b o (λq=>no_so (hn b q) e) a,hx.notin a p,λz=>hx.imNone a (i z),d⟩,st.le.trans hx.le⟩
theorem Post.touches {wr:List Addr} {h':Heap} {t:Nat} (P:Post Z wE sE σ w s) (hw:∀ b ∈ wr,Own sE w b) (hs:Kept wr s { s with heap:=h',toks:=t }):Post Z wE sE σ w { s with heap:=h',toks:=t }:=
 ⟨⟨P.sim.base,P.sim.sys,λb o e=>hs b o (λq=>no_so (hw b q).pr.im e) (P.sim.im _ _ e),P.sim.len,λi o b e1 e2=>(P.sim.obj i o b e1 e2).elim λob q=>⟨ob,hs b _ (λz=>(hw b z).pr.ph (List.mem_of_getElem? e2)) q.1,q.2⟩,P.sim.nd,P.sim.out⟩,P.ext,
  fun b o e n=>hs b o (λq=>no_so (hw b q).new e) (P.keep b o e n),P.gens,P.drawn,P.os⟩
noncomputable def Safe (B:Blk) (X:Addr→Prop) (ρ:Rho) (cv:Nat→Value) (w:GW) (b:Addr):Prop:=(∃ o,w.im b = some o)∨(Priv w b∧¬ Mut B ρ cv b∧¬ X b)
theorem Safe.keep {b:Addr} {o:Obj} (S:Safe B X ρ cv w b) (P:Sim Z w σ s.heap) (P':Sim Z w' σ' s'.heap) (st:Step B X ρ cv w s ρ' cv' w' s') (e:s.heap.get? b = some o):s'.heap.get? b = some o:=
 S.elim (λ⟨o',h⟩=>some_eq (P.im _ _ h) e ▸ P'.im _ _ (st.le.im _ _ h)) λ⟨h1,h2,h3⟩=>(st.keep b o e h1.ph h2 h3).1
theorem Safe.step {b:Addr} {o:Obj} (S:Safe B X ρ cv w b) (st:Step B X ρ cv w s ρ' cv' w' s') (e:s.heap.get? b = some o):Safe B X ρ' cv' w' b:=
 S.elim (λ⟨o',h⟩=>.inl ⟨o',st.le.im _ _ h⟩) λ⟨h1,h2,h3⟩=>have ⟨_,n,i,m⟩:=st.keep b o e h1.ph h2 h3; .inr ⟨⟨i h1.im,n⟩,m,h3⟩
end
section
variable {Z:Zt} {Y:Yt} {B:Blk} {w w' w'' wE wB w0:GW} {s s' s'' sE sB s0:Shared} {σ σ':H} {v:V} {c:Value} {ρ ρ' ρ'' ρ0:Rho} {cv cv' cv'' cv0 cvB:Nat→Value} {X X':Addr→Prop} {It:Addr} {fp wr:List Addr} {l:List V} {tgt:Expr} {S:Nat→Heap→Prop} {Md:Nat→Value→Heap→Prop} {A:Around}
structure Given (Z:Zt) (wE:GW) (sE:Shared) (σ:H) (w:GW) (s:Shared) (wr fp:List Addr) (x:V) (M:Value→Heap→Prop) (v:Value) (w':GW) (s':Shared):Prop where
 val:VR Z w' x v
 post:Post Z wE sE σ w' s'
 ext:Ext w s.heap w'
 md:M v s'.heap
 keep:Kept wr s s'
 there:∀ b ∈ fp,∃ o,s'.heap.get? b = some o
structure Itr (Z:Zt) (A:Around) (w0:GW) (It:Addr) (fp wr:List Addr) (l:List V) (tgt:Expr) (S:Nat→Heap→Prop) (Md:Nat→Value→Heap→Prop):Prop where
 sub:∀ b ∈ wr,b ∈ fp
 there:∀ i h,S i h→∀ b ∈ fp,∃ o,h.get? b = some o
 frame:∀ i h h',S i h→(∀ b ∈ fp,∀ o,h.get? b = some o→h'.get? b = some o)→S i h'
 item:∀ (i:Nat) (x:V) (wE:GW) (sE:Shared) (σ:H) (w:GW) (s:Shared) (Q:Option Value→Shared→Prop),l[i]? = some x→WLe w0 w→Post Z wE sE σ w s→(∀ b ∈ wr,Own sE w b)→S i s.heap→
  (∀ v w' s',Given Z wE sE σ w s wr fp x (Md i) v w' s'→Q (some v) s')→wpAny Z.M A (pyNext (.ref It)) Q NoE s
 go:∀ (i:Nat) (v:Value) (s:Shared) (Q:Unit→Shared→Prop),Md i v s.heap→(∀ h' t,S (i + 1) h'→Kept wr s { s with heap:=h',toks:=t }→Q () { s with heap:=h',toks:=t })→wpAny Z.M A (letOwnedTupleGo tgt (.ref It) v) Q NoE s
 done:∀ (s:Shared) (Q:Option Value→Shared→Prop),S l.length s.heap→(∀ h' t,Kept wr s { s with heap:=h',toks:=t }→Q none { s with heap:=h',toks:=t })→wpAny Z.M A (pyNext (.ref It)) Q NoE s
 self:∀ (i:Nat) (s:Shared) (Q:Value→Shared→Prop),S i s.heap→Q (.ref It) s→wpAny Z.M A (pyIter (.ref It)) Q NoE s
theorem Itr.of_walks {n:Nat} {P:Nat→Value→Prop} (W:Walks Z.pg Z.wd A It fp wr n P S) (hn:l.length = n) (hv:∀ (i:Nat) (x:V) (v:Value),l[i]? = some x→P i v→VR Z w0 x v) (hth:∀ i h,S i h→∀ b ∈ fp,∃ o,h.get? b = some o)
 (hgo:∀ (i:Nat) (v:Value) (s:Shared) (Q:Unit→Shared→Prop),S (i + 1) s.heap→Q () s→wpAny Z.M A (letOwnedTupleGo tgt (.ref It) v) Q NoE s):Itr Z A w0 It fp wr l tgt S (λi _ h=>S (i + 1) h) where
 sub:=W.sub
 there:=hth
 frame:=W.frame
 item:=λi x wE sE σ w s Q hx hle P0 hw st hQ=>W.item i s Q NoE (hn ▸ (List.getElem?_eq_some_iff.mp hx).1) st λv h' tk hp hs' hk=>hQ v w _ ⟨(hv i x v hx hp).le hle,P0.touches hw hk,.refl _,hs',hk,hth _ _ hs'⟩
 go:=λi v s Q hm hQ=>hgo i v s Q hm (hQ s.heap s.toks hm (λ_ _ _ e=>e))
 done:=λs Q st hQ=>W.done s Q NoE (hn ▸ st) hQ
 self:=λi s Q st hQ=>W.self i s Q NoE st hQ
noncomputable def ownedNames:List String:=["enumerate","zip","dict_itemiterator","dict_reverseitemiterator","odict_iterator","itertools.zip_longest","itertools.pairwise"]
theorem owned_skip {r:Addr} {o:Obj} {n:String} {vs:Array Value} {t:Expr} {Q:Unit→Shared→Prop} {M:Model} {E:Value→Shared→Prop} (ho:s.heap.get? r = some o) (hc:o.cls = .type n) (hd:o.data = .fields vs) (hn:ownedNames.contains n = false)
 (h:Q () s):wpAny M A (letOwnedTupleGo t (.ref r) c) Q E s:=by
 have core:∀ (k:Obj→Sem Unit) ,k o = pure ()→wpAny M A (load r >>= k) Q E s:=λk hk=>wpAny_bind (wpAny_load ho (by rw [hk]; exact wpAny_pure h))
 unfold ownedNames at hn
 have key:∀ a:Addr,(match o.cls,o.data with
  | .type n,.fields vs=>if ["enumerate","zip","dict_itemiterator","dict_reverseitemiterator","odict_iterator","itertools.zip_longest","itertools.pairwise"].contains n && vs[0]? == some (rawInt a) then do rule "for.unpacks-the-owned-tuple"; updateField r 0 .none else pure ()
  | _,_=>pure ():Sem Unit) = pure ():=λa=>by rw [hc,hd]; dsimp only; rw [hn]; rfl
 cases t with
 | Tuple=>cases c with
  | ref a=>exact core _ (key a)
  | _=>exact wpAny_pure h
 | List=>cases c with
  | ref a=>exact core _ (key a)
  | _=>exact wpAny_pure h
 | _=>exact wpAny_pure h
theorem two_mem {a b x:Addr} {M:Addr→Prop} (h:x ∈ [a,b]) (m1:M a) (m2:M b):M x:=(List.mem_cons.mp h).elim (λq=>q ▸ m1) λq=>List.mem_singleton.mp q ▸ m2
theorem itr_list {a:Addr} {xs:Array Value} (hh:A.handled = none) (hne:a ≠ It) (r:VRs Z w0 l xs.toList) :
 Itr Z A w0 It [It,a] [It] l tgt (λi h=>h.IsListIter It a i∧h.IsList a xs) (λi _ h=>h.IsListIter It a (i + 1)∧h.IsList a xs):=
 Itr.of_walks (Walks.list hh It a hne xs) (tup_size r).symm (λi x v hx hv=>(r.get hx).elim λc q=>some_eq (Array.getElem?_toList.symm.trans q.1) hv ▸ q.2)
  (λi h st b hb=>two_mem (M:=λb=>∃ o,h.get? b = some o) hb (let ⟨⟨o,ho,_⟩,_⟩:=st; ⟨o,ho⟩) (let ⟨_,o,ho,_⟩:=st; ⟨o,ho⟩)) λi v s Q st hQ=>let ⟨⟨o,ho,hc,hd⟩,_⟩:=st; owned_skip ho hc hd (by decide) hQ
theorem itr_tuple {a:Addr} {xs:Array Value} (hh:A.handled = none) (hne:a ≠ It) (r:VRs Z w0 l xs.toList) :
 Itr Z A w0 It [It,a] [It] l tgt (λi h=>h.IsTupleIter It a i∧h.IsTuple a xs) (λi _ h=>h.IsTupleIter It a (i + 1)∧h.IsTuple a xs):=
 Itr.of_walks (Walks.tuple hh It a hne xs) (tup_size r).symm (λi x v hx hv=>(r.get hx).elim λc q=>some_eq (Array.getElem?_toList.symm.trans q.1) hv ▸ q.2)
  (λi h st b hb=>two_mem (M:=λb=>∃ o,h.get? b = some o) hb (let ⟨⟨o,ho,_⟩,_⟩:=st; ⟨o,ho⟩) (let ⟨_,o,ho,_⟩:=st; ⟨o,ho⟩)) λi v s Q st hQ=>let ⟨⟨o,ho,hc,hd⟩,_⟩:=st; owned_skip ho hc hd (by decide) hQ
theorem upTo_get {n i:Nat} {x:V} (h:(upTo n)[i]? = some x):x = .int i:=by
 unfold upTo at h
 rw [List.getElem?_map] at h
 obtain ⟨j,hj,rfl⟩:=Option.map_eq_some_iff.mp h
 obtain ⟨hl,he⟩:=List.getElem?_eq_some_iff.mp hj
 rw [List.getElem_range] at he
 rw [he]
theorem itr_range {n:Nat} (hh:A.handled = none) :
 Itr Z A w0 It [It] [It] (upTo n) tgt (λi h=>IsRangeIter h It (0 + (i:Nat) * 1) ((n:Int) - (i:Nat)) 1) (λi _ h=>IsRangeIter h It (0 + ((i + 1:Nat):Int) * 1) ((n:Int) - ((i + 1:Nat):Int)) 1):=
 Itr.of_walks (Walks.range hh It 0 1 n) (by unfold upTo; rw [List.length_map,List.length_range]) (λi x v hx hv=>hv.elim λt ht=>upTo_get hx ▸ ht ▸ intR (by rw [Int.zero_add,Int.mul_one]))
  (λi h st b hb=>List.mem_singleton.mp hb ▸ ⟨_,st⟩) λi v s Q st hQ=>owned_skip st rfl rfl (by decide) hQ
inductive ItAt (Z:Zt) (A:Around) (tgt:Expr) (w:GW) (s:Shared) (σ':H) (l:List V):Value→Shared→Prop
 | mk {s2:Shared} (w':GW) (It:Addr) (fp wr:List Addr) (S:Nat→Heap→Prop) (Md:Nat→Value→Heap→Prop):Post Z w s σ' w' s2→Itr Z A w' It fp wr l tgt S Md→S 0 s2.heap→(∀ b ∈ wr,Own s w' b)→(∀ b ∈ fp,(∃ o,w'.im b = some o)∨Own s w' b)→ItAt Z A tgt w s σ' l (.ref It) s2
noncomputable def ItOK (Z:Zt) (Y:Yt) (B:Blk) (it:Mine.It) (tgt pe:Expr):Prop:=∀ (ρ:Rho) (σ:H) (l:List V) (σ':H) (w:GW) (s:Shared),Now Z B ρ σ w s→evI Y.C it ρ σ = some (l,σ')→
 wpAny Z.M Y.A (eval pe B.env) (λx s1=>wpAny Z.M Y.A (pyIter x) (ItAt Z Y.A tgt w s σ' l) NoE s1) NoE s
theorem Own.fresh (P:Post Z w s σ' w' s') {b:Addr} (n:s'.heap.get? b = none):Own s w' b:=⟨P.gone n,.new P.sim n⟩
theorem seqIt (hh:Y.A.handled = none) {v:V} (P:Post Z w s σ' w' s') (hv:VR Z w' v c) (e:items v = some l):wpAny Z.M Y.A (pyIter c) (ItAt Z Y.A tgt w s σ' l) NoE s':=match v,hv,e with
 | .tup l',hv,e=>some_is (M:=λl=>wpAny Z.M Y.A (pyIter c) (ItAt Z Y.A tgt w s σ' l) NoE s') e (SeqR.casesOn (motive:=λc _=>wpAny Z.M Y.A (pyIter c) _ NoE s') hv λa xs n g r=>
  have ga:=P.sim.im _ _ g
  wpAny_pyIter_tuple ⟨_,ga,rfl,n,rfl⟩ (.mk w' _ _ _ _ _ (P.pushed (t:=s'.toks)) (itr_tuple hh (Nat.ne_of_lt (Heap.lt_size ga)) r) ⟨⟨_,Heap.get?_push_size _ rfl,rfl,rfl⟩,⟨_,Heap.get?_push_of_some _ ga,rfl,n,rfl⟩⟩
   (λb hb=>List.mem_singleton.mp hb ▸ .fresh P (get_top _)) λb hb=>two_mem (M:=λb=>(∃ o,w'.im b = some o)∨Own s w' b) hb (.inr (.fresh P (get_top _))) (.inl ⟨_,g⟩)))
 | .lst l',hv,e=>some_is (M:=λl=>wpAny Z.M Y.A (pyIter c) (ItAt Z Y.A tgt w s σ' l) NoE s') e (SeqR.casesOn (motive:=λc _=>wpAny Z.M Y.A (pyIter c) _ NoE s') hv λa xs n g r=>
  have ga:=P.sim.im _ _ g
  wpAny_pyIter_list ⟨_,ga,rfl,n,rfl⟩ (.mk w' _ _ _ _ _ (P.pushed (t:=s'.toks)) (itr_list hh (Nat.ne_of_lt (Heap.lt_size ga)) r) ⟨⟨_,Heap.get?_push_size _ rfl,rfl,rfl⟩,⟨_,Heap.get?_push_of_some _ ga,rfl,n,rfl⟩⟩
   (λb hb=>List.mem_singleton.mp hb ▸ .fresh P (get_top _)) λb hb=>two_mem (M:=λb=>(∃ o,w'.im b = some o)∨Own s w' b) hb (.inr (.fresh P (get_top _))) (.inl ⟨_,g⟩)))
 | .none,_,e | .bool _,_,e | .int _,_,e | .str _,_,e | .dct _ _,_,e | .ins _ _,_,e | .ref _,_,e | .obj _ _,_,e=>nn e
theorem ev_plain {C:Orc} {e:E} {r:List V×H} (h:evI C (.plain e) ρ σ = some r):b2 (evE C e ρ σ) (λx σ=>wS (items x) σ) = some r:=h
theorem ev_range {C:Orc} {e:E} {r:List V×H} (h:evI C (.range e) ρ σ = some r):b2 (evE C e ρ σ) (λx σ=>oInt x λn=>gd (decide (0 ≤ n) && decide (n < 4000)) (some (upTo n.toNat,σ))) = some r:=h
theorem plain_it {e:E} {pe:Expr} (hh:Y.A.handled = none) (h:EOK Z Y B e pe):ItOK Z Y B (.plain e) tgt pe:=λρ σ l σ' w s X e1=>
 b2_is (ev_plain e1) λx σ1 e2 e1=>wS_is (M:=λl σ'=>wpAny Z.M Y.A (eval pe B.env) (λx s1=>wpAny Z.M Y.A (pyIter x) (ItAt Z Y.A tgt w s σ' l) NoE s1) NoE s) e1 λl e3=>h.go X e2 λc w1 s1 P1 X1 hx=>seqIt hh P1 hx e3
theorem glob_call {f:Str} {fv:Value} {pes:List Expr} {np pos:Pos} {Q:Value→Shared→Prop} (W:Wld Z) (K:BlkOK B) (X:Now Z B ρ σ w s) (hb:nsIn Z.I.K mainGlobals f = some none) (hk:B.sc.lookup f = some .globalImplicit) (hf:bootBuiltins f = some fv) (h1:f ≠ "__name__") (h2:(f == ("__debug__":Str)) = false) (h3:∀ a,fv ≠ .ref a)
 (hp:plainPEs pes = true) (h:wpAny Z.M Y.A (spliced (backTo pos (starEach pes B.env))) (λcs s1=>wpAny Z.M Y.A (call fv cs) Q NoE s1) NoE s):wpAny Z.M Y.A (eval (.Call (.Name f np) pes [] pos) B.env) Q NoE s:=by
 rw [arm_eval_Call_Name']
 exact wpAny_bind (built_name W K X hk hb hf h1 h2 (callArgs (P:=λ_=>True) (first:=[]) hp (keeps_B h3) (wpT h λ_ _ h=>⟨trivial,h⟩)))
theorem plain1 {pa:Expr} (h:plainPE pa = true):plainPEs [pa] = true:=by unfold plainPEs; rw [List.all_cons,h]; rfl
theorem range_size {n:Int} (h:0 ≤ n):Builtin.Range.rangeSize 0 n 1 = (n.toNat:Int):=by rw [rangeSize_one]; split <;> omega
theorem range_it {a:E} {pa:Expr} {x:Str} {p np pos:Pos} (W:Wld Z) (K:BlkOK B) (hh:Y.A.handled = none) (hb:nsIn Z.I.K mainGlobals ("range":Str) = some none) (hk:B.sc.lookup ("range":Str) = some .globalImplicit) (hp:plainPE pa = true)
 (h:AOK Z Y B a pa):ItOK Z Y B (.range a) (.Name x p) (.Call (.Name "range" np) [pa] [] pos):=λρ σ l σ' w s X e=>
 b2_is (ev_range e) λv σ1 e2 e=>oInt_is (M:=λv=>evE Y.C a ρ σ = some (v,σ1)→_) e (λn e e2=>gd_is e λhn e=>an2 hn λh0 h4=>pr_is (M:=λl σ'=>wpAny Z.M Y.A _ (λx s1=>wpAny Z.M Y.A (pyIter x) (ItAt Z Y.A _ w s σ' l) NoE s1) NoE s) e
  (glob_call (fv:=.type "range") W K X hb hk (by kernel_rfl) (by decide) (by decide) (λa h=>nomatch h) (plain1 hp) ((es_arm (plain1 hp) (.cons h .nil)).go X (l:=[.int n]) (σ':=σ1) (by simp only [evEs,e2,b2_some]) λcs w1 s1 P1 X1 hl=>
   hl.cons_is λc r hc r1=>r1.nil_is (IntR.casesOn (motive:=λc _=>wpAny Z.M Y.A (call _ [c]) _ NoE s1) hc λt=>call_range_1 (by
    have h0:=of_decide_eq_true h0
    have h4:=of_decide_eq_true h4
    have P2:Post Z w s σ1 w1 { s1 with heap:=s1.heap.push { cls:=.type "range",data:=.fields #[.int 0 s1.toks,.int n t,.int 1 (s1.toks + 1)] },toks:=s1.toks + 1 + 1 }:=P1.pushed
    refine wpAny_pyIter_range (IsRange.new ..) (small_one (by decide) (by decide) (by omega) (by omega)) ?_
    have n0:s1.heap.get? (s1.heap.objs.size + 1) = none:=Heap.get?_none_of_le (Nat.le_succ _)
    have hs:s1.heap.objs.size + 1 = (s1.heap.push { cls:=.type "range",data:=.fields #[.int 0 s1.toks,.int n t,.int 1 (s1.toks + 1)] }).objs.size:=(Heap.size_push ..).symm
    refine .mk w1 _ _ _ _ _ (P2.pushed (t:=s1.toks + 1 + 1)) (itr_range (n:=n.toNat) hh) ?_ (λb hb=>List.mem_singleton.mp hb ▸ .fresh P2 (get_top _)) (λb hb=>.inr (List.mem_singleton.mp hb ▸ .fresh P2 (get_top _)))
    have e1:(0 + ((0:Nat):Int) * 1) = 0:=by decide
    have e2:((n.toNat:Int) - ((0:Nat):Int)) = Builtin.Range.rangeSize 0 n 1:=by rw [range_size h0]; exact Int.sub_zero _
    rw [e1,e2]
    exact Heap.get?_push_size _ rfl))))) e2
noncomputable def testsOf (env:Env) (l:List Expr) (b:Bool):Sem Bool:=forIn l b λc r=>if r = true then do let ok ← isTrue c env (eval c env); pure (ForInStep.yield ok) else pure (ForInStep.yield r)
theorem tests_false {env:Env} {M:Model} {E:Value→Shared→Prop} {Q:Bool→Shared→Prop}:∀ {l:List Expr},Q false s→wpAny M A (testsOf env l false) Q E s
 | [],h=>wpAny_pure h
 | c :: l,h=>by
  unfold testsOf
  rw [List.forIn_cons]
  exact wpAny_bind (wpAny_pure (tests_false h))
theorem tests_ok:∀ {es:List E} {pes:List Expr},AllOK Z Y B es pes→∀ (ρ:Rho) (σ:H) (b:Bool) (σ':H) (w:GW) (s:Shared),Now Z B ρ σ w s→evIfs Y.C es ρ σ = some (b,σ')→wpAny Z.M Y.A (testsOf B.env pes true) (QT Z w s σ' b) NoE s
 | [],_,h,ρ,σ,b,σ',w,s,X,e=>h.nil_is (pr_is (M:=λb σ'=>wpAny Z.M Y.A _ (QT Z w s σ' b) NoE s) e (wpAny_pure (.mk w (.refl X.sim))))
 | e0 :: es,_,h,ρ,σ,b,σ',w,s,X,e=>h.cons_is λpe pes h hs=>bT_is e λb0 σ1 e1 e=>by
  unfold testsOf
  rw [List.forIn_cons]
  exact wpAny_bind (wpAny_bind (h.t.go X e1 λw1 s1 P1 X1=>wpAny_pure (match b0,e with
   | true,e=>wpT (tests_ok hs ρ σ1 b σ' w1 s1 X1 e) λ_ _=>QT.trans P1
   | false,e=>pr_is (M:=λb σ'=>wpAny Z.M Y.A _ (QT Z w s σ' b) NoE s1) e (tests_false (.mk w1 P1)))))
end
section
variable {Z:Zt} {Y:Yt} {B:Blk} {w w' w1 wE wB w0:GW} {s s' s1 sE sB:Shared} {σ σ':H} {v:V} {c:Value} {ρ ρ' ρB:Rho} {cv cv' cvB:Nat→Value} {X X':Addr→Prop} {It:Addr} {fp wr:List Addr} {l:List V} {tgt:Expr} {S:Nat→Heap→Prop} {Md:Nat→Value→Heap→Prop} {A:Around} {i:Nat}
structure Moved (wr:List Addr) (w:GW) (s:Shared) (w':GW) (s':Shared):Prop where
 ext:Ext w s.heap w'
 keep:Kept wr s s'
structure LoopAt (Z:Zt) (B:Blk) (X:Addr→Prop) (wE:GW) (sE:Shared) (w0:GW) (fp wr:List Addr) (S:Nat→Heap→Prop) (ρ:Rho) (σ:H) (cv:Nat→Value) (w:GW) (s:Shared) (i:Nat):Prop where
 t:ST Z B wE sE ρ σ cv w s
 st:S i s.heap
 own:∀ b ∈ wr,Own sE w b
 safe:∀ b ∈ fp,Safe B X ρ cv w b
 le:WLe w0 w
theorem LoopAt.free (L:LoopAt Z B X wE sE w0 fp wr S ρ σ cv w s i) (W:Itr Z A w0 It fp wr l tgt S Md) (b:Addr) (hb:b ∈ wr):¬ Mut B ρ cv b∧¬ X b:=
 (L.safe b (W.sub b hb)).elim (λ⟨o,q⟩=>no_so (L.own b hb).pr.im q) λq=>q.2
theorem LoopAt.step (L:LoopAt Z B X wE sE w0 fp wr S ρ σ cv w s i) (W:Itr Z A w0 It fp wr l tgt S Md) (t':ST Z B wE sE ρ' σ' cv' w' s') (st:Step B X ρ cv w s ρ' cv' w' s'):LoopAt Z B X wE sE w0 fp wr S ρ' σ' cv' w' s' i where
 t:=t'
 st:=W.frame _ _ _ L.st λb hb o e=>(L.safe b hb).keep L.t.post.sim t'.post.sim st e
 own:=λb hb=>(W.there i _ L.st b (W.sub b hb)).elim λo e=>have q:=L.free W b hb
  have ⟨_,n,im,_⟩:=st.keep b o e (L.own b hb).pr.ph q.1 q.2
  ⟨(L.own b hb).new,im (L.own b hb).pr.im,n⟩
 safe:=λb hb=>(W.there i _ L.st b hb).elim λo e=>(L.safe b hb).step st e
 le:=L.le.trans st.le
theorem LoopAt.move {j:Nat} (L:LoopAt Z B X wE sE w0 fp wr S ρ σ cv w s i) (W:Itr Z A w0 It fp wr l tgt S Md) (m:Moved wr w s w' s') (P:Post Z wE sE σ w' s') (hS:S j s'.heap):LoopAt Z B X wE sE w0 fp wr S ρ σ cv w' s' j where
 t:=L.t.touches P m.ext (λb hb=>(L.free W b hb).1) m.keep
 st:=hS
 own:=λb hb=>(W.there i _ L.st b (W.sub b hb)).elim λo e=>⟨(L.own b hb).new,(L.own b hb).pr.ext m.ext e⟩
 safe:=λb hb=>(W.there i _ L.st b hb).elim λo e=>(L.safe b hb).elim (λ⟨o',q⟩=>.inl ⟨o',m.ext.im _ _ q⟩) λ⟨q1,q2⟩=>.inr ⟨q1.ext m.ext e,q2⟩
 le:=L.le.trans m.ext.le
theorem LoopAt.done {Q:Option Value→Shared→Prop} (L:LoopAt Z B X wE sE w0 fp wr S ρ σ cv w s l.length) (W:Itr Z A w0 It fp wr l tgt S Md) (k:∀ s',ST Z B wE sE ρ σ cv w s'→Moved wr w s w s'→Q none s'):wpAny Z.M A (pyNext (.ref It)) Q NoE s:=
 W.done s Q L.st λh' tk hk=>k _ (L.t.touches (L.t.post.touches L.own hk) (.refl _) (λb hb=>(L.free W b hb).1) hk) ⟨.refl _,hk⟩
theorem LoopAt.next {x:V} {Q:Option Value→Shared→Prop} (L:LoopAt Z B X wE sE w0 fp wr S ρ σ cv w s i) (W:Itr Z A w0 It fp wr l tgt S Md) (hx:l[i]? = some x)
 (k:∀ v s1,(∀ K:Unit→Shared→Prop,(∀ w' s',LoopAt Z B X wE sE w0 fp wr S ρ σ cv w' s' (i + 1)→Moved wr w s w' s'→VR Z w' x v→K () s')→wpAny Z.M A (letOwnedTupleGo tgt (.ref It) v) K NoE s1)→Q (some v) s1):wpAny Z.M A (pyNext (.ref It)) Q NoE s:=
 W.item i x wE sE σ w s Q hx L.le L.t.post L.own L.st λv w' s' G=>k v s' λK kk=>W.go i v s' K G.md λh' tk hS hk=>
  have own':∀ b ∈ wr,Own sE w' b:=λb hb=>(W.there i _ L.st b (W.sub b hb)).elim λo e=>⟨(L.own b hb).new,(L.own b hb).pr.ext G.ext e⟩
  have m:Moved wr w s w' { s' with heap:=h',toks:=tk }:=⟨G.ext,λb o hb e=>hk b o hb (G.keep b o hb e)⟩
  kk w' _ (L.move W m (G.post.touches own' hk) hS) m G.val
structure Acc (Z:Zt) (D:Addr) (sE:Shared) (B:Blk) (ρ:Rho) (cv:Nat→Value) (acc:List V) (w:GW) (s:Shared):Prop where
 at_:∃ xs n,s.heap.get? D = some (lstO xs n)∧VRs Z w acc xs.toList
 own:Own sE w D
 apart:¬ Mut B ρ cv D
abbrev onD (D:Addr):Addr→Prop:=λb=>b = D
abbrev noX:Addr→Prop:=λ_=>False
variable {D:Addr} {acc acc':List V}
theorem Acc.step (a:Acc Z D sE B ρ cv acc w s) (st:Step B noX ρ cv w s ρ' cv' w' s'):Acc Z D sE B ρ' cv' acc w' s':=
 a.at_.elim λxs ⟨n,g,r⟩=>have ⟨e,p,i,m⟩:=st.keep D _ g a.own.pr.ph a.apart id; ⟨⟨xs,n,e,r.le st.le⟩,⟨a.own.new,i a.own.pr.im,p⟩,m⟩
theorem Acc.move (a:Acc Z D sE B ρ cv acc w s) (m:Moved wr w s w' s') (hD:D ∉ wr):Acc Z D sE B ρ cv acc w' s':=
 a.at_.elim λxs ⟨n,g,r⟩=>⟨⟨xs,n,m.keep _ _ hD g,r.ext m.ext⟩,⟨a.own.new,a.own.pr.ext m.ext g⟩,a.apart⟩
theorem Acc.weak (hs:Sub ρ ρ') (a:Acc Z D sE B ρ' cv acc w s):Acc Z D sE B ρ cv acc w s:=⟨a.at_,a.own,λm=>a.apart (m.weak hs)⟩
inductive InAt (Z:Zt) (B:Blk) (D:Addr) (wE:GW) (sE:Shared) (ρ:Rho) (cv:Nat→Value) (w:GW) (s:Shared) (σ':H) (acc':List V) (s':Shared):Prop
 | mk (cv':Nat→Value) (w':GW):ST Z B wE sE ρ σ' cv' w' s'→Acc Z D sE B ρ cv' acc' w' s'→Step B (onD D) ρ cv w s ρ cv' w' s'→InAt Z B D wE sE ρ cv w s σ' acc' s'
noncomputable def InOK (Z:Zt) (A:Around) (B:Blk) (D:Addr) (wE:GW) (sE:Shared) (k:Rho→H→List V→Option (List V×H)) (inner:Sem Unit):Prop:=
 ∀ (ρ:Rho) (σ:H) (acc acc':List V) (σ':H) (cv:Nat→Value) (w:GW) (s:Shared),ST Z B wE sE ρ σ cv w s→Acc Z D sE B ρ cv acc w s→k ρ σ acc = some (acc',σ')→wpAny Z.M A inner (λ_=>InAt Z B D wE sE ρ cv w s σ' acc') NoE s
noncomputable def TurnIs (e:Expr) (depth:Nat) (tgt:Expr) (pifs:List Expr) (inner:Sem Unit) (It D:Addr) (env:Env) (ipos:Pos):Prop:=
 compTurn e depth (.ref It) (.ref D) env = (do
  standAt ipos
  match ← pyNext (.ref It) with
  | none=>pure (.done .next)
  | some v=>
   letOwnedTupleGo tgt (.ref It) v
   assign tgt env v
   let mut ok:=true
   for c in pifs do
    if ok then ok ← isTrue c env (eval c env)
   if ok then inner
   again (.compLoop e depth (.ref It) (.ref D) env))
noncomputable def turnF (C:Orc) (tg:Tg) (ifs:List E) (k:Rho→H→List V→Option (List V×H)) (ρ:Rho):V→H→List V→Option (List V×H):=λx σ acc=>b1 (bindT tg ρ x) λρ'=>b2 (evIfs C ifs ρ' σ) λb σ=>cond b (k ρ' σ acc) (some (acc,σ))
theorem wpE {α:Type} {Q:α→Shared→Prop} {E:Value→Shared→Prop} {M:Model} {m:Sem α} (h:wpAny M A m Q NoE s):wpAny M A m Q E s:=wpAny_mono h (λ_ _ q=>q) λ_ _ e=>e.elim
structure LoopIs (Z:Zt) (A:Around) (e:Expr) (depth:Nat) (tgt:Expr) (pifs:List Expr) (inner:Sem Unit) (It D:Addr) (env:Env) (ipos:Pos):Prop where
 T:TurnIs e depth tgt pifs inner It D env ipos
 q:(Code.compLoop e depth (.ref It) (.ref D) env).quiet = true
 A:A.under (Code.compLoop e depth (.ref It) (.ref D) env) = A
 d:Z.M.den (Code.compLoop e depth (.ref It) (.ref D) env) = (compTurn e depth (.ref It) (.ref D) env).onRaise (λx=>do noteFrame x env; theTreesLotGoes x)
theorem loop_ok {e:Expr} {depth:Nat} {tg:Tg} {pifs:List Expr} {ifs:List E} {inner:Sem Unit} {ipos:Pos} {R:Result→Shared→Prop} {k:Rho→H→List V→Option (List V×H)} (hh:Y.A.handled = none) (K:BlkOK B) (hlo:B.lo = sE.heap) (T:LoopIs Z Y.A e depth tgt pifs inner It D B.env ipos)
 (W:Itr Z Y.A w0 It fp wr l tgt S Md) (ht:TgOK B tg tgt) (hi:AllOK Z Y B ifs pifs) (hin:InOK Z Y.A B D wE sE k inner) (hf:freeT ρ tg = true) (hwB:∀ b ∈ wr,sB.heap.get? b = none) :
 ∀ (l':List V) (i:Nat),l.drop i = l'→i + l'.length = l.length→∀ (acc acc':List V) (σ σ':H) (cv:Nat→Value) (w:GW) (s:Shared),LoopAt Z B (onD D) wE sE w0 fp wr S ρ σ cv w s i→Acc Z D sE B ρ cv acc w s→Step B (onD D) ρ cvB wB sB ρ cv w s→loopL (turnF Y.C tg ifs k ρ) l' σ acc = some (acc',σ')→
  (∀ cv' w' s',ST Z B wE sE ρ σ' cv' w' s'→Acc Z D sE B ρ cv' acc' w' s'→Step B (onD D) ρ cvB wB sB ρ cv' w' s'→R (.ok .next) s')→codeAny Z.M Y.A (.compLoop e depth (.ref It) (.ref D) B.env) R s
 | [],i,hl,hn,acc,acc',σ,σ',cv,w,s,L,a,st,e,hR=>by
  refine codeAny_of_tree ?_
  rw [T.A,T.d]
  refine wpAny_noted ?_
  rw [T.T]
  obtain rfl:i = l.length:=hn
  exact wpAny_bind (wpAny_standAt (wpAny_bind (wpE (L.done W λs' t' m=>wpAny_pure (pr_is (M:=λacc' σ'=>(∀ cv' w' s',ST Z B wE sE ρ σ' cv' w' s'→Acc Z D sE B ρ cv' acc' w' s'→Step B (onD D) ρ cvB wB sB ρ cv' w' s'→R (.ok .next) s')→R (.ok .next) s') e
   (λhR=>hR cv w s' t' (a.move m λhb=>(L.free W D hb).2 rfl) (st.touches m.ext hwB m.keep)) hR)))))
 | x :: l',i,hl,hn,acc,acc',σ,σ',cv,w,s,L,a,st,e,hR=>by
  have hx:l[i]? = some x:=by have:=congrArg List.head? hl; rwa [List.head?_drop] at this
  have hl':l.drop (i + 1) = l':=by rw [← List.tail_drop,hl]; rfl
  have hn':i + 1 + l'.length = l.length:=by rw [← hn,List.length_cons]; omega
  refine codeAny_of_tree ?_
  rw [T.A,T.d]
  refine wpAny_noted ?_
  rw [T.T]
  refine wpAny_bind (wpAny_standAt (wpAny_bind (wpE (L.next W hx λv s1 kk=>wpAny_bind (wpE (kk _ λw2 s2 L2 m hv=>?_))))))
  have a2:=a.move m λhb=>(L.free W D hb).2 rfl
  have st2:=st.touches m.ext hwB m.keep
  refine b2_is e λacc2 σ2 e1 e=>b1_is e1 λρ1 hb e1=>b2_is e1 λb σ4 hI e1=>?_
  have hsub:=bindT_sub hf hb
  refine wpAny_bind (wpE (assign_ok (X:=noX) hh K hlo ht hb L2.t hv λs3 cv3 t3 st3=>?_))
  refine wpAny_bind (wpE (wpT (tests_ok hi ρ1 σ b σ4 w2 s3 t3.now hI) λok s4 q=>q.casesOn λw4 P4=>?_))
  have t4:=t3.go P4
  have st4:=st3.trans P4.step
  exact match b,e1 with
   | false,e1=>wpAny_pure ⟨T.q,pr_is (M:=λacc2 σ2=>loopL (turnF Y.C tg ifs k ρ) l' σ2 acc2 = some (acc',σ')→_) e1 (λe=>
    have st5:=(st4.weak hsub).more (X':=onD D) (λ_ h=>h.elim)
    loop_ok hh K hlo T W ht hi hin hf hwB l' (i + 1) hl' hn' acc acc' σ4 σ' cv3 w4 _ (L2.step W (t4.weak hsub) st5) ((a2.step st4).weak hsub) (st2.trans st5) e hR) e⟩
   | true,e1=>wpAny_bind (wpE (wpT (hin ρ1 σ4 acc acc2 σ2 cv3 w4 _ t4 (a2.step st4) e1) λ_ s5 q=>q.casesOn λcv5 w5 t5 a5 st5=>wpAny_pure ⟨T.q,
    have st6:=((st4.more (X':=onD D) (λ_ h=>h.elim)).trans st5).weak hsub
    loop_ok hh K hlo T W ht hi hin hf hwB l' (i + 1) hl' hn' acc2 acc' σ2 σ' cv5 w5 s5 (L2.step W (t5.weak hsub) st6) (a5.weak hsub) (st2.trans st6) e hR⟩))
end
section
variable {β:Type} {x n:Str} {a b:β} {l:List (Str×β)}
theorem look_is {G:Prop} (e:List.lookup x ((n,b) :: l) = some a) (k1:x = n→b = a→G) (k2:x ≠ n→l.lookup x = some a→G):G:=by
 rw [List.lookup_cons] at e
 cases h:x == n with
 | true=>rw [h] at e; exact k1 (eq_of_beq h) (Option.some.inj e)
 | false=>rw [h] at e; exact k2 (ne_of_beq_false h) e
theorem look_eq (x:Str) (b:β) (l:List (Str×β)):List.lookup x ((x,b) :: l) = some b:=by rw [List.lookup_cons,beq_self_eq_true]
theorem look_ne (h:x ≠ n):List.lookup x ((n,b) :: l) = l.lookup x:=by rw [List.lookup_cons,beq_eq_false_iff_ne.mpr h]
theorem look_mem:∀ {l:List (Str×β)},l.lookup x = some a→(x,a) ∈ l
 | [],e=>nn e
 | (n,b) :: r,e=>look_is e (λh1 h2=>h1 ▸ h2 ▸ .head _) λ_ e=>.tail _ (look_mem e)
theorem mem_look:∀ {l:List (Str×β)},(l.map (·.1)).Nodup→(x,a) ∈ l→l.lookup x = some a
 | (n,b') :: r,nd,e=>(List.mem_cons.mp e).elim (λq=>by cases q; exact look_eq _ _ _) λq=>
  have nd:=List.nodup_cons.mp nd
  (look_ne λz:x = n=>nd.1 (List.mem_map.mpr ⟨(x,a),q,z⟩)).trans (mem_look nd.2 q)
end
noncomputable def clo1 (cells:List (Str×Addr)) (p:Str×NameKind) (acc:List (Str×Addr)):List (Str×Addr):=if p.2 = .free then (cells.lookup p.1).elim acc λa=>(p.1,a) :: acc else acc
noncomputable def clo (cells:List (Str×Addr)):List (Str×NameKind)→List (Str×Addr)→List (Str×Addr)
 | [],acc=>acc
 | p :: r,acc=>clo cells r (clo1 cells p acc)
theorem closure_is (env:Env) (f:Str×NameKind→List (Str×Addr)→Sem (ForInStep (List (Str×Addr))))
 (hf:∀ p cs,f p cs = if (p.2 == NameKind.free) = true then (do let a ← cellOf env p.1; pure (ForInStep.yield ((p.1,a) :: cs))) else pure (ForInStep.yield cs)) :
 ∀ (names:List (Str×NameKind)) (acc:List (Str×Addr)),(∀ x ∈ names,x.2 = .free→(env.cells.lookup x.1).isSome = true)→(forIn names acc f:Sem (List (Str×Addr))) = pure (clo env.cells names acc)
 | [],acc,_=>rfl
 | p :: r,acc,h=>by
  rw [List.forIn_cons,hf]
  have hr:=closure_is env f hf r (clo1 env.cells p acc) λx hx=>h x (.tail _ hx)
  by_cases hk:p.2 = .free
  · obtain ⟨a,ha⟩:=Option.isSome_iff_exists.mp (h p (.head _) hk)
    have hc:clo1 env.cells p acc = (p.1,a) :: acc:=by unfold clo1; rw [if_pos hk,ha]; rfl
    rw [if_pos (beq_iff_eq.mpr hk),show cellOf env p.1 = pure a by unfold cellOf; rw [ha],pure_bind,pure_bind,← hc]
    exact hr
  · have hc:clo1 env.cells p acc = acc:=if_neg hk
    rw [if_neg λq=>hk (eq_of_beq q),pure_bind]
    rw [hc] at hr
    exact hr.trans (congrArg (λz=>pure (clo env.cells r z)) hc.symm)
theorem closureFor_is {env:Env} {scope:Scope} (h:∀ x ∈ scope.names,x.2 = .free→(env.cells.lookup x.1).isSome = true):closureFor scope env = pure (clo env.cells scope.names []):=by
 unfold closureFor
 dsimp only
 rw [closure_is env _ (λp cs=>rfl) scope.names [] h]
 rfl
theorem clo1_is {cells acc:List (Str×Addr)} {p:Str×NameKind} {x:Str} {a:Addr} {G:Prop} (e:(clo1 cells p acc).lookup x = some a) (k1:acc.lookup x = some a→G) (k2:p.1 = x→p.2 = .free→cells.lookup x = some a→G):G:=by
 unfold clo1 at e
 by_cases hk:p.2 = .free
 · rw [if_pos hk] at e
   cases hb:cells.lookup p.1 with
   | none=>rw [hb] at e; exact k1 e
   | some b=>rw [hb] at e; exact look_is e (λh1 h2=>k2 h1.symm hk (h1 ▸ h2 ▸ hb)) λ_ e=>k1 e
 · rw [if_neg hk] at e; exact k1 e
theorem clo_lookup {cells:List (Str×Addr)}:∀ {names:List (Str×NameKind)} {acc:List (Str×Addr)} {x:Str} {a:Addr},(clo cells names acc).lookup x = some a→acc.lookup x = some a∨((x,NameKind.free) ∈ names∧cells.lookup x = some a)
 | [],acc,x,a,h=>.inl h
 | p :: r,acc,x,a,h=>(clo_lookup (names:=r) h).elim (λq=>clo1_is q .inl λh1 h2 h3=>.inr ⟨h1 ▸ h2 ▸ .head _,h3⟩) λq=>.inr ⟨.tail _ q.1,q.2⟩
theorem clo1_free {cells acc:List (Str×Addr)} {x:Str} {a:Addr} (hc:cells.lookup x = some a):(clo1 cells (x,.free) acc).lookup x = some a:=by
 unfold clo1
 rw [if_pos rfl,hc]
 exact look_eq _ _ _
theorem clo1_keep {cells acc:List (Str×Addr)} {x:Str} {a:Addr} {p:Str×NameKind} (hc:cells.lookup x = some a) (h:acc.lookup x = some a):(clo1 cells p acc).lookup x = some a:=by
 unfold clo1
 by_cases hk:p.2 = .free
 · rw [if_pos hk]
   cases hb:cells.lookup p.1 with
   | none=>exact h
   | some b=>
    by_cases hx:x = p.1
    · rw [hx] at hc h; rw [hx,← some_eq hc hb]; exact look_eq _ _ _
    · exact (look_ne hx).trans h
 · rw [if_neg hk]; exact h
theorem clo_has {cells:List (Str×Addr)} {x:Str} {a:Addr} (hc:cells.lookup x = some a):∀ {names:List (Str×NameKind)} {acc:List (Str×Addr)},((x,NameKind.free) ∈ names∨acc.lookup x = some a)→(clo cells names acc).lookup x = some a
 | [],acc,h=>h.elim (λq=>nomatch q) id
 | p :: r,acc,h=>clo_has hc (names:=r) (h.elim (λq=>(List.mem_cons.mp q).elim (λq=>.inr (q ▸ clo1_free hc)) .inl) λq=>.inr (clo1_keep hc q))
noncomputable abbrev cellO:Obj:={ cls:=.type "cell",data:=.cell none }
theorem cellsFrom_cell (n:Nat) (nm:Str) (r:List (Str×NameKind)) (acc:List (Str×Addr)):cellsFrom n ((nm,.cell) :: r) acc = cellsFrom (n + 1) r ((nm,n) :: acc):=by rw [cellsFrom]; rfl
theorem cellsFrom_ne {k:NameKind} (hk:k ≠ .cell) (n:Nat) (nm:Str) (r:List (Str×NameKind)) (acc:List (Str×Addr)):cellsFrom n ((nm,k) :: r) acc = cellsFrom n r acc:=by rw [cellsFrom,if_neg λq=>hk (eq_of_beq q)]
theorem push_cell (h:Heap) (nm:Str) (r:List (Str×NameKind)):pushCells h ((nm,.cell) :: r) = pushCells (h.push cellO) r:=by rw [pushCells]; rfl
theorem push_ne {k:NameKind} (hk:k ≠ .cell) (h:Heap) (nm:Str) (r:List (Str×NameKind)):pushCells h ((nm,k) :: r) = pushCells h r:=by rw [pushCells,if_neg λq=>hk (eq_of_beq q)]
theorem cells_new:∀ (names:List (Str×NameKind)) (h:Heap) (acc:List (Str×Addr)) (x:Str) (a:Addr),(cellsFrom h.objs.size names acc).lookup x = some a→acc.lookup x = some a∨(h.objs.size ≤ a∧(pushCells h names).IsCell a none)
 | [],h,acc,x,a,e=>.inl e
 | (n,k) :: r,h,acc,x,a,e=>by
  by_cases hk:k = .cell
  · subst hk
    rw [cellsFrom_cell] at e
    rw [push_cell]
    have hs:(h.push cellO).objs.size = h.objs.size + 1:=Heap.size_push ..
    rcases cells_new r (h.push cellO) _ x a (hs ▸ e) with q | q
    · exact look_is q (λh1 h2=>.inr ⟨Nat.le_of_eq h2,h2 ▸ ⟨_,pushCells_keeps _ _ _ _ (Heap.get?_push_size _ rfl),rfl⟩⟩) λ_ q=>.inl q
    · exact .inr ⟨by have:=q.1; rw [hs] at this; exact Nat.le_of_succ_le this,q.2⟩
  · rw [cellsFrom_ne hk] at e; rw [push_ne hk]; exact cells_new r h acc x a e
theorem cells_back {a:Nat}:∀ (names:List (Str×NameKind)) (m:Nat) (ac:List (Str×Addr)) (z:Str),a < m→(cellsFrom m names ac).lookup z = some a→ac.lookup z = some a
 | [],m,ac,z,_,q=>q
 | (n,k) :: r,m,ac,z,hm,q=>by
  by_cases hk:k = .cell
  · subst hk
    rw [cellsFrom_cell] at q
    exact look_is (cells_back r (m + 1) _ z (Nat.lt_succ_of_lt hm) q) (λ_ h=>absurd (h ▸ hm) (Nat.lt_irrefl _)) λ_ q=>q
  · rw [cellsFrom_ne hk] at q; exact cells_back r m ac z hm q
theorem cells_apart:∀ (names:List (Str×NameKind)) (n:Nat) (acc:List (Str×Addr)) (x y:Str) (a:Nat),(∀ z (b:Nat),acc.lookup z = some b→b < n)→n ≤ a→(cellsFrom n names acc).lookup x = some a→(cellsFrom n names acc).lookup y = some a→x = y
 | [],n,acc,x,y,a,hb,hn,e1,e2=>absurd (hb x a e1) (Nat.not_lt.mpr hn)
 | (nm,k) :: r,n,acc,x,y,a,hb,hn,e1,e2=>by
  by_cases hk:k = .cell
  · subst hk
    rw [cellsFrom_cell] at e1 e2
    by_cases ha:n + 1 ≤ a
    · exact cells_apart r (n + 1) _ x y a (λz b q=>look_is q (λ_ h=>h ▸ Nat.lt_succ_self _) λ_ q=>Nat.lt_succ_of_lt (hb z b q)) ha e1 e2
    · have hlt:a < n + 1:=Nat.not_le.mp ha
      exact look_is (cells_back r (n + 1) _ x hlt e1) (λh1 _=>look_is (cells_back r (n + 1) _ y hlt e2) (λh2 _=>h1.trans h2.symm) λ_ q=>absurd (hb _ _ q) (Nat.not_lt.mpr hn)) λ_ q=>absurd (hb _ _ q) (Nat.not_lt.mpr hn)
  · rw [cellsFrom_ne hk] at e1 e2; exact cells_apart r n acc x y a hb hn e1 e2
theorem cells_has {x:Str}:∀ (names:List (Str×NameKind)) (n:Nat) (acc:List (Str×Addr)),((x,NameKind.cell) ∈ names∨(acc.lookup x).isSome = true)→((cellsFrom n names acc).lookup x).isSome = true
 | [],n,acc,h=>h.elim (λq=>nomatch q) id
 | (nm,k) :: r,n,acc,h=>by
  by_cases hk:k = .cell
  · subst hk
    rw [cellsFrom_cell]
    refine cells_has r _ _ ?_
    by_cases hx:x = nm
    · subst hx; exact .inr (by rw [look_eq]; rfl)
    · exact h.elim (λq=>(List.mem_cons.mp q).elim (λq=>absurd (congrArg (·.1) q) hx) .inl) λq=>.inr ((look_ne hx).symm ▸ q)
  · rw [cellsFrom_ne hk]
    exact cells_has r _ _ (h.elim (λq=>(List.mem_cons.mp q).elim (λq=>absurd (congrArg (·.2) q).symm hk) .inl) .inr)
theorem cells_free {x:Str} {a:Addr}:∀ (names:List (Str×NameKind)) (n:Nat) (acc:List (Str×Addr)),(∀ k,(x,k) ∈ names→k ≠ .cell)→acc.lookup x = some a→(cellsFrom n names acc).lookup x = some a
 | [],n,acc,_,e=>e
 | (nm,k) :: r,n,acc,h,e=>by
  by_cases hk:k = .cell
  · subst hk
    rw [cellsFrom_cell]
    exact cells_free r _ _ (λk' hk'=>h k' (.tail _ hk')) ((look_ne λq=>h _ (q ▸ .head _) rfl).trans e)
  · rw [cellsFrom_ne hk]; exact cells_free r _ _ (λk' hk'=>h k' (.tail _ hk')) e
section
variable {Z:Zt} {Y:Yt} {B:Blk} {w w' w1 wE wB w0:GW} {s s' s1 sE sB:Shared} {σ σ':H} {v:V} {c:Value} {ρ ρ' ρB:Rho} {cv cv' cvB:Nat→Value} {A:Around} {D:Addr}
theorem newEnv_comp {M:Model} {E:Value→Shared→Prop} {scope:Scope} {g:Addr} {cl:List (Str×Addr)} {q:Str} {env:Env} {Q:Env→Shared→Prop}
 (h:Q { scope:=scope,locals:=s.heap.objs.size,globals:=g,cells:=cellsFrom (s.heap.objs.size + 1) scope.names cl,qual:=q,func:=none,code:=env.code,frame:=env.frame,builtins:=env.builtins }
  { s with heap:=pushCells (s.heap.push { cls:=.type "dict",data:=.dict #[] }) scope.names }) :
 wpAny M A (newFunctionEnv scope g cl [] q none .none (some env)) Q E s:=by
 simp only [newFunctionEnv,Option.isSome_some,if_true]
 refine wpAny_bind (wpAny_alloc ?_)
 refine wpAny_bind (wpAny_layCells _ (λname kind cells=>by cases hkc:kind == NameKind.cell <;> simp) _ _ _ _ ?_)
 rw [show ({ s with heap:=s.heap.push { cls:=.type "dict",data:=.dict #[] } }:Shared).heap.objs.size = s.heap.objs.size + 1 from Heap.size_push ..]
 rw [List.forIn_nil]
 exact wpAny_bind (wpAny_pure (wpAny_pure h))
theorem one_mem {a x:Addr} {M:Addr→Prop} (h:x ∈ [a]) (m:M a):M x:=List.mem_singleton.mp h ▸ m
theorem not_one {a x:Addr} (h:x ∉ [a]):x ≠ a:=λq=>h (q ▸ .head _)
theorem kept_one {h':Heap} {t:Nat} (hs:Heap.SameBut D s.heap h'):Kept [D] s { s with heap:=h',toks:=t }:=λb o hb e=>(hs.2 b (not_one hb)).trans e
theorem emit_ok {elt:E} {pelt:Expr} (he:EOK Z Y B elt pelt):InOK Z Y.A B D wE sE (λρ σ acc=>evG Y.C (λρ σ=>evE Y.C elt ρ σ) [] ρ σ acc) (do let _ ← call (.builtin "list.append") [.ref D,← eval pelt B.env]):=λρ σ acc acc' σ' cv w s t a e=>
 b2_is e λx σ1 e1 e=>gd_is e λhsh e=>pr_is (M:=λacc' σ'=>wpAny Z.M Y.A _ (λ_=>InAt Z B D wE sE ρ cv w s σ' acc') NoE s) e (wpAny_bind (he.go t.now e1 λc s1w s1 P1 X1 hx=>
  have st1:Step B noX ρ cv w s ρ cv s1w s1:=P1.step
  have a1:=a.step st1
  a1.at_.elim λxs ⟨n,g,r⟩=>wpAny_bind (append_at (hsz:=le_line (Nat.le_trans (tup_short r hsh) (by decide))) g λh' hs g'=>wpAny_pure (
   have hk:=kept_one (s:=s1) (t:=s1.toks) hs
   .mk cv s1w ((t.go P1).touches ((t.go P1).post.touches (λb hb=>one_mem (M:=Own sE s1w) hb a1.own) hk) (.refl _) (λb hb=>one_mem (M:=λb=>¬ Mut B ρ cv b) hb a1.apart) hk) ⟨⟨_,_,g',by rw [Array.toList_push]; exact r.append (.one hx)⟩,a1.own,a1.apart⟩
    ((st1.more (X':=onD D) λ_ h=>h.elim).trans ⟨λb o e n m z=>⟨hk b o (λq=>z (List.mem_singleton.mp q)) e,n,id,m⟩,.refl⟩)))))
end
section
variable {Z:Zt} {Y:Yt} {B:Blk} {w w' w1 wE wB w0:GW} {s s' s1 sE sB:Shared} {σ σ':H} {v:V} {c:Value} {ρ ρ' ρB:Rho} {cv cv' cvB:Nat→Value} {A:Around} {D It:Addr}
noncomputable def notSet (e:Expr):Bool:=decide (e.ctorIdx ≠ 7)
theorem folded_is {pe:Expr} (h:notSet pe = true) (env:Env) (x:Value):foldedSetIterable pe env x = pure x:=by
 cases pe with
 | Set=>exact ff h
 | _=>rfl
noncomputable abbrev emitOf (elt:Expr) (D:Addr) (env:Env):Sem Unit:=do let _ ← call (.builtin "list.append") [.ref D,← eval elt env]
noncomputable abbrev nestOf (e:Expr) (it2:Expr) (D:Addr) (env:Env):Sem Unit:=do
 let x ← eval it2 env
 standAt it2.pos
 let x ← foldedSetIterable it2 env x
 let _ ← runOwn (.compStart e 1 (← holding [x] (pyIter x)) (.ref D) env) env
theorem turn1 {elt t1 it1:Expr} {ifs1:List Expr} {scope:Scope} {pos:Pos} {env:Env}:LoopIs Z A (.ListComp elt [⟨t1,it1,ifs1,0⟩] scope pos) 0 t1 ifs1 (emitOf elt D env) It D env it1.pos:=⟨rfl,rfl,rfl,rfl⟩
theorem turn2a {elt t1 it1 t2 it2:Expr} {ifs1 ifs2:List Expr} {scope:Scope} {pos:Pos} {env:Env} :
 LoopIs Z A (.ListComp elt [⟨t1,it1,ifs1,0⟩,⟨t2,it2,ifs2,0⟩] scope pos) 0 t1 ifs1 (nestOf (.ListComp elt [⟨t1,it1,ifs1,0⟩,⟨t2,it2,ifs2,0⟩] scope pos) it2 D env) It D env it1.pos:=⟨by
 unfold TurnIs nestOf
 simp only [bind_assoc]
 rfl,rfl,rfl,rfl⟩
theorem turn2b {elt t1 it1 t2 it2:Expr} {ifs1 ifs2:List Expr} {scope:Scope} {pos:Pos} {env:Env}:LoopIs Z A (.ListComp elt [⟨t1,it1,ifs1,0⟩,⟨t2,it2,ifs2,0⟩] scope pos) 1 t2 ifs2 (emitOf elt D env) It D env it2.pos:=⟨rfl,rfl,rfl,rfl⟩
theorem start_ok {elt:Expr} {gens:List Comprehension} {depth:Nat} {g:Comprehension} {scope:Scope} {pos:Pos} {env:Env} {R:Result→Shared→Prop} (hg:gens[depth]? = some g) (ha:g.is_async = 0)
 (hself:∀ Q:Value→Shared→Prop,Q (.ref It) s→wpAny Z.M A (pyIter (.ref It)) Q NoE s)
 (h:codeAny Z.M A (.compLoop (.ListComp elt gens scope pos) depth (.ref It) (.ref D) env) R s) :
 codeAny Z.M A (.compStart (.ListComp elt gens scope pos) depth (.ref It) (.ref D) env) R s:=by
 refine codeAny_of_tree ?_
 show wpAny _ A ((compStart (.ListComp elt gens scope pos) depth (.ref It) (.ref D) env).onRaise (λx=>do noteFrame x env; standAt theWindowsPlace)) _ _ s
 refine wpAny_notedAt ?_
 unfold compStart
 have hc:(clausesOf (.ListComp elt gens scope pos))[depth]? = some g:=hg
 rw [hc]
 simp only [Option.elim_some,ha]
 show wpAny _ _ (ask >>= _) _ _ s
 refine wpAny_bind (wpAny_askSetting (wpAny_ite ?_))
 split
 · first
    | exact wpAny_bind (wpAny_pure (wpAny_pure (And.intro rfl h)))
    | exact wpAny_pure (And.intro rfl h)
 · refine wpAny_bind (wpAny_rule ?_)
   show wpAny _ _ (standAt g.iter.pos >>= _) _ _ s
   exact wpAny_bind (wpAny_standAt (wpAny_bind (wpAny_mono (hself (λit' s'=>codeAny Z.M A (.compLoop (.ListComp elt gens scope pos) depth it' (.ref D) env) R s') h) (λit' s' h'=>wpAny_pure (And.intro rfl h')) λ_ _ x=>x.elim)))
theorem fp_safe {fp:List Addr} (t:ST Z B wE sE ρ σ cv w s) (a:∃ o,s.heap.get? D = some o) (h:∀ b ∈ fp,(∃ o,w'.im b = some o)∨Own s w' b) (b:Addr) (hb:b ∈ fp):Safe B (onD D) ρ cv w' b:=
 (h b hb).imp id λq=>⟨q.pr,t.noMut q.new,λz=>a.elim λo e=>no_so q.new ((z:b = D) ▸ e)⟩
theorem ev_nest {C:Orc} {fe:Rho→H→Option (V×H)} {tg:Tg} {i:Mine.It} {es:List E} {gs:List G} {acc:List V} {r:List V×H} (e:evG C fe (.mk tg i es :: gs) ρ σ acc = some r) :
 gd (freeT ρ tg) (b2 (evI C i ρ σ) λl σ=>loopL (turnF C tg es (λρ σ acc=>evG C fe gs ρ σ acc) ρ) l σ acc) = some r:=e
theorem nest_ok {elt:E} {pelt:Expr} {t1 it1 t2 it2:Expr} {tg2:Tg} {i2:Mine.It} {ifs1 ifs2:List Expr} {es2:List E} {scope:Scope} {pos:Pos} (hh:Y.A.handled = none) (K:BlkOK B) (hlo:B.lo = sE.heap)
 (hs2:notSet it2 = true) (hi2:ItOK Z Y B i2 t2 it2) (ht2:TgOK B tg2 t2) (hf2:AllOK Z Y B es2 ifs2) (he:EOK Z Y B elt pelt) :
 InOK Z Y.A B D wE sE (λρ σ acc=>evG Y.C (λρ σ=>evE Y.C elt ρ σ) [.mk tg2 i2 es2] ρ σ acc) (nestOf (.ListComp pelt [⟨t1,it1,ifs1,0⟩,⟨t2,it2,ifs2,0⟩] scope pos) it2 D B.env):=λρ σ acc acc' σ' cv w s t a e=>
 gd_is (ev_nest e) λhfree e=>b2_is e λl σ1 e1 e=>wpAny_bind (wpT (hi2 ρ σ l σ1 w s t.now e1) λx s1 h1=>wpAny_bind (wpAny_standAt (by
  rw [folded_is hs2]
  refine wpAny_bind (wpAny_pure (wpAny_bind (wpAny_holding (wpT h1 λc s2 h2=>?_))))
  obtain ⟨w1,It,fp,wr,S,Md,P1,W,hS,hwr,hfp⟩:=h2
  have t1:=t.go P1
  have st1:Step B noX ρ cv w s ρ cv w1 s2:=P1.step
  exact wpAny_bind (wpAny_runOwn (start_ok (g:=⟨t2,it2,ifs2,0⟩) rfl rfl (λQ q=>W.self 0 s2 Q hS q)
   (loop_ok (wB:=w) (sB:=s) (cvB:=cv) hh K hlo turn2b W ht2 hf2 (emit_ok he) hfree (λb hb=>(hwr b hb).new) l 0 rfl (Nat.zero_add _) acc acc' σ1 σ' cv w1 s2 ⟨t1,hS,λb hb=>⟨t.post.gone (hwr b hb).new,(hwr b hb).pr⟩,fp_safe t (a.at_.elim λxs ⟨n,g,_⟩=>⟨_,g⟩) hfp,.refl⟩ (a.step st1) (st1.more (X':=onD D) λ_ h=>h.elim) e
    fun cv' w' s' t' a' st'=>wpAny_pure (.mk cv' w' t' a' st')))))))
noncomputable def StartOK (Z:Zt) (Y:Yt) (B:Blk) (e:Expr) (elt:E) (tg:Tg) (tgt:Expr) (ifs:List E) (gs:List G):Prop:=
 ∀ (D:Addr) (wE:GW) (sE:Shared) (ρ:Rho) (σ σ':H) (l acc':List V) (cv:Nat→Value) (w w0:GW) (s:Shared) (It:Addr) (fp wr:List Addr) (S:Nat→Heap→Prop) (Md:Nat→Value→Heap→Prop) (R:Result→Shared→Prop),
  B.lo = sE.heap→Itr Z Y.A w0 It fp wr l tgt S Md→LoopAt Z B (onD D) wE sE w0 fp wr S ρ σ cv w s 0→Acc Z D sE B ρ cv [] w s→freeT ρ tg = true→
  loopL (turnF Y.C tg ifs (λρ σ acc=>evG Y.C (λρ σ=>evE Y.C elt ρ σ) gs ρ σ acc) ρ) l σ [] = some (acc',σ')→
  (∀ cv' w' s',ST Z B wE sE ρ σ' cv' w' s'→Acc Z D sE B ρ cv' acc' w' s'→R (.ok .next) s')→codeAny Z.M Y.A (.compStart e 0 (.ref It) (.ref D) B.env) R s
theorem start1 {elt:E} {pelt:Expr} {t1 it1:Expr} {tg1:Tg} {ifs1:List Expr} {es1:List E} {scope:Scope} {pos:Pos} (hh:Y.A.handled = none) (K:BlkOK B) (ht:TgOK B tg1 t1) (hf:AllOK Z Y B es1 ifs1) (he:EOK Z Y B elt pelt) :
 StartOK Z Y B (.ListComp pelt [⟨t1,it1,ifs1,0⟩] scope pos) elt tg1 t1 es1 []:=λD wE sE ρ σ σ' l acc' cv w w0 s It fp wr S Md R hlo W L a hfree hl hR=>
 start_ok (g:=⟨t1,it1,ifs1,0⟩) rfl rfl (λQ q=>W.self 0 s Q L.st q) (loop_ok (wB:=wE) (sB:=sE) (cvB:=cv) hh K hlo turn1 W ht hf (emit_ok he) hfree (λb hb=>(L.own b hb).new) l 0 rfl (Nat.zero_add _) [] acc' σ σ' cv w s L a L.t.post.step hl λcv' w' s' t' a' _=>hR cv' w' s' t' a')
theorem start2 {elt:E} {pelt:Expr} {t1 it1 t2 it2:Expr} {tg1 tg2:Tg} {i2:Mine.It} {ifs1 ifs2:List Expr} {es1 es2:List E} {scope:Scope} {pos:Pos} (hh:Y.A.handled = none) (K:BlkOK B) (ht:TgOK B tg1 t1) (hf:AllOK Z Y B es1 ifs1)
 (hs2:notSet it2 = true) (hi2:ItOK Z Y B i2 t2 it2) (ht2:TgOK B tg2 t2) (hf2:AllOK Z Y B es2 ifs2) (he:EOK Z Y B elt pelt) :
 StartOK Z Y B (.ListComp pelt [⟨t1,it1,ifs1,0⟩,⟨t2,it2,ifs2,0⟩] scope pos) elt tg1 t1 es1 [.mk tg2 i2 es2]:=λD wE sE ρ σ σ' l acc' cv w w0 s It fp wr S Md R hlo W L a hfree hl hR=>
 start_ok (g:=⟨t1,it1,ifs1,0⟩) rfl rfl (λQ q=>W.self 0 s Q L.st q) (loop_ok (wB:=wE) (sB:=sE) (cvB:=cv) hh K hlo turn2a W ht hf (nest_ok hh K hlo hs2 hi2 ht2 hf2 he) hfree (λb hb=>(L.own b hb).new) l 0 rfl (Nat.zero_add _) [] acc' σ σ' cv w s L a L.t.post.step hl λcv' w' s' t' a' _=>hR cv' w' s' t' a')
end
noncomputable def rel1 (sc:List (Str×NameKind)) (p:Str×NameKind):Str×NameKind:=if (p.2 == .free && sc.lookup p.1 == some .cell) then (p.1,.cell) else p
noncomputable def relN (sc names:List (Str×NameKind)):List (Str×NameKind):=names.map (rel1 sc)
noncomputable def tgSlots (t:Tg):List Nat:=t.casesOn (λi=>[i]) λi j=>[i,j]
noncomputable def gsSlots:List G→List Nat
 | []=>[]
 | .mk t _ _ :: r=>tgSlots t ++ gsSlots r
structure CompNames (B:Blk) (names:List (Str×NameKind)) (tab:Tab) (st:Str→Bool) (slots:List Nat):Prop where
 nd:(names.map (·.1)).Nodup
 free:∀ p ∈ names,p.2 = .free→B.sc.lookup p.1 = some .cell∨B.sc.lookup p.1 = some .free
 tb:∀ p ∈ tab,(p.1 ∈ slots∧st p.2 = true)∨(p ∈ B.tab∧names.lookup p.2 = some .free)
 sk:∀ x,st x = true→names.lookup x = some .local∨names.lookup x = some .cell
 ok:TabOk tab
theorem rel1_fst (sc:List (Str×NameKind)) (p:Str×NameKind):(rel1 sc p).1 = p.1:=by unfold rel1; split <;> rfl
theorem rel1_free {sc:List (Str×NameKind)} {p:Str×NameKind} {k:NameKind} (h:(rel1 sc p).2 = k) (hk:k = .cell∨k = .free):p.2 = .cell∨p.2 = .free:=by
 unfold rel1 at h
 split at h
 · rename_i q; exact .inr (eq_of_beq (Bool.and_eq_true_iff.mp q).1)
 · exact h ▸ hk
theorem rel1_kind (sc:List (Str×NameKind)) (x:Str):(rel1 sc (x,.free)).2 = .cell∨(rel1 sc (x,.free)).2 = .free:=by unfold rel1; split <;> first | exact .inl rfl | exact .inr rfl
theorem relN_lookup {sc:List (Str×NameKind)} {x:Str} {k:NameKind}:∀ {names:List (Str×NameKind)},names.lookup x = some k→(relN sc names).lookup x = some (rel1 sc (x,k)).2
 | [],e=>nn e
 | (n,k') :: r,e=>by
  have h:relN sc ((n,k') :: r) = (n,(rel1 sc (n,k')).2) :: relN sc r:=congrArg (· :: relN sc r) (Prod.ext (rel1_fst _ _) rfl)
  rw [h]
  exact look_is e (λh1 h2=>by rw [h1,h2]; exact look_eq _ _ _) λh1 e=>(look_ne h1).trans (relN_lookup e)
theorem relN_back {sc:List (Str×NameKind)} {x:Str} {k:NameKind}:∀ {names:List (Str×NameKind)},(relN sc names).lookup x = some k→∃ k0,(x,k0) ∈ names∧(rel1 sc (x,k0)).2 = k
 | [],e=>nn e
 | (n,k') :: r,e=>by
  have h:relN sc ((n,k') :: r) = (n,(rel1 sc (n,k')).2) :: relN sc r:=congrArg (· :: relN sc r) (Prod.ext (rel1_fst _ _) rfl)
  rw [h] at e
  exact look_is e (λh1 h2=>⟨k',h1 ▸ .head _,h1 ▸ h2⟩) λh1 e=>(relN_back e).elim λk0 q=>⟨k0,.tail _ q.1,q.2⟩
section
variable {Z:Zt} {Y:Yt} {B:Blk} {w w' w2 wE wB w0:GW} {s s' s2 sE sB:Shared} {σ σ' σ1:H} {v:V} {c:Value} {ρ ρ' ρB:Rho} {cv cv' cvB:Nat→Value} {A:Around} {D Cx:Addr} {names:List (Str×NameKind)} {tab:Tab} {st:Str→Bool} {slots:List Nat} {scope:Scope} {m:Str→Option Value}
structure CompOut (Z:Zt) (w:GW) (s:Shared) (σ':H) (l:List V) (D Cx:Addr) (w':GW) (s':Shared):Prop where
 post:Post Z w s σ' w' s'
 lst:∃ xs n,s'.heap.get? D = some (lstO xs n)∧VRs Z w' l xs.toList
 d:Own s w' D
 c:Own s w' Cx
 ns:∃ m,s'.heap.Ns Cx m
 ne:D ≠ Cx
noncomputable def blkC (B:Blk) (names:List (Str×NameKind)) (tab:Tab) (st:Str→Bool) (lo:Heap) (scope:Scope) (Cx:Addr) (cells:List (Str×Addr)):Blk:=
 { lo:=lo,st:=st,tab:=tab,sc:=relN B.sc names,env:={ scope:=relabel scope B.env,locals:=Cx,globals:=B.env.globals,cells:=cells,qual:=B.env.qual,func:=none,code:=B.env.code,frame:=B.env.frame,builtins:=B.env.builtins } }
theorem relabel_is (K:BlkOK B) (scope:Scope):(relabel scope B.env).names = relN B.sc scope.names:=by
 unfold relabel relN
 refine List.map_congr_left λp _=>?_
 unfold rel1
 obtain ⟨n,k⟩:=p
 simp only [K.env.kind,K.env.kindOf,beq_self_eq_true,Bool.and_true]
noncomputable abbrev H2 (h:Heap):Heap:=h.push { cls:=.type "list",data:=.seq ([]:List Value).toArray }
noncomputable abbrev H3 (h:Heap):Heap:=(H2 h).push { cls:=.type "dict",data:=.dict #[] }
noncomputable abbrev H4 (h:Heap) (names:List (Str×NameKind)):Heap:=pushCells (H3 h) names
noncomputable abbrev cells4 (B:Blk) (h:Heap) (names:List (Str×NameKind)):List (Str×Addr):=cellsFrom (H3 h).objs.size names (clo B.env.cells names [])
theorem sz2 (h:Heap):(H2 h).objs.size = h.objs.size + 1:=Heap.size_push ..
theorem sz3 (h:Heap):(H3 h).objs.size = h.objs.size + 2:=(Heap.size_push ..).trans (congrArg (· + 1) (sz2 h))
theorem keep4 {h:Heap} (b:Addr) (o:Obj) (q:h.get? b = some o):(H4 h names).get? b = some o:=pushCells_keeps _ _ _ _ (Heap.get?_push_of_some _ (Heap.get?_push_of_some _ q))
theorem new_none {h:Heap} {a:Addr} (ha:h.objs.size ≤ a):h.get? a = none:=Heap.get?_none_of_le ha
inductive CellIs (B:Blk) (h:Heap) (names:List (Str×NameKind)) (x:Str) (a:Addr):Prop
 | old:(x,NameKind.free) ∈ names→B.env.cells.lookup x = some a→CellIs B h names x a
 | new:h.objs.size + 2 ≤ a→(H4 h names).IsCell a none→CellIs B h names x a
theorem cell4 {h:Heap} {x:Str} {a:Addr} (e:(cells4 B h names).lookup x = some a):CellIs B h names x a:=
 (cells_new _ _ _ x a e).elim (λz=>(clo_lookup z).elim (λq=>nn q) λq=>.old q.1 q.2) λz=>.new (sz3 h ▸ z.1) z.2
theorem cell_old {h:Heap} (N:CompNames B names tab st slots) {x:Str} {a:Addr} (hx:(x,NameKind.free) ∈ names) (ha:B.env.cells.lookup x = some a):(cells4 B h names).lookup x = some a:=
 cells_free _ _ _ (λk hk q=>NameKind.noConfusion (q.symm.trans (some_eq (mem_look N.nd hk) (mem_look N.nd hx)))) (clo_has ha (.inl hx))
theorem blk_ok {h:Heap} (K:BlkOK B) (hk:scope.kind = .function) (N:CompNames B scope.names tab st slots) (lo:Heap):BlkOK (blkC B scope.names tab st lo scope Cx (cells4 B h scope.names)):=
 ⟨⟨hk,relabel_is K scope,K.env.glob,K.env.bi⟩,N.ok,λx hx=>
  have key:∀ k,(k = .cell∨k = .free)→(relN B.sc scope.names).lookup x = some k→((cells4 B h scope.names).lookup x).isSome = true:=λk hk e=>(relN_back e).elim λk0 q=>
   (rel1_free q.2 hk).elim (λz=>cells_has _ _ _ (.inl ((z:k0 = .cell) ▸ q.1))) λz=>by
    have hm:(x,NameKind.free) ∈ scope.names:=(z:k0 = .free) ▸ q.1
    obtain ⟨a,ha⟩:=Option.isSome_iff_exists.mp (K.cel x (N.free _ hm rfl))
    rw [cell_old N hm ha]; rfl
  hx.elim (key _ (.inl rfl)) (key _ (.inr rfl))⟩
theorem tg_free {i:Nat}:∀ {t:Tg},freeT ρ t = true→i ∈ tgSlots t→isFree ρ i = true
 | .one k,h,q=>List.mem_singleton.mp q ▸ h
 | .two j k,h,q=>an3 h λh1 h2 _=>two_mem (M:=λi=>isFree ρ i = true) q h1 h2
theorem free_slot {i:Nat}:∀ {gs:List G},freeGs ρ gs = true→i ∈ gsSlots gs→isFree ρ i = true
 | .mk t it fs :: gs,h,q=>an2 h λh1 h2=>(List.mem_append.mp q).elim (tg_free h1) (free_slot h2)
theorem free_no {i:Nat} {sl:Slot} {G:Prop} (h:isFree ρ i = true) (e:getS ρ i = some sl):G:=by unfold isFree at h; rw [e] at h; exact ff h
theorem er4 {gs:List G} (K:BlkOK B) (hk:scope.kind = .function) (N:CompNames B scope.names tab st (gsSlots gs)) (hf:freeGs (noOwn ρ) gs = true) (P:Post Z w s σ1 w2 s2) (r:ER Z B w ρ s.heap m cv) :
 ER Z (blkC B scope.names tab st s.heap scope (H2 s2.heap).objs.size (cells4 B s2.heap scope.names)) w2 (noOwn ρ) (H4 s2.heap scope.names) (λ_=>none) cv:=
 have C0:s2.heap.get? (H2 s2.heap).objs.size = none:=new_none (sz2 s2.heap ▸ Nat.le_succ _)
 have old:∀ x a,B.env.cells.lookup x = some a→(∃ v,s2.heap.IsCell a v)∧Priv w2 a:=λx a e=>(r.cell x a e).is.elim λv ⟨o,ho,hd⟩=>have q:=P.still ho (r.cell x a e).pr; ⟨⟨v,o,q.1,hd⟩,q.2⟩
 { ns:=(Heap.Ns.new (H2 s2.heap) (.type "dict")).keeps (pushCells_keeps _ _)
   pr:=.new P.sim C0
   bnd:=P.gone C0
   cell:=λx a e=>match cell4 e with
    | .old hm hc=>⟨let ⟨⟨v,o,ho,hd⟩,_⟩:=old x a hc; ⟨v,o,keep4 _ _ ho,hd⟩,(old x a hc).2,λh=>(N.sk x h).elim (λq=>nomatch some_eq (mem_look N.nd hm) q) λq=>nomatch some_eq (mem_look N.nd hm) q⟩
    | .new h1 h2=>have an:=new_none (Nat.le_trans (Nat.le_add_right _ 2) h1); ⟨⟨_,h2⟩,.new P.sim an,λ_=>P.gone an⟩
   capart:=λx y a e1 e2=>match cell4 e1,cell4 e2 with
    | .old _ h1,.old _ h2=>r.capart x y a h1 h2
    | .old _ h1,.new h2 _=>(old x a h1).1.elim λv ⟨o,ho,_⟩=>no_so (new_none (Nat.le_trans (Nat.le_add_right _ 2) h2)) ho
    | .new h1 _,_=>cells_apart scope.names _ (clo B.env.cells scope.names []) x y a (λz b hz=>(clo_lookup hz).elim (λq=>nn (q:none = some b)) λq=>(old z b q.2).1.elim λv ⟨o,ho,_⟩=>by rw [sz3]; exact Nat.lt_of_lt_of_le (Heap.lt_size ho) (Nat.le_add_right _ 2)) (by rw [sz3]; exact h1) e1 e2
   val:=λi x hx sl hsl=>(N.tb (i,x) hx).elim (λq=>free_no (free_slot hf q.1) hsl) λ⟨hB,hfr⟩=>
    have q:=r.val i x hB sl (noOwn_sub i sl hsl)
    have hm:=look_mem hfr
    ⟨q.1.elim (λ⟨hl,_⟩=>(N.free _ hm rfl).elim (λz=>nomatch some_eq z ((K.env.kindOf x).symm.trans hl)) λz=>nomatch some_eq z ((K.env.kindOf x).symm.trans hl)) λ⟨_,a,ha,o,ho,hd⟩=>
     .inr ⟨(rel1_kind B.sc x).imp (λz=>(congrArg (List.lookup x) (relabel_is K scope)).trans ((relN_lookup hfr).trans (congrArg some z))) λz=>(congrArg (List.lookup x) (relabel_is K scope)).trans ((relN_lookup hfr).trans (congrArg some z)),a,cell_old N hm ha,o,keep4 _ _ (P.still ho (r.cell x a ha).pr).1,hd⟩,
     match sl,q.2,hsl with
      | .v y,q,_=>VR.ext P.ext q
      | .own l,_,h=>noOwn_own h⟩
   own:=λi j l l' _ _ _ e1 _=>noOwn_own e1 }
theorem ev_comp {C:Orc} {elt:E} {tg:Tg} {i:Mine.It} {ifs:List E} {gs:List G} {r:V×H} (e:evE C (.comp elt (.mk tg i ifs :: gs)) ρ σ = some r):gd (freeGs (noOwn ρ) (.mk tg i ifs :: gs)) (b2 (gd (freeT (noOwn ρ) tg) (b2 (evI C i (noOwn ρ) σ) λl σ=>
 loopL (turnF C tg ifs (λρ σ acc=>evG C (λρ σ=>evE C elt ρ σ) gs ρ σ acc) (noOwn ρ)) l σ [])) λl σ=>some (.lst l,σ)) = some r:=e
inductive CompOK (Z:Zt) (Y:Yt) (B:Blk) (elt:E) (pelt:Expr) (scope:Scope) (pos:Pos):List G→List Comprehension→Prop
 | mk {tg1 i1 ifs1 gs' t1 it1 pifs1 rest tab st}:scope.kind = .function→CompNames B scope.names tab st (gsSlots (.mk tg1 i1 ifs1 :: gs'))→notSet it1 = true→ItOK Z Y B i1 t1 it1→
  (∀ B':Blk,BlkOK B'→B'.tab = tab→B'.sc = relN B.sc scope.names→B'.st = st→StartOK Z Y B' (.ListComp pelt (⟨t1,it1,pifs1,0⟩ :: rest) scope pos) elt tg1 t1 ifs1 gs')→CompOK Z Y B elt pelt scope pos (.mk tg1 i1 ifs1 :: gs') (⟨t1,it1,pifs1,0⟩ :: rest)
noncomputable def UseOK (Z:Zt) (A:Around) (Q:Value→Shared→Prop) (D Cx:Addr) (s':Shared) (use:Option (Value→Sem Unit)):Prop:=match use with
 | none=>∀ h',Heap.SameBut Cx s'.heap h'→Q (.ref D) { s' with heap:=h' }
 | some u=>wpAny Z.M A (u (.ref D)) (λ_ s''=>∃ m,s''.heap.Ns Cx m∧∀ h',Heap.SameBut Cx s''.heap h'→Q .none { s'' with heap:=h' }) NoE s'
theorem comp_ok {elt:E} {pelt t1 it1:Expr} {tg1:Tg} {i1:Mine.It} {ifs1:List E} {gs:List G} {pifs1:List Expr} {rest:List Comprehension} {pos:Pos} {use:Option (Value→Sem Unit)} {Q:Value→Shared→Prop}
 (K:BlkOK B) (hk:scope.kind = .function) (N:CompNames B scope.names tab st (gsSlots (.mk tg1 i1 ifs1 :: gs))) (hs1:notSet it1 = true) (hi1:ItOK Z Y B i1 t1 it1)
 (hS:∀ B':Blk,BlkOK B'→B'.tab = tab→B'.sc = relN B.sc scope.names→B'.st = st→StartOK Z Y B' (.ListComp pelt (⟨t1,it1,pifs1,0⟩ :: rest) scope pos) elt tg1 t1 ifs1 gs)
 (X:Now Z B ρ σ w s) (e:evE Y.C (.comp elt (.mk tg1 i1 ifs1 :: gs)) ρ σ = some (v,σ')) (hQ:∀ l D Cx w' s',v = .lst l→CompOut Z w s σ' l D Cx w' s'→UseOK Z Y.A Q D Cx s' use) :
 wpAny Z.M Y.A (comprehension (.ListComp pelt (⟨t1,it1,pifs1,0⟩ :: rest) scope pos) scope B.env (firstIterPos (⟨t1,it1,pifs1,0⟩ :: rest) pos) (newList []) (firstAsync (⟨t1,it1,pifs1,0⟩ :: rest)) (firstIter (⟨t1,it1,pifs1,0⟩ :: rest) B.env) use) Q NoE s:=
 gd_is (ev_comp e) λhfg e=>b2_is e λl σ0 e0 e=>gd_is e0 λhfree e0=>b2_is e0 λl1 σ1 e1 e0=>X.br.elim λm0 ⟨cv,rr⟩=>by
 have hc:∀ x ∈ scope.names,x.2 = .free→(B.env.cells.lookup x.1).isSome = true:=λx hx hxk=>K.cel x.1 (N.free x hx hxk)
 refine wpAny_comprehension_free (cl:=clo B.env.cells scope.names []) rfl (folded_is hs1 B.env) (closureFor_is hc) hk (λx hx hl=>mem_look N.nd (by rw [← hl]; exact hx)) ?_
 refine wpT (hi1 (noOwn ρ) σ l1 σ1 w s ⟨X.sim,m0,cv,rr.weak noOwn_sub⟩ e1) λx s1 h1=>wpT h1 λc s2 h2=>?_
 obtain ⟨w2,It,fp,wr,S,Md,P2,W,hS0,hwr,hfp⟩:=h2
 refine wpAny_newList (newEnv_comp ?_) (Nat.zero_le _)
 show codeAny _ _ _ _ { s2 with heap:=H4 s2.heap scope.names }
 have hsz:(H2 s2.heap).objs.size + 1 = (H3 s2.heap).objs.size:=(Heap.size_push ..).symm
 dsimp only
 rw [hsz]
 have R4:=er4 K hk N hfg P2 rr
 have D0:s2.heap.get? s2.heap.objs.size = none:=get_top _
 have P4:Post Z w s σ1 w2 { s2 with heap:=H4 s2.heap scope.names }:=P2.grow keep4
 have gD:(H4 s2.heap scope.names).get? s2.heap.objs.size = some (lstO #[] 0):=pushCells_keeps _ _ _ _ (Heap.get?_push_of_some _ (Heap.get?_push_size _ rfl))
 have T0:ST Z (blkC B scope.names tab st s.heap scope (H2 s2.heap).objs.size (cells4 B s2.heap scope.names)) w s (noOwn ρ) σ1 cv w2 { s2 with heap:=H4 s2.heap scope.names }:=⟨P4,_,R4⟩
 have mut4:∀ b,Mut (blkC B scope.names tab st s.heap scope (H2 s2.heap).objs.size (cells4 B s2.heap scope.names)) (noOwn ρ) cv b→s.heap.get? b ≠ none∨s2.heap.objs.size < b:=λb m=>m.elim (λq=>.inr (by rw [(q:b = (H2 s2.heap).objs.size),sz2]; exact Nat.lt_succ_self _)) λm=>m.elim (λ⟨x,q⟩=>match cell4 q with
  | .old _ hc=>.inl λz=>(rr.cell x b hc).is.elim λv ⟨o,ho,_⟩=>no_so z ho
  | .new h1 _=>.inr (Nat.lt_of_lt_of_le (Nat.lt_succ_of_lt (Nat.lt_succ_self _)) h1)) λ⟨i,x,l,_,h2,_⟩=>noOwn_own h2
 have A0:Acc Z s2.heap.objs.size s (blkC B scope.names tab st s.heap scope (H2 s2.heap).objs.size (cells4 B s2.heap scope.names)) (noOwn ρ) cv [] w2 { s2 with heap:=H4 s2.heap scope.names }:=
  ⟨⟨#[],0,gD,.nil⟩,⟨P2.gone D0,.new P2.sim D0⟩,λq=>(mut4 _ q).elim (λz=>z (P2.gone D0)) (Nat.lt_irrefl _)⟩
 have L0:LoopAt Z (blkC B scope.names tab st s.heap scope (H2 s2.heap).objs.size (cells4 B s2.heap scope.names)) (onD s2.heap.objs.size) w s w2 fp wr S (noOwn ρ) σ1 cv w2 { s2 with heap:=H4 s2.heap scope.names } 0:=
  ⟨T0,W.frame _ _ _ hS0 λb _ o q=>keep4 b o q,hwr,λb hb=>(hfp b hb).imp id λq=>(W.there 0 _ hS0 b hb).elim λo ho=>⟨q.pr,λz=>(mut4 b z).elim (λy=>y q.new) λy=>Nat.lt_asymm y (Heap.lt_size ho),λz=>absurd (Heap.lt_size ho) ((z:b = _) ▸ Nat.lt_irrefl _)⟩,.refl⟩
 refine hS _ (blk_ok K hk N _) rfl rfl rfl s2.heap.objs.size w s (noOwn ρ) σ1 σ0 l1 l cv w2 w2 _ It fp wr S Md _ rfl W L0 A0 hfree e0 λcv' w' s' t' a'=>?_
 refine pr_is (M:=λv σ'=>(∀ l D Cx w' s',v = .lst l→CompOut Z w s σ' l D Cx w' s'→UseOK Z Y.A Q D Cx s' use)→_) e (λhQ=>?_) hQ
 obtain ⟨mE,rE⟩:=t'.er
 have:=hQ l _ _ w' s' rfl ⟨t'.post,a'.at_,a'.own,⟨P2.gone (new_none (sz2 s2.heap ▸ Nat.le_succ _)),rE.pr⟩,⟨mE,rE.ns⟩,by rw [sz2]; exact Nat.ne_of_lt (Nat.lt_succ_self _)⟩
 cases use with
 | none=>exact ⟨mE,rE.ns,this⟩
 | some u=>exact this
theorem CompOut.qf {l:List V} (o:CompOut Z w s σ' l D Cx w' s') (X:Sim Z w σ s.heap) {h':Heap} (hs:Heap.SameBut Cx s'.heap h'):QF Z w s σ' (.lst l) (.ref D) { s' with heap:=h' }:=
 o.lst.elim λxs ⟨n,g,r⟩=>.mk w' D (lstO xs n) (Post.touch (t:=s'.toks) o.post o.c.new o.c.pr hs) ((hs.2 D o.ne).trans g) o.d.new o.d.pr (X.sysSome o.d.new) ⟨xs,n,r⟩
theorem comp_arm {elt:E} {gs:List G} {pelt:Expr} {gens:List Comprehension} {pos:Pos} (K:BlkOK B):CompOK Z Y B elt pelt scope pos gs gens→EOK Z Y B (.comp elt gs) (.ListComp pelt gens scope pos)
 | .mk hk hN hs1 hi1 hS=>λρ σ v σ' w s X e=>by
  rw [arm_eval_ListComp]
  exact comp_ok (use:=none) K hk hN hs1 hi1 hS X e λl D Cx w' s' hv o h' hs=>hv ▸ o.qf X.sim hs
end
section
variable {Z:Zt} {Y:Yt} {B:Blk} {w w' w'' w1 wE wB w0:GW} {s s' s'' s1 sE sB:Shared} {σ σ' σ'':H} {v:V} {c:Value} {ρ ρ' ρ'':Rho} {cv cv' cvB:Nat→Value} {pos p:Pos} {a:E} {pa:Expr}
inductive NextAt (Z:Zt) (B:Blk) (wE:GW) (sE:Shared) (ρ:Rho) (cv:Nat→Value) (w:GW) (s:Shared) (ρ':Rho) (σ':H):Flow→Shared→Prop
 | mk {s':Shared} (cv':Nat→Value) (w':GW):ST Z B wE sE ρ' σ' cv' w' s'→Step B noX ρ cv w s ρ' cv' w' s'→NextAt Z B wE sE ρ cv w s ρ' σ' .next s'
inductive RetAt (Z:Zt) (wE:GW) (sE:Shared) (v:V) (σ':H):Flow→Shared→Prop
 | mk {s':Shared} (c:Value):QV Z wE sE σ' v c s'→RetAt Z wE sE v σ' (.ret c) s'
noncomputable def FlR (Z:Zt) (B:Blk) (wE:GW) (sE:Shared) (ρ:Rho) (cv:Nat→Value) (w:GW) (s:Shared) (r:Fl×Rho×H):Flow→Shared→Prop:=r.1.casesOn (NextAt Z B wE sE ρ cv w s r.2.1 r.2.2) λv=>RetAt Z wE sE v r.2.2
noncomputable def SOK (Z:Zt) (Y:Yt) (B:Blk) (st:Mine.S) (ps:Stmt):Prop:=∀ (wE:GW) (sE:Shared) (ρ:Rho) (σ:H) (r:Fl×Rho×H) (cv:Nat→Value) (w:GW) (s:Shared),B.lo = sE.heap→ST Z B wE sE ρ σ cv w s→evS Y.C Y.N st ρ σ = some r→wpAny Z.M Y.A (exec ps B.env) (FlR Z B wE sE ρ cv w s r) NoE s
noncomputable def SsOK (Z:Zt) (Y:Yt) (B:Blk) (ss:List Mine.S) (ps:List Stmt):Prop:=∀ (wE:GW) (sE:Shared) (ρ:Rho) (σ:H) (r:Fl×Rho×H) (cv:Nat→Value) (w:GW) (s:Shared),B.lo = sE.heap→ST Z B wE sE ρ σ cv w s→evSs Y.C Y.N ss ρ σ = some r→wpAny Z.M Y.A (execs ps B.env) (FlR Z B wE sE ρ cv w s r) NoE s
theorem FlR.after {r:Fl×Rho×H} {g:Flow} (st:Step B noX ρ cv w s ρ' cv' w' s') (q:FlR Z B wE sE ρ' cv' w' s' r g s''):FlR Z B wE sE ρ cv w s r g s'':=match r,q with
 | (.next,ρ1,σ1),q=>NextAt.casesOn (motive:=λg s _=>NextAt Z B wE sE ρ cv w _ ρ1 σ1 g s) q λcv2 w2 t st2=>.mk cv2 w2 t (st.trans st2)
 | (.ret v,_),q=>q
theorem ev_ret {C:Orc} {N:Nat} {o:R3} (e:evS C N (.ret a) ρ σ = o):b2 (evE C a ρ σ) (λx σ=>some (.ret x,ρ,σ)) = o:=e
theorem ev_asg {C:Orc} {N i:Nat} {o:R3} (e:evS C N (.asg i a) ρ σ = o):b2 (evE C a ρ σ) (λx σ=>some (.next,setV ρ i x,σ)) = o:=e
theorem ev_own {C:Orc} {N i:Nat} {o:R3} (e:evS C N (.own i a) ρ σ = o):b2 (evE C a ρ σ) (λx σ=>oLst x λl=>some (.next,setO ρ i l,σ)) = o:=e
theorem ss_nil:SsOK Z Y B [] []:=λwE sE ρ σ r cv w s hlo t e=>some_is e (wpAny_execs_nil (.mk cv w t .refl))
theorem flow_then {o:R3} {k:Rho→H→R3} {r:Fl×Rho×H} {m:Sem Flow} {K:Flow→Shared→Prop} (e:b3 o k = some r) (h:∀ r',o = some r'→wpAny Z.M Y.A m (FlR Z B wE sE ρ cv w s r') NoE s)
 (k1:∀ ρ' σ' cv' w' s',ST Z B wE sE ρ' σ' cv' w' s'→Step B noX ρ cv w s ρ' cv' w' s'→k ρ' σ' = some r→K .next s') (k2:∀ c s',FlR Z B wE sE ρ cv w s r (.ret c) s'→K (.ret c) s'):wpAny Z.M Y.A m K NoE s:=
 b3_is e (λρ1 σ1 e1 e=>wpT (h _ e1) λg s1 q=>NextAt.casesOn (motive:=λg s1 _=>K g s1) q λcv1 w1 t1 st1=>k1 ρ1 σ1 cv1 w1 _ t1 st1 e)
  fun v ρ1 σ1 e1 e=>wpT (h _ e1) λg s1 q=>some_is (M:=λr=>(∀ c s',FlR Z B wE sE ρ cv w s r (.ret c) s'→K (.ret c) s')→K g s1) e (λk2=>RetAt.casesOn (motive:=λg s1 _=>K g s1) q λc q=>k2 c _ (.mk c q)) k2
theorem ss_cons {st:Mine.S} {ps:Stmt} {ss:List Mine.S} {pss:List Stmt} (h:SOK Z Y B st ps) (hs:SsOK Z Y B ss pss):SsOK Z Y B (st :: ss) (ps :: pss):=λwE sE ρ σ r cv w s hlo t e=>
 wpAny_execs_cons (flow_then (Y:=Y) (e:b3 _ _ = _) (λr' e'=>h wE sE ρ σ r' cv w s hlo t e') (λρ' σ' cv' w' s' t' st' e=>wpT (hs wE sE ρ' σ' r cv' w' s' hlo t' e) λ_ _ q=>q.after st') λc s' q=>q)
theorem ite_arm {t0:E} {pt:Expr} {a b:List Mine.S} {pa pb:List Stmt} (ht:AOK Z Y B t0 pt) (ha:SsOK Z Y B a pa) (hb:SsOK Z Y B b pb):SOK Z Y B (.ite t0 a b) (.If pt pa pb pos):=λwE sE ρ σ r cv w s hlo t e=>
 bT_is e λb σ1 e1 e=>wpAny_If (ht.t.go t.now e1 λw1 s1 P1 X1=>match b,e with
  | true,e=>wpT (ha wE sE ρ σ1 r cv w1 s1 hlo (t.go P1) e) λ_ _ q=>q.after P1.step
  | false,e=>wpT (hb wE sE ρ σ1 r cv w1 s1 hlo (t.go P1) e) λ_ _ q=>q.after P1.step)
theorem ret_arm (ha:EOK Z Y B a pa):SOK Z Y B (.ret a) (.Return (some pa) pos):=λwE sE ρ σ r cv w s hlo t e=>
 b2_is (ev_ret e) λx σ1 e1 e=>some_is (M:=λr=>wpAny _ _ _ (FlR _ _ _ _ _ _ _ _ r) _ _) e (wpAny_Return_some (ha.go t.now e1 λc w1 s1 P1 _ hx=>RetAt.mk c (.mk w1 (t.post.trans P1) hx)))
theorem st_load {Q:Value→Shared→Prop} {i:Nat} {x:Str} {sl:Slot} (K:BlkOK B) (t:ST Z B wE sE ρ σ cv w s) (hi:(i,x) ∈ B.tab) (hs:getS ρ i = some sl) (h1:(x == ("__classdict__":Str)) = false)
 (h2:(x == ("__debug__":Str)) = false) (h:SlotR Z B.lo w s.heap sl (cv i)→Q (cv i) s):wpAny Z.M Y.A (eval (.Name x pos) B.env) Q NoE s:=t.er.elim λm r=>have q:=r.val i x hi sl hs; wpAny_Name (load_at K.env r.ns q.1 h1 (h q.2)) h2
theorem retO_arm {i:Nat} {x:Str} (K:BlkOK B) (hi:(i,x) ∈ B.tab) (h1:(x == ("__classdict__":Str)) = false) (h2:(x == ("__debug__":Str)) = false):SOK Z Y B (.retO i) (.Return (some (.Name x p)) pos):=λwE sE ρ σ r cv w s hlo t e=>
 gO_is (M:=λo=>getS ρ i = o→_) e (λl e hs=>some_is (M:=λr=>wpAny _ _ _ (FlR _ _ _ _ _ _ _ _ r) _ _) e (wpAny_Return_some (st_load K t hi hs h1 h2 λhsl=>RetAt.mk _ (OwnR.casesOn (motive:=λc _=>QV Z wE sE σ (.lst l) c s) hsl λa xs n g r pr hl=>
  have hn:=hlo ▸ hl
  .mk (w.add a (lstO xs n)) (t.post.freeze g hn pr.im pr.ph) ⟨a,xs,n,w.add_self _ _,r.le (w.add_le pr.im)⟩)))) rfl
noncomputable def notComp (e:Expr):Bool:=decide (e.ctorIdx ≠ 8) && (decide (e.ctorIdx ≠ 9) && decide (e.ctorIdx ≠ 10))
theorem swaps_none {pe:Expr} (h:notComp pe = true) (t:Option Expr) (line:Nat) (env:Env):swapsWith pe t line env = pure false:=by
 cases pe with
 | ListComp=>exact ff h
 | SetComp=>exact ff h
 | DictComp=>exact ff h
 | _=>rfl
theorem asg_plain {i:Nat} {x:Str} (K:BlkOK B) (hi:Nm B i x) (hn:swapsWith pa (some (.Name x p)) pos.line B.env = pure false) (ha:EOK Z Y B a pa):SOK Z Y B (.asg i a) (.Assign [.Name x p] pa pos):=λwE sE ρ σ r cv w s hlo t e=>
 b2_is (ev_asg e) λx σ1 e1 e=>some_is (M:=λr=>wpAny _ _ _ (FlR _ _ _ _ _ _ _ _ r) _ _) e (wpAny_Assign_Name (ha.go t.now e1 λc w1 s1 P1 _ hx=>putv_ok (X:=noX) K hlo hi (t.go P1) hx λs2 cv2 t2 st2=>NextAt.mk cv2 w1 t2 (P1.step.trans st2)) hn)
theorem own_plain {i:Nat} {x:Str} (K:BlkOK B) (hi:Nm B i x) (hf:fresh a = true) (hn:swapsWith pa (some (.Name x p)) pos.line B.env = pure false) (ha:EOK Z Y B a pa):SOK Z Y B (.own i a) (.Assign [.Name x p] pa pos):=λwE sE ρ σ r cv w s hlo t e=>
 b2_is (ev_own e) λx σ1 e1 e=>oLst_is (M:=λv=>evE Y.C a ρ σ = some (v,σ1)→_) e (λl e e1=>some_is (M:=λr=>wpAny _ _ _ (FlR _ _ _ _ _ _ _ _ r) _ _) e (wpAny_Assign_Name (wpV (ha ρ σ (.lst l) σ1 w s t.now e1) λc s1 q=>by
  rw [hf] at q
  obtain ⟨w1,ad,o,P1,g,n,pr,_,f⟩:=(q:QF Z w s σ1 (.lst l) c s1)
  obtain ⟨xs,k,r⟩:=(f:LstO _ o)
  exact t.er.elim λm rr=>put_ok (X:=noX) (sl:=.own l) K hlo hi (t.go P1) P1.step ⟨ad,xs,k,g,r,pr,hlo ▸ t.post.gone n⟩ (λl2 hl2 j l' hji ⟨y,hj⟩ hg hc=>(rr.there (.inr (.inr ⟨j,y,l',hj,hg,hc⟩))).1.elim λo e=>no_so n e) (λl2 b _ hb=>Value.ref.inj hb ▸ n) λs2 q=>NextAt.mk _ w1 q.t q.st) hn)) e1
theorem swaps_comp (K:BlkOK B) {elt:Expr} {gens:List Comprehension} {scope:Scope} {cpos p:Pos} {x:Str} {line:Nat} :
 swapsWith (.ListComp elt gens scope cpos) (some (.Name x p)) line B.env = pure ((B.sc.lookup x == some .local && p.line == cpos.line) && !(scope.names.any λ(n,k)=>n == x && (k == .local || k == .cell))):=by
 show (pure _:Sem Bool) = _
 rw [K.env.block,K.env.kindOf]
 rfl
theorem ns_kept {h h':Heap} {a:Addr} {m:Str→Option Value} (n:h.Ns a m) (hk:∀ o,h.get? a = some o→h'.get? a = some o):h'.Ns a m:=let ⟨o,es,ep,ho,r⟩:=n; ⟨o,es,ep,hk o ho,r⟩
theorem next_gone {Cx:Addr} {h':Heap} (t:ST Z B wE sE ρ' σ' cv' w' s') (st:Step B noX ρ cv w s ρ' cv' w' s') (ho:Own s w' Cx) (hE:Own sE w' Cx) (hm:¬ Mut B ρ' cv' Cx) (hs:Heap.SameBut Cx s'.heap h'):NextAt Z B wE sE ρ cv w s ρ' σ' .next { s' with heap:=h' }:=
 have k:=kept_one (s:=s') (t:=s'.toks) hs
 .mk cv' w' (t.touches (t.post.touches (λb hb=>one_mem (M:=Own sE w') hb hE) k) (.refl _) (λb hb=>one_mem (M:=λb=>¬ Mut B ρ' cv' b) hb hm) k) (st.touches (.refl _) (λb hb=>one_mem (M:=λb=>s.heap.get? b = none) hb ho.new) k)
theorem comp_put {i:Nat} {x:Str} {sl:Slot} {D Cx:Addr} {m0:Str→Option Value} (K:BlkOK B) (hlo:B.lo = sE.heap) (hi:Nm B i x) (t0:ST Z B wE sE ρ σ cv w s) (t:ST Z B wE sE ρ σ' cv w1 s1) (st:Step B noX ρ cv w s ρ cv w1 s1) (hsl:SlotR Z B.lo w1 s1.heap sl (.ref D))
 (hD:s.heap.get? D = none) (hC:Own s w1 Cx) (ne:D ≠ Cx) (ns:s1.heap.Ns Cx m0) :
 wpAny Z.M Y.A (assign (.Name x p) B.env (.ref D)) (λ_ s2=>∃ m,s2.heap.Ns Cx m∧∀ h',Heap.SameBut Cx s2.heap h'→FlR Z B wE sE ρ cv w s (.next,ρ.set i (some sl),σ') .next { s2 with heap:=h' }) NoE s1:=
 have hCm:¬ Mut B ρ cv Cx:=t0.noMut hC.new
 wpAny_assign_Name (put_ok (X:=noX) K hlo hi t st hsl (λl2 hl2 j l' hji ⟨y,hj⟩ hg hc=>t0.noMut hD (.inr (.inr ⟨j,y,l',hj,hg,hc⟩))) (λl b _ hb=>Value.ref.inj hb ▸ hD) λs3 q=>
  ⟨m0,ns_kept ns λo' ho'=>q.keep Cx o' ho' (λz=>hCm (.inl z)) (λz q=>hCm (.inr (.inl ⟨z,q⟩))),λh' hs'=>next_gone q.t q.st hC ⟨t0.post.gone hC.new,hC.pr⟩ (λmm=>mm.elim (λz=>hCm (.inl z)) λmm=>mm.elim (λz=>hCm (.inr (.inl z))) λ⟨j,y,l',hj,hg,hc⟩=>
   set_is hg (λh1 _ _=>ne (Value.ref.inj ((if_pos h1).symm.trans hc))) λh1 hg=>hCm (.inr (.inr ⟨j,y,l',hj,hg,(if_neg h1).symm.trans hc⟩))) hs'⟩)
theorem asg_comp {i:Nat} {x:Str} {elt:E} {gs:List G} {pelt:Expr} {gens:List Comprehension} {scope:Scope} {cpos:Pos} {own:Bool} (K:BlkOK B) (hi:Nm B i x)
 (hn:swapsWith (.ListComp pelt gens scope cpos) (some (.Name x p)) pos.line B.env = pure true):CompOK Z Y B elt pelt scope cpos gs gens→SOK Z Y B (cond own (.own i (.comp elt gs)) (.asg i (.comp elt gs))) (.Assign [.Name x p] (.ListComp pelt gens scope cpos) pos)
 | .mk (gs':=gs0) (tg1:=tg0) (i1:=i0) (ifs1:=f0) hk hN hs1 hi1 hS=>λwE sE ρ σ r cv w s hlo t e=>by
  have key:∃ v σ',evE Y.C (.comp elt (.mk tg0 i0 f0 :: gs0)) ρ σ = some (v,σ')∧∀ l,v = .lst l→r = (.next,ρ.set i (some (cond own (.own l) (.v (.lst l)))),σ'):=by
   cases own with
   | true=>exact b2_is (ev_own (a:=.comp elt (.mk tg0 i0 f0 :: gs0)) (i:=i) e) λv σ1 e1 e=>⟨v,σ1,e1,λl hl=>by rw [hl] at e; exact (Option.some.inj e).symm⟩
   | false=>exact b2_is (ev_asg (a:=.comp elt (.mk tg0 i0 f0 :: gs0)) (i:=i) e) λv σ1 e1 e=>⟨v,σ1,e1,λl hl=>by rw [hl] at e; exact (Option.some.inj e).symm⟩
  obtain ⟨v,σ',e1,hr⟩:=key
  rw [exec_Assign_Name_used _ _ _ _ hn]
  refine wpAny_bind (wpAny_standAt (wpAny_bind ?_))
  rw [arm_evalThenUse_ListComp]
  dsimp only
  refine wpAny_bind (wpT (comp_ok (use:=some (assign (.Name x p) B.env)) (Q:=λ_ s'=>FlR Z B wE sE ρ cv w s r .next s') K hk hN hs1 hi1 hS t.now e1 λl D Cx w1 s1 hv o=>?_) λ_ s' q=>wpAny_pure (wpAny_pure q))
  rw [hr l hv]
  obtain ⟨xs,n,g,rr⟩:=o.lst
  obtain ⟨mC,nC⟩:=o.ns
  cases own with
  | true=>exact comp_put K hlo hi t (t.go o.post) o.post.step ⟨D,xs,n,g,rr,o.d.pr,hlo ▸ t.post.gone o.d.new⟩ o.d.new o.c o.ne nC
  | false=>
   have P2:=o.post.freeze g o.d.new o.d.pr.im o.d.pr.ph
   exact comp_put (sl:=.v (.lst l)) K hlo hi t (t.go P2) P2.step ⟨D,xs,n,w1.add_self _ _,rr.le (w1.add_le o.d.pr.im)⟩ o.d.new ⟨o.c.new,(w1.add_ne _ o.ne.symm).trans o.c.pr.im,o.c.pr.ph⟩ o.ne nC
end
section
variable {Z:Zt} {Y:Yt} {B:Blk} {w w' w'' w1 wE wB w0:GW} {s s' s'' s1 s0 sE sB:Shared} {σ σ' σ'' σ0:H} {v:V} {c:Value} {ρ ρ' ρ'':Rho} {cv cv' cvB:Nat→Value} {X:Addr→Prop} {pos p:Pos} {a:E} {pa:Expr}
inductive NsOK (B:Blk):List Nat→List Expr→Prop
 | nil:NsOK B [] []
 | cons {i x p is es}:Nm B i x→NsOK B is es→NsOK B (i :: is) (.Name x p :: es)
theorem NsOK.each {is:List Nat} {es:List Expr} (h:NsOK B is es):(assignEach es B.env).length = is.length∧(assignEach es B.env).findIdx? (·.1) = none:=by
 induction h with
 | nil=>exact ⟨rfl,rfl⟩
 | cons _ _ h=>exact ⟨congrArg (· + 1) h.1,List.findIdx?_cons.trans (congrArg (Option.map (· + 1)) h.2)⟩
@[elab_as_elim] theorem setVs_nil {M:List V→Rho→Prop} {vs:List V} (e:setVs ρ [] vs = some ρ') (c:M [] ρ):M vs ρ':=vs.casesOn (motive:=λvs=>setVs ρ [] vs = some ρ'→M vs ρ') (λe=>some_is e c) (λ_ _=>nn) e
@[elab_as_elim] theorem setVs_cons {M:List V→Prop} {i:Nat} {is:List Nat} {vs:List V} (e:setVs ρ (i :: is) vs = some ρ') (c:∀ v vs,setVs (setV ρ i v) is vs = some ρ'→M (v :: vs)):M vs:=vs.casesOn (motive:=λvs=>setVs ρ (i :: is) vs = some ρ'→M vs) nn c e
theorem setVs_length:∀ {is:List Nat} {vs:List V} {ρ ρ':Rho},setVs ρ is vs = some ρ'→is.length = vs.length
 | [],_,_,_,e=>setVs_nil (M:=λvs _=>[].length = vs.length) e rfl
 | _ :: _,_,_,_,e=>setVs_cons (M:=λvs=>_ = vs.length) e λ_ _ e=>congrArg (· + 1) (setVs_length e)
theorem names_ok (K:BlkOK B) (hlo:B.lo = sE.heap) {is:List Nat} {es:List Expr} (hns:NsOK B is es):∀ (vs:List V) (cs:List Value) (ρ:Rho) (cv:Nat→Value) (s:Shared),setVs ρ is vs = some ρ'→ST Z B wE sE ρ σ cv w s→
 VRs Z w vs cs→∀ {Q:Unit→Shared→Prop},(∀ s' cv',ST Z B wE sE ρ' σ cv' w s'→Step B X ρ cv w s ρ' cv' w s'→Q () s')→wpAny Z.M Y.A (assignInOrder ((assignEach es B.env).map (·.2)) cs) Q NoE s:=by
 induction hns with
 | nil=>exact λvs cs ρ cv s e t hv Q h=>setVs_nil (M:=λvs ρ'=>VRs Z w vs cs→(∀ s' cv',ST Z B wE sE ρ' σ cv' w s'→Step B X ρ cv w s ρ' cv' w s'→Q () s')→_) e (λhv h=>hv.nil_is (M:=λcs=>wpAny Z.M Y.A (assignInOrder [] cs) Q NoE s) (wpAny_pure (h s cv t .refl))) hv h
 | cons n hn ih=>exact λvs cs ρ cv s e t hv Q h=>setVs_cons (M:=λvs=>VRs Z w vs cs→_) e (λv vs e hv=>hv.cons_is (M:=λcs=>wpAny Z.M Y.A (assignInOrder _ cs) Q NoE s) λc r hc hr=>
  wpAny_bind (wpAny_holding (wpAny_assign_Name (putv_ok (X:=X) K hlo n t hc λs1 cv1 t1 st1=>ih vs r _ cv1 s1 e t1 hr λs2 cv2 t2 st2=>h s2 cv2 t2 (st1.trans st2))))) hv
theorem Sim.big {h':Heap} (x:Sim Z w σ s.heap) (hx:Heap.ExtBut s.heap.objs.size s.heap h'):Post Z w s σ w { s with heap:=h' }:=(Post.refl x).grow (extBut_new hx)
noncomputable def notTup (e:Expr):Bool:=decide (e.ctorIdx ≠ 25)
theorem swaps_tup (pe:Expr) (es:List Expr) (k:Nat) (tp:Pos) (line:Nat) (env:Env):swapsWithSole [.Tuple es k tp] pe line env = pure false:=by cases pe <;> rfl
theorem swapped_no {pe:Expr} (h:notTup pe = true) (es:List Expr) (k:Nat) (tp:Pos) (env:Env):swappedStores [.Tuple es k tp] pe env = pure none:=by
 cases pe with
 | Tuple=>exact ff h
 | _=>rfl
theorem ev_un {C:Orc} {N:Nat} {is:List Nat} {o:R3} (e:evS C N (.un is a) ρ σ = o):b2 (evE C a ρ σ) (λx σ=>oTup x λl=>b1 (setVs ρ is l) λρ=>some (.next,ρ,σ)) = o:=e
theorem tup_store {is:List Nat} {es:List Expr} {k:Nat} {tp:Pos} {l:List V} {Q:Unit→Shared→Prop} (hh:Y.A.handled = none) (K:BlkOK B) (hlo:B.lo = sE.heap) (hns:NsOK B is es) (e:setVs ρ is l = some ρ') (t:ST Z B wE sE ρ σ cv w s) (hx:VR Z w (.tup l) c)
 (h:∀ s' cv',ST Z B wE sE ρ' σ cv' w s'→Step B X ρ cv w s ρ' cv' w s'→Q () s'):wpAny Z.M Y.A (assign (.Tuple es k tp) B.env c) Q NoE s:=
 SeqR.casesOn (motive:=λc _=>wpAny Z.M Y.A (assign (.Tuple es k tp) B.env c) Q NoE s) hx λad xs n g r=>
  wpAny_assign_Tuple hh ⟨_,t.post.sim.im _ _ g,rfl,n,rfl⟩ (hns.each.1.trans ((setVs_length e).trans (r.length.symm.trans Array.length_toList))) hns.each.2 λh' hx'=>
   have P':=t.post.sim.big hx'
   names_ok (X:=X) K hlo hns l _ ρ cv _ e (t.go P') r λs2 cv2 t2 st2=>h s2 cv2 t2 (P'.step.trans st2)
theorem un_arm {is:List Nat} {es:List Expr} {k:Nat} {tp:Pos} (hh:Y.A.handled = none) (K:BlkOK B) (hns:NsOK B is es) (hnt:notTup pa = true) (ha:EOK Z Y B a pa):SOK Z Y B (.un is a) (.Assign [.Tuple es k tp] pa pos):=λwE sE ρ σ r cv w s hlo t e=>
 b2_is (ev_un e) λx σ1 e1 e=>oTup_is (M:=λx=>evE Y.C a ρ σ = some (x,σ1)→_) e (λl e e1=>b1_is e λρ1 e2 e=>some_is (M:=λr=>wpAny _ _ _ (FlR _ _ _ _ _ _ _ _ r) _ _) e
  (Assign_Tuple (ha.go t.now e1 λc w1 s1 P1 _ hx=>tup_store (X:=noX) hh K hlo hns e2 (t.go P1) hx λs2 cv2 t2 st2=>NextAt.mk cv2 w1 t2 (P1.step.trans st2)) (swaps_tup _ _ _ _ _ _) (swapped_no hnt _ _ _ _))) e1
structure NewS (Z:Zt) (B:Blk) (s0:Shared) (w:GW) (s:Shared) (sl:Slot) (c:Value):Prop where
 r:SlotR Z B.lo w s.heap sl c
 new:∀ l b,sl = .own l→c = .ref b→s0.heap.get? b = none
theorem SlotR.post {sl:Slot} {lo:Heap} (r:SlotR Z lo w s.heap sl c) (P:Post Z w s σ' w' s'):SlotR Z lo w' s'.heap sl c:=match sl,r with
 | .v y,r=>VR.ext P.ext r
 | .own l,r=>OwnR.casesOn (motive:=λc _=>OwnR Z lo w' s'.heap l c) r λa xs n g rr pr gone=>.mk a xs n (P.keep a _ g pr.ph) (rr.ext P.ext) (pr.ext P.ext g) gone
theorem NewS.post {sl:Slot} (n:NewS Z B s0 w s sl c) (P:Post Z w s σ' w' s'):NewS Z B s0 w' s' sl c:=⟨n.r.post P,n.new⟩
theorem NewS.keep {sl:Slot} (n:NewS Z B s0 w s sl c) (t0:ST Z B wE sE ρ σ0 cv w0 s0) (hk:∀ b o,s.heap.get? b = some o→b ≠ B.env.locals→(∀ z,B.env.cells.lookup z ≠ some b)→s1.heap.get? b = some o):SlotR Z B.lo w s1.heap sl c:=match sl,n with
 | .v y,n=>n.r
 | .own l,n=>OwnR.casesOn (motive:=λc _=>(∀ b,c = .ref b→s0.heap.get? b = none)→OwnR Z B.lo w s1.heap l c) n.r (λa xs n g rr pr gone hn=>have nm:=t0.noMut (hn a rfl); .mk a xs n (hk a _ g (λz=>nm (.inl z)) λz q=>nm (.inr (.inl ⟨z,q⟩))) rr pr gone) λb hb=>n.new l b rfl hb
theorem NewS.apart {sl:Slot} {l l':List V} {j:Nat} (n:NewS Z B s0 w s sl c) (t0:ST Z B wE sE ρ σ0 cv w0 s0) (hl:sl = .own l) (hy:∃ y,(j,y) ∈ B.tab) (hg:getS ρ j = some (.own l')):cv j ≠ c:=λhc=>t0.er.elim λm r=>hy.elim λy hj=>
 OwnR.casesOn (motive:=λc' _=>c' = c→False) (r.val j y hj _ hg).2 (λa xs k g _ _ _ hc=>no_so (n.new l a hl hc.symm) g) hc
noncomputable def Put2 (Z:Zt) (Y:Yt) (B:Blk) (X:Addr→Prop) (wE:GW) (sE:Shared) (ρ:Rho) (cv:Nat→Value) (w0:GW) (s0:Shared) (ρ':Rho) (σ:H) (w:GW) (s:Shared) (x1 x2:Str) (c1 c2:Value):Prop:=∀ Q:Unit→Shared→Prop,(∀ s' cv',ST Z B wE sE ρ' σ cv' w s'→Step B X ρ cv w0 s0 ρ' cv' w s'→Q () s')→
 wpAny Z.M Y.A (storeName B.env x1 c1) (λ_ s1=>wpAny Z.M Y.A (storeName B.env x2 c2) Q NoE s1) NoE s
theorem put2_ok {i1 i2:Nat} {x1 x2:Str} {sl1 sl2:Slot} {c1 c2:Value} (K:BlkOK B) (hlo:B.lo = sE.heap) (m1:Nm B i1 x1) (m2:Nm B i2 x2) (t0:ST Z B wE sE ρ σ0 cv w0 s0) (t:ST Z B wE sE ρ σ cv w s) (base:Step B X ρ cv w0 s0 ρ cv w s)
 (n1:NewS Z B s0 w s sl1 c1) (n2:NewS Z B s0 w s sl2 c2) (hd:∀ l l',sl1 = .own l→sl2 = .own l'→c1 ≠ c2):Put2 Z Y B X wE sE ρ cv w0 s0 ((ρ.set i1 (some sl1)).set i2 (some sl2)) σ w s x1 x2 c1 c2:=λQ h=>
 put_ok K hlo m1 t base n1.r (λl hl j l' _ hy hg=>n1.apart t0 hl hy hg) n1.new λs1 q=>put_ok K hlo m2 q.t q.st (n2.keep t0 q.keep) (λl hl j l' _ hy hg hc=>set_is hg (λh1 _ h2=>hd _ _ h2 hl ((if_pos h1).symm.trans hc)) λh1 hg=>n2.apart t0 hl hy hg ((if_neg h1).symm.trans hc)) n2.new λs2 q2=>h s2 _ q2.t q2.st
inductive SlIs:Bool→V→Slot→Prop
 | v {x}:SlIs false x (.v x)
 | own {l}:SlIs true (.lst l) (.own l)
theorem setTo_is {i:Nat} {o:Bool} {x:V} {G:Prop} (e:setTo ρ i o x = some ρ') (c:∀ sl,SlIs o x sl→ρ' = ρ.set i (some sl)→G):G:=match o,e with
 | false,e=>c _ .v (Option.some.inj e).symm
 | true,e=>oLst_is (M:=λx=>(∀ sl,SlIs true x sl→ρ' = ρ.set i (some sl)→G)→G) e (λl e c=>c _ .own (Option.some.inj e).symm) c
inductive SlN (Z:Zt) (B:Blk) (w:GW) (s:Shared) (σ':H) (sl:Slot) (c:Value) (s':Shared):Prop
 | mk (w':GW):Post Z w s σ' w' s'→NewS Z B s w' s' sl c→SlN Z B w s σ' sl c s'
theorem slot_eval {o:Bool} {x:V} {sl:Slot} (hlo:B.lo = sE.heap) (hf:o = true→fresh a = true) (ha:EOK Z Y B a pa) (t:ST Z B wE sE ρ σ cv w s) (e:evE Y.C a ρ σ = some (x,σ')) (h:SlIs o x sl):wpAny Z.M Y.A (eval pa B.env) (SlN Z B w s σ' sl) NoE s:=match h,hf,e with
 | .v,hf,e=>ha.go t.now e λc w1 s1 P1 _ hx=>.mk w1 P1 ⟨hx,λl b e=>nomatch e⟩
 | .own,hf,e=>wpV (ha ρ σ _ σ' w s t.now e) λc s1 q=>by
  rw [hf rfl] at q
  exact QF.casesOn (motive:=λc s1 _=>SlN Z B w s σ' (.own _) c s1) q λw1 ad o P1 g n pr _ f=>LstO.casesOn (motive:=λo _=>_ = some o→_) f (λxs k r g=>SlN.mk w1 P1 ⟨.mk ad xs k g r pr (hlo ▸ t.post.gone n),λl b _ hb=>Value.ref.inj hb ▸ n⟩) g
theorem fm2 {f:Expr→Option Str} {a b:Expr} {x y:Str} (ha:f a = none∨f a = some x) (hb:f b = none∨f b = some y) (h:¬ ((List.filterMap f [a,b]).length != 2) = true):List.filterMap f [a,b] = [x,y]:=by
 unfold List.filterMap List.filterMap List.filterMap at h ⊢
 rcases ha with ha | ha <;> rcases hb with hb | hb <;> rw [ha,hb] at h ⊢ <;> first | rfl | exact absurd rfl h
theorem swapped_or {x y:Str} {p1 p2 tp tp2:Pos} {k k2:Nat} {pa pb:Expr} (hf:[pa,pb].all (foldedForSure 8) = true∨[pa,pb].all (constantsAlone 8) = false) :
 swappedStores [.Tuple [.Name x p1,.Name y p2] k tp] (.Tuple [pa,pb] k2 tp2) B.env = pure none∨swappedStores [.Tuple [.Name x p1,.Name y p2] k tp] (.Tuple [pa,pb] k2 tp2) B.env = pure (some [x,y]):=by
 unfold swappedStores
 refine iteInduction (motive:=λm=>m = pure none∨m = pure (some [x,y])) (λ_=>.inl rfl) λ_=>iteInduction (motive:=λm=>m = pure none∨m = pure (some [x,y])) (λ_=>.inl rfl) λ_=>iteInduction (motive:=λm=>m = pure none∨m = pure (some [x,y])) (λ_=>.inl rfl) λh3=>iteInduction (motive:=λm=>m = pure none∨m = pure (some [x,y])) (λ_=>.inl rfl) λh4=>iteInduction (motive:=λm=>m = pure none∨m = pure (some [x,y])) (λh5=>?_) λ_=>?_
 · exact hf.elim (λq=>absurd q h4) λq=>ff (q.symm.trans h5)
 · refine .inr (congrArg (λl=>pure (some l)) (fm2 ?_ ?_ λq=>h3 ((Bool.or_eq_true _ _).mpr (.inl q))))
   · exact iteInduction (motive:=λm=>m = none∨m = some x) (λ_=>.inr rfl) λ_=>.inl rfl
   · exact iteInduction (motive:=λm=>m = none∨m = some y) (λ_=>.inr rfl) λ_=>.inl rfl
theorem ev_un2 {C:Orc} {N i j:Nat} {oi oj:Bool} {b:E} {o:R3} (e:evS C N (.un2 i j oi oj a b) ρ σ = o):b2 (evE C a ρ σ) (λx σ=>b2 (evE C b ρ σ) λy σ=>b1 (setTo ρ i oi x) λρ=>b1 (setTo ρ j oj y) λρ=>some (.next,ρ,σ)) = o:=e
inductive Two (Z:Zt) (B:Blk) (w:GW) (s:Shared) (σ':H) (sl1 sl2:Slot):Value→Shared→Prop
 | mk {s':Shared} (c1 c2:Value) (w2:GW) (a:Addr):Post Z w s σ' w2 s'→NewS Z B s w2 s' sl1 c1→NewS Z B s w2 s' sl2 c2→(∀ l l',sl1 = .own l→sl2 = .own l'→c1 ≠ c2)→s'.heap.IsTuple a #[c1,c2]→Two Z B w s σ' sl1 sl2 (.ref a) s'
theorem two_eval {oi oj:Bool} {b:E} {pb:Expr} {x y:V} {sl1 sl2:Slot} {k2:Nat} {tp2:Pos} (hlo:B.lo = sE.heap) (hpa:plainPE pa = true) (hpb:plainPE pb = true) (hoi:oi = true→fresh a = true) (hoj:oj = true→fresh b = true) (ha:EOK Z Y B a pa) (hb:EOK Z Y B b pb)
 (t:ST Z B wE sE ρ σ cv w s) (e1:evE Y.C a ρ σ = some (x,σ')) (e2:evE Y.C b ρ σ' = some (y,σ'')) (h1:SlIs oi x sl1) (h2:SlIs oj y sl2):wpAny Z.M Y.A (eval (.Tuple [pa,pb] k2 tp2) B.env) (Two Z B w s σ'' sl1 sl2) NoE s:=by
 refine wpAny_Tuple_spliced ?_
 rw [star_plain hpa,star_plain hpb]
 refine PySem.Calls.spliced_cons (wpT (slot_eval hlo hoi ha t e1 h1) λc1 s1 q1=>q1.casesOn λw1 P1 n1=>PySem.Calls.spliced_cons (wpT (slot_eval hlo hoj hb (t.go P1) e2 h2) λc2 s2 q2=>q2.casesOn λw2 P2 n2=>PySem.Calls.spliced_nil ⟨by rw [sizeLine_is]; exact (by omega:2 ≤ 16777216),?_⟩))
 have P3:Post Z w2 s2 σ'' w2 { s2 with heap:=s2.heap.push { cls:=.type "tuple",data:=.seq [c1,c2].toArray } }:=(Post.refl P2.sim).pushed (t:=s2.toks)
 exact Two.mk c1 c2 w2 s2.heap.objs.size ((P1.trans P2).trans P3) ((n1.post P2).post P3) ⟨n2.r.post P3,λl b q1 q2=>P1.gone (n2.new l b q1 q2)⟩ (λl l' q1 q2 hc=>by
  subst q1
  exact OwnR.casesOn (motive:=λc _=>c1 = c→False) n1.r (λa1 xs n g _ _ _ hc1=>no_so (n2.new l' a1 q2 (hc ▸ hc1)) g) rfl) ⟨_,Heap.get?_push_size _ rfl,rfl,0,rfl⟩
theorem un2_arm {i j:Nat} {x y:Str} {oi oj:Bool} {b:E} {pb:Expr} {p1 p2 tp tp2:Pos} {k k2:Nat} (hh:Y.A.handled = none) (K:BlkOK B) (hi:Nm B i x) (hj:Nm B j y) (hne:i ≠ j) (hpa:plainPE pa = true) (hpb:plainPE pb = true)
 (hf:[pa,pb].all (foldedForSure 8) = true∨[pa,pb].all (constantsAlone 8) = false) (hoi:oi = true→fresh a = true) (hoj:oj = true→fresh b = true) (ha:EOK Z Y B a pa) (hb:EOK Z Y B b pb) :
 SOK Z Y B (.un2 i j oi oj a b) (.Assign [.Tuple [.Name x p1,.Name y p2] k tp] (.Tuple [pa,pb] k2 tp2) pos):=λwE sE ρ σ r cv w s hlo t e=>
 b2_is (ev_un2 e) λxv σ1 e1 e=>b2_is e λyv σ2 e2 e=>b1_is e λρ1 e3 e=>b1_is e λρ2 e4 e=>setTo_is e3 λsl1 h1 q1=>setTo_is e4 λsl2 h2 q2=>some_is (M:=λr=>wpAny _ _ _ (FlR _ _ _ _ _ _ _ _ r) _ _) e (by
  subst q2 q1
  have hv:=two_eval (k2:=k2) (tp2:=tp2) hlo hpa hpb hoi hoj ha hb t e1 e2 h1 h2
  refine (swapped_or (B:=B) (x:=x) (y:=y) (p1:=p1) (p2:=p2) (tp:=tp) (tp2:=tp2) (k:=k) (k2:=k2) hf).elim (λhw=>Assign_Tuple (wpT hv λv s4 q=>?_) (swaps_tup _ _ _ _ _ _) hw) λhw=>Assign_Tuple_swapped (wpT hv λv s4 q=>?_) (swaps_tup _ _ _ _ _ _) hw
  · refine Two.casesOn (motive:=λv s4 _=>wpAny Z.M Y.A (assign _ B.env v) _ NoE s4) q λc1 c2 w2 ad P4 n1 n2 hd IT=>wpAny_assign_Tuple (items:=#[c1,c2]) hh IT rfl rfl λh' hx'=>?_
    have P5:=P4.sim.big hx'
    exact wpAny_bind (wpAny_holding (wpAny_assign_Name (wpT (put2_ok (X:=noX) K hlo hi hj t (t.go (P4.trans P5)) (P4.trans P5).step (n1.post P5) (n2.post P5) hd _ λs' cv' t' st'=>NextAt.mk cv' w2 t' st') λ_ s5 h5=>wpAny_bind (wpAny_holding (wpAny_assign_Name (wpT h5 λ_ s6 h6=>wpAny_pure h6))))))
  · refine Two.casesOn (motive:=λv s4 _=>wpAny Z.M Y.A (unpackItems v 2 none) _ NoE s4) q λc1 c2 w2 ad P4 n1 n2 hd IT=>wpAny_unpackItems_tuple (items:=#[c1,c2]) hh IT λh' hx'=>?_
    have P5:=P4.sim.big hx'
    rw [List.set_comm _ _ hne]
    exact wpAny_bind (wpAny_holding (bindName_ (wpT (put2_ok (X:=noX) K hlo hj hi t (t.go (P4.trans P5)) (P4.trans P5).step (n2.post P5) (n1.post P5) (λl l' q1 q2=>(hd l' l q2 q1).symm) _ λs' cv' t' st'=>NextAt.mk cv' w2 t' st') λ_ s5 h5=>wpAny_bind (wpAny_holding (bindName_ (wpT h5 λ_ s6 h6=>wpAny_pure h6)))))))
end
section
variable {Z:Zt} {Y:Yt} {B:Blk} {w w' w'' w1 wE wB w0:GW} {s s' s'' s1 s0 sE sB:Shared} {σ σ' σ'' σ0:H} {v:V} {c:Value} {ρ ρ' ρ'':Rho} {cv cv' cvB:Nat→Value} {X:Addr→Prop} {pos p np apos cpos spos:Pos} {a:E} {pa:Expr} {i j:Nat} {x y:Str} {l:List V} {put:List V→Rho×H}
theorem listAt_is {M:List V→(List V→Rho×H)→Prop} (e:listAt ρ σ i = some (l,put)) (own:∀ l,getS ρ i = some (.own l)→M l λl'=>(setO ρ i l',σ)) (sh:∀ r l,getS ρ i = some (.v (.ref r))→M l λl'=>(ρ,σ.set r (.list l'))):M l put:=by
 unfold listAt at e
 cases hs:getS ρ i with
 | none=>rw [hs] at e; exact nn e
 | some sl=>
  rw [hs] at e
  cases sl with
  | own l0=>exact pr_is e (own l0 hs)
  | v y=>exact oRef_is (M:=λy=>getS ρ i = some (.v y)→_) e (λj e hs=>olist_is e λl0 ho e=>pr_is e (sh j l0 hs)) hs
theorem listAt_get (e:listAt ρ σ i = some (l,put)):∃ sl,getS ρ i = some sl:=listAt_is (M:=λ_ _=>∃ sl,getS ρ i = some sl) e (λ_ h=>⟨_,h⟩) λ_ _ h=>⟨_,h⟩
inductive ListSt (Z:Zt) (B:Blk) (X:Addr→Prop) (wE:GW) (sE:Shared) (ρ:Rho) (cv:Nat→Value) (w:GW) (s:Shared) (l:List V) (put:List V→Rho×H):Value→Prop
 | mk (a:Addr) (xs:Array Value) (n:Nat):s.heap.get? a = some (lstO xs n)→VRs Z w l xs.toList→(∀ l' xs' n' h' tk,VRs Z w l' (Array.toList xs')→Heap.SameBut a s.heap h'→h'.get? a = some (lstO xs' n')→
       ST Z B wE sE (put l').1 (put l').2 cv w { s with heap:=h',toks:=tk }∧Step B X ρ cv w s (put l').1 cv w { s with heap:=h',toks:=tk })→ListSt Z B X wE sE ρ cv w s l put (.ref a)
theorem listAt_st (hlo:B.lo = sE.heap) (t:ST Z B wE sE ρ σ cv w s) (hi:(i,x) ∈ B.tab) (e:listAt ρ σ i = some (l,put)):ListSt Z B X wE sE ρ cv w s l put (cv i):=t.er.elim λm r=>
 have ⟨f1,f2⟩:=listAt_is (M:=λl put=>(∀ a,cv i = .ref a→a ∈ w.ph∨Mut B ρ cv a)∧∀ l' b,Mut B (put l').1 cv b→Mut B ρ cv b) e
  (λl hs=>⟨λa hc=>.inr (.inr (.inr ⟨i,x,l,hi,hs,hc⟩)),λl' b mm=>mm.elim .inl λmm=>mm.elim (λq=>.inr (.inl q)) λ⟨j,y,l2,hj,hg,hc⟩=>set_is hg (λh1 _ _=>.inr (.inr ⟨i,x,l,hi,hs,h1 ▸ hc⟩)) λ_ hg=>.inr (.inr ⟨j,y,l2,hj,hg,hc⟩)⟩)
  fun k l hs=>⟨λa hc=>RefR.casesOn (motive:=λc _=>c = .ref a→_) (r.val i x hi _ hs).2 (λb ph hc=>.inl (Value.ref.inj hc ▸ List.mem_of_getElem? ph)) hc,λ_ _ mm=>mm⟩
 ListAt.casesOn (motive:=λc _=>(∀ a,c = .ref a→a ∈ w.ph∨Mut B ρ cv a)→ListSt Z B X wE sE ρ cv w s l put c) (listAt_ok hlo t.post r hi e) (λa xs n g rr hput f1=>.mk a xs n g rr λl' xs' n' h' tk r' hs g'=>
  have ⟨P',r2⟩:=hput l' xs' n' h' tk r' hs g'
  ⟨⟨P',m,r2⟩,⟨λb o e1 n1 n2 _=>⟨(hs.2 b λq=>(f1 a rfl).elim (λz=>n1 (q ▸ z)) λz=>n2 (q ▸ z)).trans e1,n1,id,λmm=>n2 (f2 l' b mm)⟩,.refl⟩⟩) f1
theorem not_interactive (K:BlkOK B):interactive B.env = false:=by unfold interactive; rw [K.env.kind]; rfl
theorem swaps_drop {pe:Expr} (h:notComp pe = true) (line:Nat) (env:Env):swapsWith pe none line env = pure false:=by
 cases pe with
 | ListComp=>exact ff h
 | SetComp=>exact ff h
 | DictComp=>exact ff h
 | _=>rfl
theorem getMethod_lst {a:Addr} {xs:Array Value} {n:Nat} {name:Str} {id:String} {pl:Sem Bool} {Q:Value×List Value→Shared→Prop} (slot:PySem.Slot "list" name id)
 (hty:typeOf (.builtin id) = pure (.type "method_descriptor")) (g:s.heap.get? a = some (lstO xs n)) (h:Q (.builtin id,[.ref a]) s):wpAny Z.M Y.A (getMethod (.ref a) name pl) Q NoE s:=
 getMethod_builtin ⟨_,g,rfl⟩ PySem.F.plainAttrs_list slot hty (λb e=>⟨_,Value.ref.inj e ▸ g,rfl⟩) h
theorem list_call {name:Str} {id:String} {pes:List Expr} {Q:Value→Shared→Prop} (K:BlkOK B) (hlo:B.lo = sE.heap) (t:ST Z B wE sE ρ σ cv w s) (hi:(i,x) ∈ B.tab) (h1:(x == ("__classdict__":Str)) = false) (h2:(x == ("__debug__":Str)) = false)
 (hpos:(apos.endLine == pos.line) = true) (hp:plainPEs pes = true) (hl:pes.length < 30) (e:(listAt ρ σ i).isSome = true) (slot:PySem.Slot "list" name id) (hty:typeOf (.builtin id) = pure (.type "method_descriptor"))
 (h:wpAny Z.M Y.A (spliced (backTo pos (starEach pes B.env))) (λvs s1=>wpAny Z.M Y.A (call (.builtin id) (cv i :: vs)) Q NoE s1) NoE s):wpAny Z.M Y.A (eval (.Call (.Attribute (.Name x np) name apos) pes [] pos) B.env) Q NoE s:=
 (Option.isSome_iff_exists.mp e).elim λp e=>(listAt_get e).elim λsl hs=>methCall (λ_ _=>rfl) hp hl hpos (st_load K t hi hs h1 h2 λ_ pl=>
  ListSt.casesOn (motive:=λc _=>wpAny Z.M Y.A (spliced (backTo pos (starEach pes B.env))) (λvs s1=>wpAny Z.M Y.A (call (.builtin id) (c :: vs)) Q NoE s1) NoE s→wpAny Z.M Y.A (getMethod c name pl) _ NoE s) (listAt_st (X:=noX) hlo t hi e)
   (λa xs n g _ _ h=>getMethod_lst slot hty g (callArgs (P:=λ_=>True) hp (keeps_B nofun) (wpT h λ_ _ q=>⟨trivial,q⟩))) h)
theorem add_is {o:Option (List V×(List V→Rho×H))} {ys:List V} {r:Fl×Rho×H} {M:Fl×Rho×H→Prop} (e:addS o ys = some r) (m:∀ l put,o = some (l,put)→shortL l = true→shortL ys = true→M (.next,(put (l ++ ys)).1,(put (l ++ ys)).2)):M r:=
 b1_is e λp e1 e=>gd_is e λh e=>an2 h λh1 h2=>some_is e (m p.1 p.2 e1 h1 h2)
theorem ev_app {C:Orc} {N:Nat} {o:R3} (e:evS C N (.app i a) ρ σ = o):gd (listAt ρ σ i).isSome (b2 (evE C a ρ σ) λx σ=>addS (listAt ρ σ i) [x]) = o:=e
theorem ev_ext {C:Orc} {N:Nat} {o:R3} (e:evS C N (.ext i a) ρ σ = o):gd (listAt ρ σ i).isSome (b2 (evE C a ρ σ) λx σ=>oLst x λys=>addS (listAt ρ σ i) ys) = o:=e
theorem app_arm (K:BlkOK B) (hi:(i,x) ∈ B.tab) (h1:(x == ("__classdict__":Str)) = false) (h2:(x == ("__debug__":Str)) = false) (hp:plainPE pa = true) (hpos:(apos.endLine == pos.line) = true) (ha:EOK Z Y B a pa) :
 SOK Z Y B (.app i a) (.Expr (.Call (.Attribute (.Name x np) "append" apos) [pa] [] pos) spos):=λwE sE ρ σ r cv w s hlo t e=>
 gd_is (ev_app e) λh0 e=>b2_is e λy σ1 e1 e=>add_is (M:=λr=>wpAny _ _ _ (FlR _ _ _ _ _ _ _ _ r) _ _) e λl put e2 hsh _=>
  wpAny_Expr (list_call K hlo t hi h1 h2 hpos (plain1 hp) (show 1 < 30 by omega) h0 PySem.F.slot_list_append PySem.F.type_list_append (by
   rw [star_plain hp]
   exact PySem.Calls.spliced_cons (ha.go t.now e1 λc w1 s1 P1 _ hx=>PySem.Calls.spliced_nil (ListSt.casesOn (motive:=λc' _=>wpAny Z.M Y.A (call (.builtin "list.append") [c',c]) _ NoE s1) (listAt_st (X:=noX) hlo (t.go P1) hi e2) λa1 xs n g rr hput=>
    append_at (hsz:=le_line (Nat.le_trans (tup_short rr hsh) (by decide))) g λh' hsb g'=>have q:=hput (l ++ [y]) (xs.push c) (n + 1) h' s1.toks (by rw [Array.toList_push]; exact rr.append (.cons hx .nil)) hsb g'
     NextAt.mk cv w1 q.1 (P1.step.trans q.2))))) (not_interactive K) (swaps_drop rfl _ _)
theorem ext_arm (K:BlkOK B) (hi:(i,x) ∈ B.tab) (h1:(x == ("__classdict__":Str)) = false) (h2:(x == ("__debug__":Str)) = false) (hp:plainPE pa = true) (hpos:(apos.endLine == pos.line) = true) (ha:EOK Z Y B a pa) :
 SOK Z Y B (.ext i a) (.Expr (.Call (.Attribute (.Name x np) "extend" apos) [pa] [] pos) spos):=λwE sE ρ σ r cv w s hlo t e=>
 gd_is (ev_ext e) λh0 e=>b2_is e λy σ1 e1 e=>oLst_is (M:=λy=>evE Y.C a ρ σ = some (y,σ1)→_) e (λys e e1=>add_is (M:=λr=>wpAny _ _ _ (FlR _ _ _ _ _ _ _ _ r) _ _) e λl put e2 hsh hsh2=>
  wpAny_Expr (list_call K hlo t hi h1 h2 hpos (plain1 hp) (show 1 < 30 by omega) h0 PySem.F.slot_list_extend PySem.F.type_list_extend (by
   rw [star_plain hp]
   exact PySem.Calls.spliced_cons (ha.go t.now e1 λc w1 s1 P1 _ hx=>PySem.Calls.spliced_nil (SeqR.casesOn (motive:=λc _=>wpAny Z.M Y.A (call (.builtin "list.extend") [_,c]) _ NoE s1) hx λb zs k gb rz=>
    ListSt.casesOn (motive:=λc' _=>wpAny Z.M Y.A (call (.builtin "list.extend") [c',.ref b]) _ NoE s1) (listAt_st (X:=noX) hlo (t.go P1) hi e2) λa1 xs n g rr hput=>
     have z1:=tup_short rr hsh
     have z2:=tup_short rz hsh2
     call_meets PySem.F.slot_list_extend ⟨_,g,rfl⟩ PySem.F.entry_list_extend (PySem.F.args_list_extend_2 _ _) (PySem.AutoSeq1.list_extend_list_list_0 a1 xs n b zs k (by simp [Builtin.List.listTooLong,sizeLine]; intro _; omega) (le_line (n:=xs.size) (by omega)) (Nat.le_succ_of_le (le_line (n:=xs.size + zs.size) (by omega))))
      ⟨g,P1.sim.im _ _ gb,(upd_list g (λx=>x ++ zs)).elim λn' u=>have q:=hput (l ++ ys) (xs ++ zs) n' _ s1.toks (by rw [Array.toList_append]; exact rr.append rz) u.2 u.1
       NextAt.mk cv w1 q.1 (P1.step.trans q.2)⟩)))) (not_interactive K) (swaps_drop rfl _ _)) e1
theorem VRs.last {l:List V} {cs:List Value} (r:VRs Z w l cs) (v:V) (e:l.getLast? = some v):∃ c,cs.getLast? = some c∧VR Z w v c:=by
 rw [List.getLast?_eq_getElem?] at e ⊢
 rw [r.length]
 exact r.get e
theorem VRs.dropLast {l:List V} {cs:List Value} (r:VRs Z w l cs):VRs Z w l.dropLast cs.dropLast:=by
 rw [List.dropLast_eq_take,List.dropLast_eq_take,r.length]
 exact r.take _
inductive Popped (Z:Zt) (B:Blk) (X:Addr→Prop) (wE:GW) (sE:Shared) (ρ:Rho) (cv:Nat→Value) (w:GW) (s:Shared) (v:V) (p:Rho×H) (c:Value) (s':Shared):Prop
 | mk:VR Z w v c→ST Z B wE sE p.1 p.2 cv w s'→Step B X ρ cv w s p.1 cv w s'→Popped Z B X wE sE ρ cv w s v p c s'
theorem pop_call (hlo:B.lo = sE.heap) (K:BlkOK B) (hi:(i,x) ∈ B.tab) (h1:(x == ("__classdict__":Str)) = false) (h2:(x == ("__debug__":Str)) = false) (hpos:(apos.endLine == pos.line) = true) (t:ST Z B wE sE ρ σ cv w s)
 (e:listAt ρ σ i = some (l,put)) (hl:shortL l = true) (hv:l.getLast? = some v):wpAny Z.M Y.A (eval (.Call (.Attribute (.Name x np) "pop" apos) [] [] pos) B.env) (Popped Z B X wE sE ρ cv w s v (put l.dropLast)) NoE s:=
 list_call K hlo t hi h1 h2 hpos rfl (show 0 < 30 by omega) (e ▸ rfl) PySem.F.slot_list_pop PySem.F.type_list_pop (PySem.Calls.spliced_nil (ListSt.casesOn (motive:=λc' _=>wpAny Z.M Y.A (call (.builtin "list.pop") [c']) _ NoE s) (listAt_st (X:=X) hlo t hi e) λa1 xs n g rr hput=>
  (rr.last v hv).elim λc hc=>Copied.pop_at (hsz:=le_line (Nat.le_trans (tup_short rr hl) (by decide))) g (y:=c) (by rw [← hc.1,List.getLast?_eq_getElem?,Array.getElem?_toList,Array.length_toList]) λh' hsb g'=>have q:=hput l.dropLast xs.pop (n + 1) h' s.toks (by rw [Array.toList_pop]; exact rr.dropLast) hsb g'
   .mk hc.2 q.1 q.2))
theorem ev_pop {C:Orc} {N:Nat} {is:List Nat} {one:Bool} {o:R3} (e:evS C N (.pop is one i) ρ σ = o):b1 (listAt ρ σ i) (λp=>popS is one p.1 p.2) = o:=e
theorem pop_is {is:List Nat} {one:Bool} {r:Fl×Rho×H} {G:Prop} (e:popS is one l put = some r) (k:∀ z,shortL l = true→l.getLast? = some z→
 Bool.casesOn (motive:=λ_=>R3) one (b1 (b1 (oTup z some) λvs=>setVs (put l.dropLast).1 is vs) λρ=>some (.next,ρ,(put l.dropLast).2)) (o1 is λi=>some (.next,setV (put l.dropLast).1 i z,(put l.dropLast).2)) = some r→G):G:=
 match l,e,k with
 | [],e,_=>nn e
 | x :: l,e,k=>gd_is e λh e=>b1_is e λz hz e=>k z h hz e
theorem pop1_arm (K:BlkOK B) (hi:(i,x) ∈ B.tab) (h1:(x == ("__classdict__":Str)) = false) (h2:(x == ("__debug__":Str)) = false) (hpos:(apos.endLine == cpos.line) = true) (hj:Nm B j y) :
 SOK Z Y B (.pop [j] true i) (.Assign [.Name y p] (.Call (.Attribute (.Name x np) "pop" apos) [] [] cpos) pos):=λwE sE ρ σ r cv w s hlo t e=>
 b1_is (ev_pop e) λq e1 e=>pop_is e λz hsh hv e=>some_is (M:=λr=>wpAny _ _ _ (FlR _ _ _ _ _ _ _ _ r) _ _) e
  (wpAny_Assign_Name (wpV (pop_call (X:=noX) hlo K hi h1 h2 hpos t e1 hsh hv) λc s1 o=>o.casesOn λhc t1 st1=>putv_ok (X:=noX) K hlo hj t1 hc λs2 cv2 t2 st2=>NextAt.mk cv2 w t2 (st1.trans st2)) (swaps_none rfl _ _ _))
theorem popN_arm {is:List Nat} {es:List Expr} {k:Nat} {tp:Pos} (hh:Y.A.handled = none) (K:BlkOK B) (hi:(i,x) ∈ B.tab) (h1:(x == ("__classdict__":Str)) = false) (h2:(x == ("__debug__":Str)) = false) (hpos:(apos.endLine == cpos.line) = true) (hns:NsOK B is es) :
 SOK Z Y B (.pop is false i) (.Assign [.Tuple es k tp] (.Call (.Attribute (.Name x np) "pop" apos) [] [] cpos) pos):=λwE sE ρ σ r cv w s hlo t e=>
 b1_is (ev_pop e) λq e1 e=>pop_is e λz hsh hv e=>b1_is e λρ2 e2 e=>b1_is e2 λvs e3 e2=>oTup_is (M:=λz=>q.1.getLast? = some z→_) e3 (λvs' e3 hv=>some_is (M:=λr=>wpAny _ _ _ (FlR _ _ _ _ _ _ _ _ r) _ _) e
  (Assign_Tuple (wpV (pop_call (X:=noX) hlo K hi h1 h2 hpos t e1 hsh hv) λc s1 o=>o.casesOn λhc t1 st1=>tup_store (X:=noX) hh K hlo hns (Option.some.inj e3 ▸ e2) t1 hc λs2 cv2 t2 st2=>NextAt.mk cv2 w t2 (st1.trans st2)) (swaps_tup _ _ _ _ _ _) (swapped_no rfl _ _ _ _))) hv
end
section
variable {Z:Zt} {Y:Yt} {B:Blk} {w w' w'' w1 wE wB w0:GW} {s s' s'' s1 s0 sE sB:Shared} {σ σ' σ'' σ0:H} {v:V} {c:Value} {ρ ρ' ρ'':Rho} {cv cv' cvB:Nat→Value} {X:Addr→Prop} {pos p np apos cpos spos:Pos} {a:E} {pa:Expr} {i j:Nat} {x y:Str} {l:List V}
theorem stored_not {r:List (Str×Value)} {x:Str} (h:x ∉ r.map (·.1)) (c:Value):r.map (λkv=>if kv.1 = x then (kv.1,c) else kv) = r∧r.any (λkv=>kv.1 = x) = false:=by
 induction r with
 | nil=>exact ⟨rfl,rfl⟩
 | cons p r ih=>
  have h3:¬ p.1 = x:=λq=>h (q ▸ List.mem_cons_self)
  have ⟨h1,h2⟩:=ih λq=>h (List.mem_cons_of_mem _ q)
  exact ⟨by rw [List.map_cons,if_neg h3,h1],by rw [List.any_cons,h2,decide_eq_false h3]; rfl⟩
theorem stored_cons {k x:Str} {v c:Value} {r:List (Str×Value)} (hn:(((k,v) :: r).map (·.1)).Nodup):PySem.stored ((k,v) :: r) x c = if k = x then (k,c) :: r else (k,v) :: PySem.stored r x c:=by
 unfold PySem.stored
 by_cases hk:k = x
 · rw [if_pos hk,List.any_cons,decide_eq_true hk,if_pos (Bool.true_or _),List.map_cons,if_pos hk,(stored_not (x:=x) (hk ▸ (List.nodup_cons.mp hn).1) c).1]
 · rw [if_neg hk,List.any_cons,decide_eq_false hk,Bool.false_or,List.map_cons,if_neg hk]
   cases r.any λkv=>decide (kv.1 = x) <;> rfl
theorem stored_put:∀ {kvs:List (Str×Value)} {vs:List V} {x:Str} {y:V} {c:Value},(kvs.map (·.1)).Nodup→VRs Z w vs (kvs.map (·.2))→VR Z w y c→
 (PySem.stored kvs x c).map (·.1) = (putAt (kvs.map (·.1)) vs x y).1∧VRs Z w (putAt (kvs.map (·.1)) vs x y).2 ((PySem.stored kvs x c).map (·.2))
 | [],vs,x,y,c,hn,hv,hc=>⟨rfl,.cons hc .nil⟩
 | (k,v) :: r,[],x,y,c,hn,hv,hc=>hv.nil_is (M:=λl=>l = v :: r.map (·.2)→_) nofun rfl
 | (k,v) :: r,u :: vs,x,y,c,hn,hv,hc=>by
  rw [stored_cons hn]
  have hn':=(List.nodup_cons.mp hn).2
  have h1:VR Z w u v:=hv.cons_is (M:=λl=>l = v :: r.map (·.2)→_) (λc r h _ e=>(List.cons.inj e).1 ▸ h) rfl
  have h2:VRs Z w vs (r.map (·.2)):=hv.cons_is (M:=λl=>l = v :: r.map (·.2)→_) (λc r _ h e=>(List.cons.inj e).2 ▸ h) rfl
  show _ = (ite (x = k) _ _:List Str×List V).1∧VRs Z w (ite (x = k) _ _:List Str×List V).2 _
  by_cases hk:k = x
  · rw [if_pos hk,if_pos hk.symm]; exact ⟨rfl,.cons hc h2⟩
  · rw [if_neg hk,if_neg λq=>hk q.symm]
    exact ⟨congrArg (k :: ·) (stored_put hn' h2 hc).1,.cons h1 (stored_put hn' h2 hc).2⟩
theorem putAt_set:∀ {ks:List Str} {vs:List V} {k:Nat} {x:Str} {y:V},ks.Nodup→ks[k]? = some x→k < vs.length→putAt ks vs x y = (ks,vs.set k y)
 | [],_,_,_,_,_,e,_=>nn e
 | _ :: _,[],_,_,_,_,_,h=>absurd h (Nat.not_lt_zero _)
 | a :: ks,u :: vs,0,x,y,hn,e,h=>if_pos (Option.some.inj e).symm
 | a :: ks,u :: vs,k + 1,x,y,hn,e,h=>by
  rw [List.nodup_cons] at hn
  refine (if_neg λq:x = a=>hn.1 (q ▸ List.mem_of_getElem? (show ks[k]? = some x from e))).trans ?_
  rw [putAt_set hn.2 e (Nat.lt_of_succ_lt_succ h)]
  rfl
theorem dict_nodup {o:Obj} {kvs:List (Str×Value)} (D:Obj.IsDictOf Z.knd o kvs):(kvs.map (·.1)).Nodup:=dict_is (M:=λ_=>(kvs.map (·.1)).Nodup) D λ_ _ d=>d.nodup
theorem swaps_attr {pe:Expr} (h:notComp pe = true) (o:Expr) (x:Str) (line:Nat) (env:Env):swapsWith pe (some (.Attribute o x p)) line env = pure false:=by
 cases pe with
 | ListComp=>exact ff h
 | SetComp=>exact ff h
 | DictComp=>exact ff h
 | _=>rfl
theorem swaps_sub {pe:Expr} (h:notComp pe = true) (o i:Expr) (line:Nat) (env:Env):swapsWith pe (some (.Subscript o i p)) line env = pure false:=by
 cases pe with
 | ListComp=>exact ff h
 | SetComp=>exact ff h
 | DictComp=>exact ff h
 | _=>rfl
theorem ev_seta {C:Orc} {N cl k:Nat} {o:R3} (e:evS C N (.seta i cl k x a) ρ σ = o):b2 (evE C a ρ σ) (λx σ=>gV (getS ρ i) λv=>oObj v λc0 i=>recd σ[i]? λc l=>gd ((c0 == cl && c == cl) && decide (k < l.length)) (some (.next,ρ,σ.set i (.recd c (l.set k x))))) = o:=e
theorem seta_arm {cl k:Nat} (W:Base Z Z.h₀) (K:BlkOK B) (hi:(i,y) ∈ B.tab) (h1:(y == ("__classdict__":Str)) = false) (h2:(y == ("__debug__":Str)) = false) (hc:attrOk Z.I cl k x = true) (hl:(Z.I.flds cl).length ≤ 1000) (hn:notComp pa = true) (ha:EOK Z Y B a pa) :
 SOK Z Y B (.seta i cl k x a) (.Assign [.Attribute (.Name y np) x apos] pa pos):=λwE sE ρ σ r cv w s hlo t e=>
 an3 hc λa1 a2 a3=>b2_is (ev_seta e) λu σ1 e1 e=>gV_is (M:=λo=>getS ρ i = o→_) e (λv e hs=>oObj_is (M:=λv=>getS ρ i = some (.v v)→_) e (λc0 j e hs=>recd_is e λc1 l hσ e=>gd_is e λhg e6=>an2 hg λhg1 hg2=>an2 hg1 λg1 g2=>by
  obtain rfl:=eq_of_beq g1
  obtain rfl:=eq_of_beq g2
  exact some_is (M:=λr=>wpAny _ _ _ (FlR _ _ _ _ _ _ _ _ r) _ _) e6 (plainObj_wpAny_Assign_Attribute (ha.go t.now e1 λcx w1 s1 P1 _ hx=>st_load K (t.go P1) hi hs h1 h2 λhsl=>ObjR.casesOn (motive:=λc _=>wpAny Z.M Y.A (setAttr c x cx) _ NoE s1) hsl λad d q1 q2=>
   (P1.sim.obj j _ d hσ q2).elim λob q=>KvR.casesOn (motive:=λ_=>_) (q.2:KvR Z (Z.I.flds _) (VRs Z w1 l) ob) λkvs D hks hvs=>
    set_ok (W.k.keeps P1.sim.keeps) (clsOk_is a1) a2 (P1.sim.im _ _ q1) q.1 D (by rw [← List.length_map (f:=(·.1)),hks]; exact hl) λh' tk od' hsb g' D'=>
     have z:=putAt_set (dict_nodup D) (hks ▸ eq_of_beq a3) (of_decide_eq_true hg2) ▸ stored_put (x:=x) (dict_nodup D) hvs hx
     have P2:=Post.put (t:=tk) (o':=.recd _ (l.set k u)) P1.sim q2 hsb g' (KvR.mk _ D' (z.1.trans hks) z.2)
     NextAt.mk cv w1 ((t.go P1).go P2) (P1.step.trans P2.step)) (swaps_attr hn _ _ _ _))) hs) rfl
theorem setItem_lst {a:Addr} {xs:Array Value} {n:Nat} {k:Int} {t:Tok} {v:Value} {Q:Unit→Shared→Prop} (g:s.heap.get? a = some (lstO xs n)) (h0:0 ≤ k) (hfit:k < 2 ^ 63) (hn:k < xs.size)
 (hQ:∀ h' n',h'.get? a = some (lstO (xs.setIfInBounds k.toNat v) n')→Heap.SameBut a s.heap h'→Q () { s with heap:=h' }):wpAny Z.M Y.A (setItem (.ref a) (.int k t) v) Q NoE s:=by
 have hl:s.heap.IsList a xs:=⟨_,g,rfl,n,rfl⟩
 unfold setItem
 refine wpAny_holding (wpAny_bind (wpAny_sequenceKey hl.typeIs (by decide) (wpAny_bind (wpAny_callSpecial?_slot (name:=Str.ofString "__setitem__") hl.typeIs slot_list_setitem (wpAny_call_entry slot_list_setitem hl.typeIs entry_list_setitem ?_ (args_list_setitem _ _ _))))))
 show wpAny _ _ (Builtin.List.listSubscript? (.int k t) >>= _) _ _ s
 refine wpAny_bind (wpAny_listSubscript_int (fitsIndex_of h0 hfit) ?_)
 clear hfit
 obtain ⟨j,rfl⟩:=Int.eq_ofNat_of_zero_le h0
 have hj:j < xs.size:=Int.ofNat_lt.mp hn
 show wpAny _ _ ((seqItemAt a j >>= λr=>pure (r.map (j,·))) >>= _) _ _ s
 refine wpAny_bind (wpAny_bind (wpAny_seqItemAt g rfl (wpAny_pure ?_)))
 rw [Array.getElem?_eq_getElem hj]
 show wpAny _ _ (setSeqItemAt a j v >>= _) _ _ s
 exact (upd_list g (·.setIfInBounds j v)).elim λn' u=>wpAny_bind (wpAny_setSeqItemAt g rfl (wpAny_pure ⟨.none,rfl,wpAny_pure (hQ _ n' u.1 u.2)⟩))
theorem setItem_ok {dv kv x:V} {cd ck cx:Value} {Q:Unit→Shared→Prop} (P:Sim Z w σ s.heap) (e:stored σ dv kv x = some σ') (hd:VR Z w dv cd) (hk:VR Z w kv ck) (hx:VR Z w x cx) (h:∀ h' tk,Post Z w s σ' w { s with heap:=h',toks:=tk }→Q () { s with heap:=h',toks:=tk }):wpAny Z.M Y.A (setItem cd ck cx) Q NoE s:=
 oRef_is (M:=λdv=>VR Z w dv cd→_) e (λr e hd=>RefR.casesOn (motive:=λcd _=>wpAny Z.M Y.A (setItem cd ck cx) Q NoE s) hd λad hph=>
  (σ[r]?).casesOn (motive:=λo=>σ[r]? = o→storedO σ r kv x o = some σ'→wpAny Z.M Y.A (setItem (.ref ad) ck cx) Q NoE s) (λ_=>nn) (λo=>o.casesOn (motive:=λo=>σ[r]? = some o→storedO σ r kv x (some o) = some σ'→wpAny Z.M Y.A (setItem (.ref ad) ck cx) Q NoE s)
   (λl hσ e=>oInt_is (M:=λkv=>VR Z w kv ck→_) e (λk e hk=>gd_is e λhg e=>an2 hg λg1 g2=>an2 g2 λg2 g3=>IntR.casesOn (motive:=λck _=>wpAny Z.M Y.A (setItem (.ref ad) ck cx) Q NoE s) hk λtk=>
    (P.obj r _ ad hσ hph).elim λob q=>LstO.casesOn (motive:=λob _=>s.heap.get? ad = some ob→wpAny Z.M Y.A (setItem (.ref ad) _ cx) Q NoE s) q.2 (λxs n rr g=>
     have z1:=of_decide_eq_true g2
     have z2:=of_decide_eq_true g3
     have z3:=shortL_is g1
     setItem_lst g z1 (by omega) (by rw [tup_size rr]; exact z2) λh' n' g' hsb=>h h' s.toks (some_is (M:=λσ'=>Post Z w s σ' w _) e (Post.put (t:=s.toks) (o':=.list (l.set k.toNat x)) P hph hsb g' (LstO.mk _ n' (by rw [Array.toList_setIfInBounds]; exact rr.set _ hx))))) q.1) hk)
   (λks vs hσ e=>oStr_is (M:=λkv=>VR Z w kv ck→_) e (λk e hk=>gd_is e λg1 e=>StrR.casesOn (motive:=λck _=>wpAny Z.M Y.A (setItem (.ref ad) ck cx) Q NoE s) hk λtk=>
    (P.obj r _ ad hσ hph).elim λob q=>KvR.casesOn (motive:=λ_=>_) (q.2:KvR Z ks (VRs Z w vs) ob) λkvs D hks hvs=>
     wpAny_setItem_pairs (knd:=Z.knd) (k:=k) (beq_self_eq_true k) (Heap.dictOf_iff.mpr ⟨ob,q.1,D⟩) (λh' hD' hsb=>(Heap.dictOf_iff.mp hD').elim λob' q'=>have z:=stored_put (x:=k) (dict_nodup D) hvs hx
      h h' _ (some_is (M:=λσ'=>Post Z w s σ' w _) e (Post.put P hph hsb q'.1 (o':=.dict (putAt ks vs k x).1 (putAt ks vs k x).2) (hks ▸ KvR.mk _ q'.2 z.1 z.2)))) (le_line (by rw [← List.length_map (f:=(·.2)),hvs.length]; exact Nat.le_trans (shortL_is g1) (by decide)))) hk)
   fun _ _ _=>nn) rfl e) hd
theorem ev_seti {C:Orc} {N:Nat} {d k:E} {o:R3} (e:evS C N (.seti d k a) ρ σ = o):b2 (evE C a ρ σ) (λx σ=>b2 (evE C d ρ σ) λdv σ=>b2 (evE C k ρ σ) λkv σ=>b1 (stored σ dv kv x) λσ=>some (.next,ρ,σ)) = o:=e
theorem seti_arm {d k:E} {pd pk:Expr} {ipos:Pos} (hn:notComp pa = true) (hd:EOK Z Y B d pd) (hk:EOK Z Y B k pk) (ha:EOK Z Y B a pa):SOK Z Y B (.seti d k a) (.Assign [.Subscript pd pk ipos] pa pos):=λwE sE ρ σ r cv w s hlo t e=>
 b2_is (ev_seti e) λu σ1 e1 e=>b2_is e λdv σ2 e2 e=>b2_is e λkv σ3 e3 e=>b1_is e λσ4 e4 e=>some_is (M:=λr=>wpAny _ _ _ (FlR _ _ _ _ _ _ _ _ r) _ _) e (wpAny_Assign_Subscript (ha.go t.now e1 λcx w1 s1 P1 X1 hx=>hd.go X1 e2 λcd w2 s2 P2 X2 hdv=>
  hk.go X2 e3 λck w3 s3 P3 X3 hkv=>setItem_ok X3.sim e4 (hdv.ext P3.ext) hkv ((hx.ext P2.ext).ext P3.ext) λh' tk P4=>have P:=((P1.trans P2).trans P3).trans P4; NextAt.mk cv w3 (t.go P) P.step) (swaps_sub hn _ _ _ _))
theorem ev_expr {C:Orc} {N:Nat} {o:R3} (e:evS C N (.expr a) ρ σ = o):b2 (evE C a ρ σ) (λx σ=>gd (decide (x.ctorIdx = 0)) (some (.next,ρ,σ))) = o:=e
theorem expr_arm (K:BlkOK B) (hn:notComp pa = true) (ha:EOK Z Y B a pa):SOK Z Y B (.expr a) (.Expr pa pos):=λwE sE ρ σ r cv w s hlo t e=>
 b2_is (ev_expr e) λx σ1 e1 e=>gd_is e λh e=>some_is (M:=λr=>wpAny _ _ _ (FlR _ _ _ _ _ _ _ _ r) _ _) e (wpAny_Expr (ha.go t.now e1 λcx w1 s1 P1 _ hx=>by
  cases x with
  | none=>cases hx; exact NextAt.mk cv w1 (t.go P1) P1.step
  | _=>exact ff h) (not_interactive K) (swaps_drop hn _ _))
end
section
variable {Z:Zt} {Y:Yt} {B:Blk} {w w' w1 wE wB w0:GW} {s s' s1 sE sB:Shared} {σ σ':H} {v:V} {c:Value} {ρ ρ':Rho} {cv cv' cvB:Nat→Value} {It:Addr} {fp wr:List Addr} {l:List V} {tgt:Expr} {S:Nat→Heap→Prop} {Md:Nat→Value→Heap→Prop} {pos:Pos}
inductive WhlAt (Z:Zt) (Y:Yt) (B:Blk) (t0:E) (b:List Mine.S) (wE:GW) (sE:Shared) (ρ:Rho) (cv:Nat→Value) (w:GW) (s:Shared) (r:Fl×Rho×H) (n:Nat) (s1:Shared):Prop
 | mk (ρ1:Rho) (σ1:H) (cv1:Nat→Value) (w1:GW):loopW (evE Y.C t0) (evSs Y.C Y.N b) n ρ1 σ1 = some r→ST Z B wE sE ρ1 σ1 cv1 w1 s1→Step B noX ρ cv w s ρ1 cv1 w1 s1→WhlAt Z Y B t0 b wE sE ρ cv w s r n s1
theorem whl_arm {t0:E} {pt:Expr} {b:List Mine.S} {pb:List Stmt} (ht:AOK Z Y B t0 pt) (hb:SsOK Z Y B b pb):SOK Z Y B (.whl t0 b) (.While pt pb [] pos):=λwE sE ρ σ r cv w s hlo t e=>by
 refine wpAny_While (codeAny_whileLoop (WhlAt Z Y B t0 b wE sE ρ cv w s r) (λn s1 q=>q.casesOn λρ1 σ1 cv1 w1 e1 t1 st1=>?_) Y.N (.mk ρ σ cv w e t .refl))
 cases n with
 | zero=>exact nn e1
 | succ n=>
  refine bT_is e1 λbb σ2 e2 e=>wpE (ht.t.go t1.now e2 λw2 s2 P2 X2=>?_)
  cases bb with
  | true=>exact wpE (flow_then (Y:=Y) e (λr' e'=>hb wE sE ρ1 σ2 r' cv1 w2 s2 hlo (t1.go P2) e') (λρ3 σ3 cv3 w3 s3 t3 st3 e=>⟨n,Nat.lt_succ_self n,.mk ρ3 σ3 cv3 w3 e t3 ((st1.trans P2.step).trans st3)⟩) λc s' q=>FlR.after (st1.trans P2.step) q)
  | false=>exact wpE (wpAny_execs_nil (some_is (M:=λr=>FlR _ _ _ _ _ _ _ _ r _ _) e (NextAt.mk cv1 w2 (t1.go P2) (st1.trans P2.step))))
theorem for_ok {pt:Expr} {tg:Tg} {b:List Mine.S} {pb:List Stmt} {R:Result→Shared→Prop} {r:Fl×Rho×H} (hh:Y.A.handled = none) (K:BlkOK B) (hlo:B.lo = sE.heap)
 (W:Itr Z Y.A w0 It fp wr l pt S Md) (ht:TgOK B tg pt) (hb:SsOK Z Y B b pb) (hwB:∀ b ∈ wr,sB.heap.get? b = none) (hR:∀ g s',FlR Z B wE sE ρ cv wB sB r g s'→R (.ok g) s') :
 ∀ (l':List V) (i:Nat),l.drop i = l'→i + l'.length = l.length→∀ (ρ1:Rho) (σ:H) (cv1:Nat→Value) (w:GW) (s:Shared),LoopAt Z B noX wE sE w0 fp wr S ρ1 σ cv1 w s i→Step B noX ρ cv wB sB ρ1 cv1 w s→
  loopS (λx ρ σ=>b1 (bindT tg ρ x) λρ=>evSs Y.C Y.N b ρ σ) l' ρ1 σ = some r→codeAny Z.M Y.A (.forLoop pt (.ref It) pb [] B.env) R s
 | [],i,hl,hn,ρ1,σ,cv1,w,s,L,st,e=>by
  refine codeAny_of_tree ?_
  show wpAny _ Y.A ((forTurn pt (.ref It) pb [] B.env).onRaise (λx=>do noteFrame x B.env; theTreesLotGoes x)) _ _ s
  refine wpAny_noted ?_
  unfold forTurn
  obtain rfl:i = l.length:=hn
  exact wpAny_bind (wpAny_standAt (wpAny_bind (wpAny_onRaise (wpE (L.done W λs' t' m=>wpAny_pure ⟨rfl,codeAny_block (wpAny_execs_nil (hR _ _ (some_is (M:=λr=>FlR _ _ _ _ _ _ _ _ r _ _) e (NextAt.mk cv1 w t' (st.touches m.ext hwB m.keep)))))⟩)))))
 | x :: l',i,hl,hn,ρ1,σ,cv1,w,s,L,st,e=>by
  have hx:l[i]? = some x:=by have:=congrArg List.head? hl; rwa [List.head?_drop] at this
  have hl':l.drop (i + 1) = l':=by rw [← List.tail_drop,hl]; rfl
  have hn':i + 1 + l'.length = l.length:=by rw [← hn,List.length_cons]; omega
  refine codeAny_of_tree ?_
  show wpAny _ Y.A ((forTurn pt (.ref It) pb [] B.env).onRaise (λx=>do noteFrame x B.env; theTreesLotGoes x)) _ _ s
  refine wpAny_noted ?_
  unfold forTurn
  refine wpAny_bind (wpAny_standAt (wpAny_bind (wpAny_onRaise (wpE (L.next W hx λv s1 kk=>wpAny_bind (wpE (kk _ λw2 s2 L2 m hv=>?_)))))))
  have st2:=st.touches m.ext hwB m.keep
  have e:b3 (b1 (bindT tg ρ1 x) λρ=>evSs Y.C Y.N b ρ σ) (loopS (λx ρ σ=>b1 (bindT tg ρ x) λρ=>evSs Y.C Y.N b ρ σ) l') = some r:=e
  have ⟨ρ2,hbd⟩:∃ ρ2,bindT tg ρ1 x = some ρ2:=b3_is e (λ_ _ e1 _=>b1_is e1 λρ2 h _=>⟨ρ2,h⟩) λ_ _ _ e1 _=>b1_is e1 λρ2 h _=>⟨ρ2,h⟩
  rw [hbd] at e
  exact wpAny_bind (wpE (assign_ok (X:=noX) hh K hlo ht hbd L2.t hv λs3 cv3 t3 st3=>wpAny_bind (wpE (flow_then (Y:=Y) e (λr' e'=>hb wE sE ρ2 σ r' cv3 w2 s3 hlo t3 e')
   (λρ4 σ4 cv4 w4 s4 t4 st4 e=>have st5:=st3.trans st4
    wpAny_pure ⟨rfl,for_ok hh K hlo W ht hb hwB hR l' (i + 1) hl' hn' ρ4 σ4 cv4 w4 s4 (L2.step W t4 st5) (st2.trans st5) e⟩)
   fun c s' q=>wpAny_pure (hR _ _ (FlR.after (st2.trans st3) q))))))
theorem ev_fr {C:Orc} {N:Nat} {tg:Tg} {it:Mine.It} {b:List Mine.S} {o:R3} (e:evS C N (.fr tg it b) ρ σ = o):b2 (evI C it ρ σ) (λl σ=>loopS (λx ρ σ=>b1 (bindT tg ρ x) λρ=>evSs C N b ρ σ) l ρ σ) = o:=e
theorem fr_arm {tg:Tg} {it:Mine.It} {b:List Mine.S} {pt pi:Expr} {pb:List Stmt} (hh:Y.A.handled = none) (K:BlkOK B) (hn:notSet pi = true) (hi:ItOK Z Y B it pt pi) (ht:TgOK B tg pt) (hb:SsOK Z Y B b pb):SOK Z Y B (.fr tg it b) (.For pt pi pb [] pos):=λwE sE ρ σ r cv w s hlo t e=>
 b2_is (ev_fr e) λl σ1 e1 e=>wpAny_For (wpT (hi ρ σ l σ1 w s t.now e1) λx s1 h1=>wpT h1 λc s2 q=>ItAt.casesOn (motive:=λc s2 _=>codeAny Z.M Y.A (.forLoop pt c pb [] B.env) _ s2) q λw1 It fp wr S Md P1 W hS hwr hfp=>
  for_ok (sB:=s) (wB:=w) hh K hlo W ht hb (λb hb=>(hwr b hb).new) (λg s' q=>q) l 0 rfl (Nat.zero_add _) ρ σ1 cv w1 _ ⟨t.go P1,hS,λb hb=>⟨t.post.gone (hwr b hb).new,(hwr b hb).pr⟩,λb hb=>(hfp b hb).elim .inl λq=>.inr ⟨q.2,t.noMut q.1,λh=>h⟩,.refl⟩ P1.step e) λx=>folded_is hn _ x
end
section
variable {Z:Zt} {Y:Yt} {B:Blk} {w w' w1 wE wB w0:GW} {s s' s1 sE sB:Shared} {σ σ':H} {v:V} {c:Value} {ρ ρ':Rho} {pos cp apos:Pos} {a:E} {pa:Expr} {k:Nat} {x y:Str}
inductive TxtsAre (z:List Str):List Value→Prop
 | mk (p:List (Str×Tok)):p.map (·.1) = z→TxtsAre z (strValues p)
theorem strs_are:∀ {l:List V} {z:List Str} {cs:List Value},strs? l = some z→VRs Z w l cs→TxtsAre z cs
 | [],z,cs,e,r=>r.nil_is (.mk [] (Option.some.inj e))
 | v :: l,z,cs,e,r=>oStr_is (M:=λv=>VRs Z w (v :: l) cs→TxtsAre z cs) e (λx e r=>b1_is e λz' e1 e=>r.cons_is λc r h1 h2=>some_is e (StrR.casesOn (motive:=λc _=>TxtsAre (x :: z') (c :: r)) h1 λt=>TxtsAre.casesOn (motive:=λr _=>TxtsAre (x :: z') (_ :: r)) (strs_are e1 h2) λp hz=>.mk ((x,t) :: p) (congrArg (x :: ·) hz))) r
theorem vrs_strs:∀ (p:List (Str×Tok)),VRs Z w ((p.map (·.1)).map .str) (strValues p)
 | []=>.nil
 | (x,t) :: p=>.cons ⟨t⟩ (vrs_strs p)
theorem join_arm (hp:plainPE pa = true) (hpos:(apos.endLine == pos.line) = true) (ha:EOK Z Y B a pa):EOK Z Y B (.join x a) (.Call (.Attribute (.Constant (.str x) k cp) "join" apos) [pa] [] pos):=λρ σ v σ' w s X e=>
 b2_is e λu σ1 e1 e=>oLst_is (M:=λu=>evE Y.C a ρ σ = some (u,σ1)→_) e (λl e e1=>b1_is e λz e2 e=>gd_is e λhok e=>pr_is (M:=λv σ'=>wpAny Z.M Y.A _ (QV Z w s σ' v) NoE s) e
  (methCall (λ_ _=>rfl) (plain1 hp) (show 1 < 30 by omega) hpos (PySem.Calls.Constant_str (k:=k) (pos:=cp) λpl=>GM.join (callArgs (P:=λ_=>True) (plain1 hp) (keeps_B nofun) (by
   rw [star_plain hp]
   exact PySem.Calls.spliced_cons (ha.go (s:={ s with toks:=s.toks + 1 }) ⟨X.sim,X.br⟩ e1 λc w1 s1 P1 _ hx=>PySem.Calls.spliced_nil ⟨trivial,SeqR.casesOn (motive:=λc _=>wpAny Z.M Y.A (call _ [_,c]) _ NoE s1) hx λad xs n g1 g2=>
    TxtsAre.casesOn (motive:=λcs _=>xs.toList = cs→_) (strs_are e2 g2) (λp hz hxs=>SC.join (l:=p) (texts:=z) ⟨_,P1.sim.im _ _ g1,rfl,n,by rw [← hxs,Array.toArray_toList]⟩ hz (of_decide_eq_true hok) λt' k=>QV.trans (s0:=s) (w0:=w) (s:={ s with toks:=s.toks + 1 }) (w:=w) (Post.self X.sim) (QV.trans P1 (QV.here P1.sim ⟨t'⟩))) rfl⟩)))))) e1
theorem split_call {t u:Tok} (X:Sim Z w σ s.heap) (hx:x.length ≤ 4000) (hy:(y.length == 0) = false):wpAny Z.M Y.A (call (.builtin "str.split") [.str x t,.str y u]) (QF Z w s σ (.lst ((Txt.split x y).map .str))) NoE s:=by
 have hz:x.length + 2 ≤ sizeLine:=le_line (by omega)
 have hn:(Builtin.Str.partsBetween x (Builtin.Str.occurrences x y 0 x.length (x.length + 1)) y.length).length ≤ sizeLine:=by
  have e1:=StrLaws.occ_length_le x y 0 x.length (x.length + 1)
  rw [length_partsBetween]; omega
 have fin:∀ (p:List (Str×Tok)) tk,p.map (·.1) = Txt.split x y→QF Z w s σ (.lst ((Txt.split x y).map .str)) (.ref s.heap.objs.size) { s with heap:=s.heap.push { cls:=.type "list",data:=.seq (strValues p).toArray },toks:=tk }:=
  fun p tk hp=>QF.push (t:=tk) (xs:=(strValues p).toArray) X (hp ▸ vrs_strs p)
 cases h1:(decide (x.length < y.length) || decide (Builtin.Str.strKind x < Builtin.Str.strKind y))
 · cases hf:(Builtin.Str.occurrences x y 0 x.length (x.length + 1)).isEmpty
   · refine call_meets F.slot_str_split (typeIs_str _ _ _) F.entry_str_split (F.args_str_split_2 _ _) (meets_str_split_sep x y t u h1 hy hf (by omega) hn) ?_
     show wants _ _ _ { s with toks:=_,heap:=s.heap.push { cls:=.type "list",data:=.seq (strsFrom s.toks (Builtin.Str.partsBetween x (Builtin.Str.occurrences x y 0 x.length (x.length + 1)) y.length)).toArray } }
     rw [strsFrom_eq]
     exact fin (numbered s.toks _) _ ((numbered_texts _ _).trans ((if_neg (ne_true_of_eq_false h1)).trans (if_neg (ne_true_of_eq_false hf))).symm)
   · exact call_meets F.slot_str_split (typeIs_str _ _ _) F.entry_str_split (F.args_str_split_2 _ _) (meets_str_split_not_found x y t u h1 hy hf)
      (fin [(x,t)] s.toks ((if_neg (ne_true_of_eq_false h1)).trans (if_pos hf)).symm)
 · exact call_meets F.slot_str_split (typeIs_str _ _ _) F.entry_str_split (F.args_str_split_2 _ _) (meets_str_split_cannot_occur x y t u h1)
    (fin [(x,t)] s.toks (if_pos h1).symm)
theorem split_arm (hb:∀ env whole,attributeBase pa "split" env whole = whole) (hpos:(apos.endLine == pos.line) = true) (ha:EOK Z Y B a pa):EOK Z Y B (.split a y) (.Call (.Attribute pa "split" apos) [.Constant (.str y) k cp] [] pos):=λρ σ v σ' w s X e=>
 b2_is e λu σ1 e1 e=>oStr_is (M:=λu=>evE Y.C a ρ σ = some (u,σ1)→_) e (λx e e1=>gd_is e λhok e=>an2 hok λh1 h2=>pr_is (M:=λv σ'=>wpAny Z.M Y.A _ (QX Z w s σ' v) NoE s) e
  (methCall hb rfl (show 1 < 30 by omega) hpos (ha.go X e1 λc w1 s1 P1 _ hx pl=>StrR.casesOn (motive:=λc _=>wpAny Z.M Y.A (getMethod c "split" pl) _ NoE s1) hx λt=>GM.split (callArgs (P:=λ_=>True) rfl (keeps_B nofun) (by
   rw [star_plain rfl]
   have P2:Post Z w1 s1 σ1 w1 { s1 with toks:=s1.toks + 1 }:=Post.self P1.sim
   exact PySem.Calls.spliced_cons (PySem.Calls.Constant_str (k:=k) (pos:=cp) (PySem.Calls.spliced_nil ⟨trivial,wpV (split_call (s:={ s1 with toks:=s1.toks + 1 }) P2.sim (shortS_is h1) (Bool.not_eq_true' _ ▸ h2)) λc s2 q=>QF.trans P1 (QF.trans P2 q)⟩))))))) e1
inductive DctOK (Z:Zt) (Y:Yt) (B:Blk):List E→List (Option Expr)→List Expr→Prop
 | nil:DctOK Z Y B [] [] []
 | cons {k v pk pv es ks vs}:EOK Z Y B k pk→EOK Z Y B v pv→DctOK Z Y B es ks vs→DctOK Z Y B (k :: v :: es) (some pk :: ks) (pv :: vs)
theorem DctOK.shape {es:List E} {ks:List (Option Expr)} {vs:List Expr} (h:DctOK Z Y B es ks vs):ks.all (·.isSome) = true∧ks.length = vs.length:=by
 induction h with
 | nil=>exact ⟨rfl,rfl⟩
 | cons _ _ _ ih=>exact ⟨ih.1,congrArg (· + 1) ih.2⟩
inductive PairsOK (Z:Zt) (w:GW) (s:Shared) (σ':H) (p:List Str×List V) (ps:List (Value×Value)) (s':Shared):Prop
 | mk (w':GW) (kvs:List (Str×Value)):Post Z w s σ' w' s'→Carries Z.knd ps kvs→kvs.map (·.1) = p.1→VRs Z w' p.2 (kvs.map (·.2))→PairsOK Z w s σ' p ps s'
theorem pairs_ok {es:List E} {pks:List (Option Expr)} {pvs:List Expr} (h:DctOK Z Y B es pks pvs):∀ (ρ:Rho) (σ:H) (l:List V) (σ':H) (w:GW) (s:Shared) (p:List Str×List V),Now Z B ρ σ w s→
 evEs Y.C es ρ σ = some (l,σ')→pairUp l = some p→wpAny Z.M Y.A (evalPairs (pairTrees pks pvs B.env pos)) (PairsOK Z w s σ' p) NoE s:=by
 induction h with
 | nil=>exact λρ σ l σ' w s p X e hu=>pr_is (M:=λl σ'=>pairUp l = some p→wpAny _ _ _ (PairsOK Z w s σ' p) NoE s) e (λhu=>evalPairs_nil (some_is (M:=λp=>PairsOK Z w s σ p [] s) hu (.mk w [] (.refl X.sim) trivial rfl .nil))) hu
 | @cons k _ _ _ _ _ _ hk hv _ ih=>exact λρ σ l σ' w s p X e hu=>b2_is e λkv σ1 e1 e=>b2_is e λl1 σ2 e2 e=>b2_is e2 λvv σ3 e3 e2=>b2_is e2 λl2 σ4 e4 e2=>pr_is (M:=λl σ'=>pairUp l = some p→wpAny _ _ _ (PairsOK Z w s σ' p) NoE s) e (λhu=>
  pr_is (M:=λl1 σ2=>pairUp (kv :: l1) = some p→wpAny _ _ _ (PairsOK Z w s σ2 p) NoE s) e2 (λhu=>oStr_is (M:=λkv=>evE Y.C k ρ σ = some (kv,σ1)→_) hu (λx hu e1=>b1_is hu λq e5 hu=>pairTrees_cons_walk (hk.go X e1 λck w1 s1 P1 X1 hx=>hv.go X1 e3 λcv w2 s2 P2 X2 hxv=>
   wpT (ih ρ σ3 l2 σ4 w2 s2 q X2 e4 e5) λps s3 o=>o.casesOn λw3 kvs P3 hc hks hvs=>some_is (M:=λp=>PairsOK Z w s σ4 p _ s3) hu (StrR.casesOn (motive:=λck _=>PairsOK Z w s σ4 (x :: q.1,vv :: q.2) ((ck,cv) :: ps) s3) hx λtx=>
    .mk w3 ((x,cv) :: kvs) ((P1.trans P2).trans P3) ⟨beq_self_eq_true x,rfl,hc⟩ (congrArg (x :: ·) hks) (.cons (hxv.ext P3.ext) hvs)))) e1) hu) hu
theorem empty_dict (Z:Zt):Obj.IsDictOf Z.knd { cls:=.type "dict",data:=.dict #[] } []:=⟨#[],0,⟨rfl,rfl,rfl⟩,rfl,λ_ he=>absurd he (Array.not_mem_empty _),Pairs.nil,List.nodup_nil⟩
theorem dct_arm {es:List E} {pks:List (Option Expr)} {pvs:List Expr} (hl:pks.length ≤ 15) (h:DctOK Z Y B es pks pvs):EOK Z Y B (.dct es) (.Dict pks pvs pos):=λρ σ v σ' w s X e=>
 b2_is e λl σ1 e1 e=>b1_is e λp e2 e=>gd_is e λhnd e=>pr_is (M:=λv σ'=>wpAny Z.M Y.A _ (QX Z w s σ' v) NoE s) e (by
  have hP0:Post Z w s σ w { s with heap:=s.heap.push { cls:=.type "dict",data:=.dict #[] } }:=(Post.refl X.sim).pushed (t:=s.toks)
  have n0:=get_top s.heap
  have g0:(s.heap.push { cls:=.type "dict",data:=.dict #[] }).get? s.heap.objs.size = some { cls:=.type "dict",data:=.dict #[] }:=Heap.get?_push_size _ rfl
  cases h with
  | nil=>exact pr_is (M:=λl σ1=>pairUp l = some p→wpAny Z.M Y.A _ (QF Z w s σ1 (.dct p.1 p.2)) NoE s) e1 (λe2=>some_is (M:=λp:List Str×List V=>wpAny Z.M Y.A _ (QF Z w s σ (.dct p.1 p.2)) NoE s) e2 (wpAny_Dict_empty (.mk w _ _ hP0 g0 n0 (.new X.sim n0) (X.sim.sysSome n0) ⟨[],empty_dict Z,rfl,.nil⟩))) e2
  | cons hk hv h'=>
   have h0:=DctOK.cons hk hv h'
   refine wpAny_Dict_walk (knd:=Z.knd) h0.shape.1 h0.shape.2 nofun hl (wpT (pairs_ok (s:={ s with heap:=s.heap.push { cls:=.type "dict",data:=.dict #[] } }) h0 ρ σ l σ1 w p (X.post hP0) e1 e2) λps s1 o=>o.casesOn λw1 kvs P1 hc hks hvs=>⟨kvs,hc,⟨_,#[],0,(P1.still g0 (.new X.sim n0)).1,⟨rfl,rfl,rfl⟩,rfl,λ_ he=>absurd he (Array.not_mem_empty _),Pairs.nil,List.nodup_nil⟩,λh2 hD hs=>?_⟩)
   rw [merged_nil_of_nodup kvs (hks ▸ of_decide_eq_true hnd)] at hD
   exact (Heap.dictOf_iff.mp hD).elim λob q=>QF.mk w1 _ ob (Post.touch (hP0.trans P1) n0 (P1.still g0 (.new X.sim n0)).2 hs) q.1 n0 (P1.still g0 (.new X.sim n0)).2 (X.sim.sysSome n0) ⟨kvs,q.2,hks,hvs⟩)
end
theorem keys_lookup:typeLookup (.type "list") "keys" = pure none:=am_miss_of_fast (by kernel_rfl)
theorem keys_miss {pg:Program} {wd:World} {A:Around} {E:Value→Shared→Prop} {s:Shared} {a:Addr} {xs:Array Value} {n:Nat} {Q:Option Value→Shared→Prop} (hx:s.heap.get? a = some (lstO xs n)) (hA:A.handled = none)
 (h:∀ h' tk,(∀ b o,s.heap.get? b = some o→h'.get? b = some o)→Q none { s with heap:=h',toks:=tk }):wpAny (model pg wd) A (getAttr? (.ref a) "keys") Q E s:=by
 obtain ⟨hp,g,d,tk,os⟩:=s
 have hT:∀ tk',(⟨hp,g,d,tk',os⟩:Shared).TypeIs (.ref a) "list":=λ_=>⟨_,hx,rfl⟩
 have f1:=sub_AttributeError
 have f3:=F.slot_list_getattribute.lookup
 have f4:=F.slot_list_getattribute.bind (.ref a)
 have f5:=am_list_getattr_none
 unfold getAttr? getAttrBy? getAttrBy
 repeat (any_goals (first | assumption | exact hT _ | ((with_reducible show wpAny _ _ (call (Value.builtin "list.__getattribute__") _ _) _ _ _); refine call_meets F.slot_list_getattribute (hT _) am_entry_list_getattribute (F.args_list_getattribute_2 _ _) (meets_getattribute_miss_list a xs n #[] "keys" _ keys_lookup (by decide +kernel) (by decide +kernel)) ⟨hx,hA,λh' tk' e hx'=>?_⟩) | wp_step))
 obtain ⟨t',u',he⟩:=hx'.there
 show wpAny _ _ (getattributeRaised _ _ _ _ _ _ _) _ _ _
 unfold getattributeRaised
 repeat (any_goals (first | assumption | wp_step))
 exact h _ _ hx'.keeps
theorem entry_update_loop:entryFor table "dict.update.loop" = some Builtin.«dict.update.loop»:=entryFor_of_tree (by kernel_rfl)
theorem plain_update_loop:plainId "dict.update.loop" = true:=by decide +kernel
section
variable {Z:Zt} {A:Around} {E:Value→Shared→Prop} {s:Shared}
theorem stored_new {r:List (Str×Value)} {x:Str} (h:x ∉ r.map (·.1)) (c:Value):PySem.stored r x c = r ++ [(x,c)]:=by
 unfold PySem.stored
 rw [(stored_not h c).2]; rfl
theorem take_next:∀ {kvs:List (Str×Value)} {i:Nat} {p:Str×Value},(kvs.map (·.1)).Nodup→kvs[i]? = some p→PySem.stored (kvs.take i) p.1 p.2 = kvs.take (i + 1)
 | [],_,_,_,e=>nn e
 | q :: r,0,p,_,e=>Option.some.inj e ▸ rfl
 | q :: r,i + 1,p,hn,e=>(stored_cons (hn.sublist ((List.take_sublist (i + 1) (q :: r)).map _))).trans ((if_neg λz:q.1 = p.1=>(List.nodup_cons.mp hn).1 (show q.1 ∈ r.map (·.1) from z ▸ List.mem_map_of_mem (List.mem_of_getElem? e))).trans (congrArg (q :: ·) (take_next (List.nodup_cons.mp hn).2 e)))
inductive PairAt (g:Get) (P:Addr→Prop) (p:Str×Value):Value→Prop
 | mk (t:Addr) (tn:Nat) (tk:Tok):g t = some (tupO #[.str p.1 tk,p.2] tn)→P t→PairAt g P p (.ref t)
structure PairsAt (h:Heap) (d it a:Addr) (xs:Array Value) (kvs:List (Str×Value)):Prop where
 len:xs.size = kvs.length
 lst:∃ n,h.get? a = some (lstO xs n)
 nd:(kvs.map (·.1)).Nodup
 at_:∀ (i:Nat) (p:Str×Value),kvs[i]? = some p→∃ c,xs[i]? = some c∧PairAt h.get? (λt=>t ≠ d∧t ≠ it) p c
theorem upd_loop {d it a:Addr} {xs:Array Value} {h0:Heap} {kvs:List (Str×Value)} {R:Result→Shared→Prop} (hh:A.handled = none) (hdi:d ≠ it) (hda:d ≠ a) (hia:it ≠ a) (hp:PairsAt h0 d it a xs kvs) (hl:kvs.length ≤ 4000) :
 ∀ (l:List (Str×Value)) (i:Nat),kvs.drop i = l→i + l.length = kvs.length→∀ s:Shared,s.heap.IsListIter it a i→s.heap.DictOf Z.knd d (kvs.take i)→(∀ b o,b ≠ d→b ≠ it→h0.get? b = some o→s.heap.get? b = some o)→
  (∀ h' tk,h'.DictOf Z.knd d kvs→(∀ b o,b ≠ d→b ≠ it→h0.get? b = some o→h'.get? b = some o)→R (.ok (.ret .none)) { s with heap:=h',toks:=tk })→
  codeAny Z.M A (.builtin "dict.update.loop" ⟨[.ref d,.ref it,rawInt (i:Int),.none],[]⟩) R s
 | [],i,hd0,hi,s,hit,hd,hk,hR=>hp.lst.elim λn hL=>by
  obtain rfl:i = kvs.length:=hi
  rw [List.take_length] at hd
  refine codeAny_builtin entry_update_loop ?_
  rw [Around.under_plainId plain_update_loop _]
  exact wpAny_bind (wpAny_pyNext_list_end hh hit ⟨_,hk a _ hda.symm hia.symm hL,rfl,n,rfl⟩ (by rw [← hp.len,Array.getElem?_size]) λh' hx=>wpAny_bind (wpAny_pure (wpAny_pure (hR h' s.toks (hd.extBut hx hdi) λb o h1 h2 e=>hx b o h2 (hk b o h1 h2 e)))))
 | p :: l,i,hd0,hi,s,hit,hd,hk,hR=>hp.lst.elim λn hL=>by
  have hx:kvs[i]? = some p:=by have:=congrArg List.head? hd0; rwa [List.head?_drop] at this
  have hl':kvs.drop (i + 1) = l:=by rw [← List.tail_drop,hd0]; rfl
  have hi':i + 1 + l.length = kvs.length:=by rw [← hi,List.length_cons]; omega
  refine codeAny_builtin entry_update_loop ?_
  rw [Around.under_plainId plain_update_loop _]
  obtain ⟨c,hc,q⟩:=hp.at_ i p hx
  cases q with | mk t tn tk ht hne=>?_
  refine wpAny_bind (wpAny_pyNext_list_item hit ⟨_,hk a _ hda.symm hia.symm hL,rfl,n,rfl⟩ hc λh' hit' hs=>?_)
  have ht':h'.get? t = some (tupO #[.str p.1 tk,p.2] tn):=(hs.2 t hne.2).trans (hk t _ hne.1 hne.2 ht)
  refine wpAny_bind (wpAny_holding (wpAny_bind (wpAny_tryCatch ?_)))
  unfold Builtin.Dict.pairItems
  refine wpAny_bind (wpAny_typeOf (T:="tuple") ⟨_,ht',rfl⟩ (wpAny_bind (wpAny_seqItems ht' rfl (wpAny_pure ?_))))
  refine wpAny_holding (wpAny_dictSet_pairs (knd:=Z.knd) (k:=p.1) (beq_self_eq_true _) (hd.sameBut hs hdi) (λh2 hd2 hs2=>?_) (le_line (by rw [List.length_take]; omega)))
  rw [take_next hp.nd hx] at hd2
  exact wpAny_pure ⟨plainId_quiet plain_update_loop _,upd_loop hh hdi hda hia hp hl l (i + 1) hl' hi' { s with heap:=h2,toks:=s.toks + 1 } (hit'.elim λo q=>⟨o,(hs2.2 it hdi.symm).trans q.1,q.2⟩) hd2 (λb o h1 h3 e=>(hs2.2 b h1).trans ((hs.2 b h3).trans (hk b o h1 h3 e))) hR⟩
end
section
variable {Z:Zt} {Y:Yt} {B:Blk} {A:Around} {E:Value→Shared→Prop} {w w':GW} {s s':Shared} {σ σ':H} {v:V} {c:Value} {ρ ρ':Rho}
theorem PairAt.map {g g':Get} {P P':Addr→Prop} {p:Str×Value} (q:PairAt g P p c) (k:∀ t o,g t = some o→P t→g' t = some o∧P' t):PairAt g' P' p c:=q.casesOn λt tn tk h1 h2=>.mk t tn tk (k t _ h1 h2).1 (k t _ h1 h2).2
theorem call_dict_list {a:Addr} {xs:Array Value} {n:Nat} {kvs:List (Str×Value)} {Q:Value→Shared→Prop} (hh:A.handled = none) (ha:s.heap.get? a = some (lstO xs n)) (hlen:xs.size = kvs.length) (hnd:(kvs.map (·.1)).Nodup) (hl:kvs.length ≤ 4000)
 (hat:∀ (i:Nat) (p:Str×Value),kvs[i]? = some p→∃ c,xs[i]? = some c∧PairAt s.heap.get? (λ_=>True) p c)
 (h:∀ h' tk,h'.DictOf Z.knd s.heap.objs.size kvs→(∀ b o,s.heap.get? b = some o→h'.get? b = some o)→Q (.ref s.heap.objs.size) { s with heap:=h',toks:=tk }) :
 wpAny Z.M A (call (.type "dict") [.ref a]) Q E s:=by
 refine callType_codes (Q₁:=λobj s₁=>obj = .ref s.heap.objs.size∧s₁ = { s with heap:=s.heap.push { cls:=.type "dict",data:=.dict #[] } }) F.kt_called_dict (F.kt_typeCall_dict_1 _) F.entry_dict_init (kt_code_dict_new _ ⟨rfl,rfl⟩) ?_
 rintro obj s₁ ⟨rfl,rfl⟩
 have hnew:(s.heap.push { cls:=.type "dict",data:=.dict #[] }).DictOf Z.knd s.heap.objs.size []:=Heap.DictOf.new s.heap
 have ha':(s.heap.push { cls:=.type "dict",data:=.dict #[] }).get? a = some (lstO xs n):=Heap.get?_push_of_some _ ha
 refine ⟨hnew.typeIs,F.args_dict_init_2 _ _,?_⟩
 unfold Builtin.«dict.__init__»
 refine wpAny_bind ?_
 unfold Builtin.Dict.selfAndRest
 refine wpAny_bind (wpAny_notOrdered_dict hnew.typeIs ?_)
 show wpAny _ _ (pure (s.heap.objs.size,[Value.ref a])) _ _ _
 refine wpAny_pure ?_
 show wpAny _ _ (Builtin.Dict.updateFrom "dict.__init__" s.heap.objs.size (.ref a) [] .none) _ _ _
 unfold Builtin.Dict.updateFrom
 refine wpAny_bind (wpAny_typeOf (T:="list") ⟨_,ha',rfl⟩ ?_)
 rw [if_pos (by decide)]
 refine wpAny_bind (keys_miss ha' hh λh1 t1 hk1=>wpAny_bind (wpAny_rule ?_))
 have hd1:h1.DictOf Z.knd s.heap.objs.size []:=let ⟨o,es,ep,ho,r⟩:=hnew; ⟨o,es,ep,hk1 _ _ ho,r⟩
 have ha1:=hk1 _ _ ha'
 have e0:∀ b o,s.heap.get? b = some o→h1.get? b = some o:=λb o e=>hk1 _ _ (Heap.get?_push_of_some _ e)
 have lt:∀ b o,h1.get? b = some o→b ≠ h1.objs.size:=λb o e=>Nat.ne_of_lt (Heap.lt_size e)
 have ltD:∀ b o,s.heap.get? b = some o→b ≠ s.heap.objs.size:=λb o e=>Nat.ne_of_lt (Heap.lt_size e)
 refine wpAny_bind (wpAny_pyIter_list ⟨_,ha1,rfl,n,rfl⟩ (wpAny_pure ⟨plainId_quiet plain_update_loop _,?_⟩))
 have hDlt:s.heap.objs.size ≠ h1.objs.size:=hd1.elim λo q=>q.elim λ_ q=>q.elim λ_ q=>lt _ o q.1
 exact upd_loop (A:=A.in1) (Z:=Z) (h0:=h1.push { cls:=.type "list_iterator",data:=.fields #[.ref a,.int 0 0] }) (d:=s.heap.objs.size) (it:=h1.objs.size) (a:=a) (xs:=xs) (kvs:=kvs) hh hDlt (ltD _ _ ha).symm (lt _ _ ha1).symm
  ⟨hlen,⟨n,Heap.get?_push_of_some _ ha1⟩,hnd,λi p hp=>(hat i p hp).elim λc q=>⟨c,q.1,q.2.map λt o e _=>⟨Heap.get?_push_of_some _ (e0 _ _ e),ltD _ _ e,lt _ _ (e0 _ _ e)⟩⟩⟩ hl kvs 0 rfl (Nat.zero_add _) { s with heap:=h1.push { cls:=.type "list_iterator",data:=.fields #[.ref a,.int 0 0] },toks:=t1 } ⟨_,Heap.get?_push_size _ rfl,rfl,rfl⟩ (hd1.push _) (λb o _ _ e=>e) λh' tk hD hk=>⟨rfl,h h' tk hD λb o e=>hk b o (ltD b o e) (lt b o (e0 b o e)) (Heap.get?_push_of_some _ (e0 b o e))⟩
structure PairsL (Z:Zt) (w:GW) (p:List Str×List V) (cs:List Value) (kvs:List (Str×Value)):Prop where
 keys:kvs.map (·.1) = p.1
 vals:VRs Z w p.2 (kvs.map (·.2))
 len:kvs.length = cs.length
 nd:p.1.Nodup
 at_:∀ (i:Nat) (q:Str×Value),kvs[i]? = some q→∃ c,cs[i]? = some c∧PairAt w.im (λ_=>True) q c
theorem pairs_are:∀ {l:List V} {p:List Str×List V} {cs:List Value},pairs? l = some p→VRs Z w l cs→∃ kvs,PairsL Z w p cs kvs
 | [],p,cs,e,r=>r.nil_is (some_is e ⟨[],rfl,.nil,rfl,List.nodup_nil,λ_ _=>nn⟩)
 | u :: l,p,cs,e,r=>oTup_is (M:=λu=>VRs Z w (u :: l) cs→_) e (λm e r=>o2_is (M:=λm=>VRs Z w (.tup m :: l) cs→_) e (λk v e r=>oStr_is (M:=λk=>VRs Z w (.tup [k,v] :: l) cs→_) e (λk e r=>b1_is e λq e1 e=>gd_is e λhc e=>
  some_is (M:=λp=>∃ kvs,PairsL Z w p cs kvs) e (r.cons_is (M:=λcs=>∃ kvs,PairsL Z w (k :: q.1,v :: q.2) cs kvs) λc r' hc0 h2=>(pairs_are e1 h2).elim λkvs P=>SeqR.casesOn (motive:=λc _=>∃ kvs,PairsL Z w (k :: q.1,v :: q.2) (c :: r') kvs) hc0 λt xs tn g1 g2=>
   two_arr (M:=λxs=>w.im t = some (tupO xs tn)→_) g2 (λca cb va vb g1=>StrR.casesOn (motive:=λca _=>w.im t = some (tupO #[ca,cb] tn)→_) va (λtk g1=>⟨(k,cb) :: kvs,congrArg (k :: ·) P.keys,.cons vb P.vals,congrArg (· + 1) P.len,
    List.nodup_cons.mpr ⟨λz=>ff ((congrArg not (List.contains_iff_mem.mpr z)).symm.trans hc),P.nd⟩,λi p h=>match i,h with
     | 0,h=>⟨_,rfl,some_is h (.mk t tn tk g1 trivial)⟩
     | i + 1,h=>P.at_ i p h⟩) g1) g1)) r) r) r
theorem dict_call {l:List V} {r:V} (hh:A.handled = none) (X:Sim Z w σ s.heap) (hx:RD Z w s.heap (.lst l) c) (e:biOp .dict [.lst l] = some r):wpAny Z.M A (call (.type "dict") [c]) (QX Z w s σ r) E s:=
 gd_is (e:gd (shortL l) (b1 (pairs? l) λp=>some (.dct p.1 p.2)) = some r) λhsh e=>b1_is e λp e1 e=>some_is (M:=λr=>wpAny Z.M A _ (QX Z w s σ r) E s) e (SeqR.casesOn (motive:=λc _=>wpAny Z.M A (call (.type "dict") [c]) (QF Z w s σ (.dct p.1 p.2)) E s) hx λa xs n g rr=>(pairs_are e1 rr).elim λkvs P=>
  have n0:=get_top s.heap
  call_dict_list hh g (kvs:=kvs) (by rw [P.len,Array.length_toList]) (P.keys ▸ P.nd) (by rw [P.len,rr.length]; exact shortL_is hsh) (λi p hp=>(P.at_ i p hp).elim λc q=>⟨c,Array.getElem?_toList.symm.trans q.1,q.2.map λt o e _=>⟨X.im _ _ e,trivial⟩⟩) λh' tk hD hk=>
   (Heap.dictOf_iff.mp hD).elim λo q=>.mk w _ o ((Post.refl X).grow hk) q.1 n0 (.new X n0) (X.sysSome n0) ⟨kvs,q.2,P.keys,P.vals⟩)
end
section
variable {Z:Zt} {Y:Yt} {B:Blk} {A:Around} {E:Value→Shared→Prop} {w w' w0:GW} {s s' s0:Shared} {σ σ' σ1 σ2:H} {v:V} {c:Value} {ρ ρ':Rho} {a k:Addr} {xs:Array Value} {n:Nat} {pos:Pos}
structure OwnL (s0:Shared) (w:GW) (s:Shared) (a:Addr) (xs:Array Value) (n:Nat):Prop where
 g:s.heap.get? a = some (lstO xs n)
 new:s0.heap.get? a = none
 pr:Priv w a
theorem OwnL.post (o:OwnL s0 w s a xs n) (P:Post Z w s σ w' s'):OwnL s0 w' s' a xs n:=⟨(P.still o.g o.pr).1,o.new,(P.still o.g o.pr).2⟩
theorem OwnL.other (o:OwnL s0 w s a xs n) (hs:Heap.SameBut k s.heap s'.heap) (h:k ≠ a):OwnL s0 w s' a xs n:=⟨(hs.2 a h.symm).trans o.g,o.new,o.pr⟩
theorem OwnL.items {Q:Array Value→Shared→Prop} (o:OwnL s0 w s a xs n) (h:Q xs s):wpAny Z.M A (Builtin.List.listItems (.ref a)) Q E s:=listItems_at o.g rfl h
theorem OwnL.epoch {Q:Nat→Shared→Prop} (o:OwnL s0 w s a xs n) (h:Q n s):wpAny Z.M A (seqEpoch a) Q E s:=seqEpoch_at o.g rfl h
theorem OwnL.upd {f:Array Value→Array Value} {Q:Unit→Shared→Prop} (o:OwnL s0 w s a xs n) (P:Post Z w0 s0 σ w s) (z1:xs.size ≤ 4000) (z2:(f xs).size ≤ 4000) (h:∀ s' n',Post Z w0 s0 σ w s'→OwnL s0 w s' a (f xs) n'→Heap.SameBut a s.heap s'.heap→Q () s') :
 wpAny Z.M A (Builtin.List.listUpdate (.ref a) f) Q E s:=listUpdate_at o.g rfl ((upd_list o.g f).elim λn' u=>h _ n' (Post.touch (t:=s.toks) P o.new o.pr u.2) ⟨u.1,o.new,o.pr⟩ u.2) (le_line (Nat.le_trans z1 (by decide))) (Nat.le_succ_of_le (le_line (Nat.le_trans z2 (by decide))))
theorem tup_new {vs:List Value} {Q:Value→Shared→Prop} (X:Sim Z w σ s.heap) (z:vs.length ≤ 4000) (h:∀ s' c,Post Z w s σ w s'→Q c s'):wpAny Z.M A (newTuple vs) Q E s:=wpAny_newTuple (h _ _ ((Post.refl X).pushed (t:=s.toks))) (le_line (Nat.le_trans z (by decide)))
theorem list_new {vs:List Value} {Q:Value→Shared→Prop} (P:Post Z w0 s0 σ w s) (z:vs.length ≤ 4000) (h:∀ s' k,Post Z w s σ w s'→OwnL s0 w s' k vs.toArray 0→s.heap.get? k = none→Q (.ref k) s'):wpAny Z.M A (newList vs) Q E s:=
 have n0:=get_top s.heap
 wpAny_newList (h _ _ ((Post.refl P.sim).pushed (t:=s.toks)) ⟨Heap.get?_push_size _ rfl,P.gone n0,.new P.sim n0⟩ n0) (le_line (Nat.le_trans z (by decide)))
noncomputable def pairOrd (ka kb:Str) (v1 v2:Value):Option (List Value):=if kb.cps.toList < ka.cps.toList then some [v2,v1] else gd (decide (ka.cps.toList < kb.cps.toList)) (some [v1,v2])
theorem order2 {ka kb:Str} {v1 v2:Value} {ta tb:Tok} {out:List Value} (ho:pairOrd ka kb v1 v2 = some out) {xs:Array Keyed} (hp:xs.Perm #[(.str ka ta,v1),(.str kb tb,v2)]) (hs:SortedToK PyProof.Rows.strKind xs 2):(xs.map (·.2)).toList = out:=by
 have h01:=hs 0 1 (by decide) (by decide)
 have key:∀ (k1 k2:Str) (t1 t2:Tok) (u1 u2:Value),xs.toList = [(.str k1 t1,u1),(.str k2 t2,u2)]→¬ (k2.cps.toList < k1.cps.toList):=λk1 k2 t1 t2 u1 u2 e=>by
  have e0:xs[0]? = some (.str k1 t1,u1):=by rw [← Array.getElem?_toList,e]; rfl
  have e1:xs[1]? = some (.str k2 t2,u2):=by rw [← Array.getElem?_toList,e]; rfl
  unfold KK at h01
  rw [e0,e1] at h01
  exact of_decide_eq_false h01
 rw [Array.toList_map]
 unfold pairOrd at ho
 rcases ksk_perm2 (Array.perm_iff_toList_perm.mp hp) with e | e
 · rw [if_neg (key _ _ _ _ _ _ e)] at ho
   exact gd_is ho λ_ ho=>e ▸ Option.some.inj ho
 · by_cases h:kb.cps.toList < ka.cps.toList
   · rw [if_pos h] at ho; exact e ▸ Option.some.inj ho
   · rw [if_neg h] at ho
     exact gd_is ho λh _=>absurd (of_decide_eq_true h) (key _ _ _ _ _ _ e)
noncomputable def KeyIs (Z:Zt) (A:Around) (w:GW) (f v:Value) (σ σ':H) (k:Str):Prop:=∀ (t:Shared) (w':GW),WLe w w'→Sim Z w' σ t.heap→wpAny Z.M A (call f [v]) (QV Z w' t σ' (.str k)) NoE t
theorem sort2_ok {f v1 v2:Value} {ka kb:Str} {out:List Value} (P0:Post Z w0 s0 σ w s) (o0:OwnL s0 w s a #[v1,v2] n) (hc1:KeyIs Z A w f v1 σ σ1 ka) (hc2:KeyIs Z A w f v2 σ1 σ2 kb) (ho:pairOrd ka kb v1 v2 = some out) {P:PySem.Fin→Shared→Prop}
 (h:∀ (w2:GW) (t:Shared) (xs:Array Value) (m:Nat),WLe w w2→Post Z w0 s0 σ2 w2 t→OwnL s0 w2 t a xs m→xs.toList = out→P (.done (.ret .none)) t):wpAny Z.M A (ksk_tree a f false) P NoE s:=by
 unfold ksk_tree
 refine wpAny_bind (o0.items (wpAny_bind (o0.upd P0 (by decide:2 ≤ 4000) (Nat.zero_le _) λs1 n1 P1 o1 _=>wpAny_bind (o1.epoch (wpAny_bind (tup_new P1.sim (by decide:2 ≤ 4000) λs2 _ Q2=>wpAny_bind (list_new (P1.trans Q2) (Nat.zero_le _) λs3 k Q3 ok hk=>wpAny_holding ?_)))))))
 have o3:=(o1.post Q2).post Q3
 have hka:k ≠ a:=λq=>no_so hk (q ▸ (o1.post Q2).g)
 have P3:=(P1.trans Q2).trans Q3
 unfold ksk_rest
 refine wpAny_bind (wpAny_rule ?_)
 rw [← Array.forIn_toList]
 show wpAny _ _ (forIn [v1,v2] _ _ >>= _) _ _ _
 rw [List.forIn_cons,bind_assoc,bind_assoc]
 refine wpAny_bind (wpAny_attempt (wpAny_mono (hc1 s3 w .refl P3.sim) (λk1 t1 q1=>q1.casesOn λw1 R1 hk1=>?_) λ_ _ e=>e.elim))
 cases hk1 with | mk ta=>?_
 refine wpAny_bind (wpAny_bind ((ok.post R1).upd (f:=(·.push (Value.str ka ta))) (P3.trans R1) (by decide:0 ≤ 4000) (by decide:1 ≤ 4000) λs4 n4 P4 o4 hs4=>wpAny_pure ?_))
 have oa4:=(o3.post R1).other hs4 hka
 dsimp only
 rw [List.forIn_cons,bind_assoc,bind_assoc]
 refine wpAny_bind (wpAny_attempt (wpAny_mono (hc2 s4 w1 R1.ext.le P4.sim) (λk2 t2 q2=>q2.casesOn λw2 R2 hk2=>?_) λ_ _ e=>e.elim))
 cases hk2 with | mk tb=>?_
 refine wpAny_bind (wpAny_bind ((o4.post R2).upd (f:=(·.push (Value.str kb tb))) (P4.trans R2) (by decide:1 ≤ 4000) (by decide:2 ≤ 4000) λs5 n5 P5 o5 hs5=>wpAny_pure ?_))
 have oa5:=(oa4.post R2).other hs5 hka
 dsimp only
 rw [List.forIn_nil,pure_bind]
 refine wpAny_bind (o5.items ?_)
 unfold ksk_end
 dsimp only
 rw [if_neg Bool.false_ne_true,if_neg Bool.false_ne_true,if_neg (show ¬ #[v1,v2].size < 2 from Nat.lt_irrefl 2),if_neg (show ¬ #[v1,v2].size < 2 from Nat.lt_irrefl 2)]
 have hz:(((#[]:Array Value).push (Value.str ka ta)).push (Value.str kb tb)).zip #[v1,v2] = #[(.str ka ta,v1),(.str kb tb,v2)]:=by simp
 rw [hz]
 have hkk:keyKind' #[.str ka ta,.str kb tb] = pure oneType':=keyKind_strs (.cons ka ta (.cons kb tb .nil))
 show wpAny _ _ (keyKind' #[.str ka ta,.str kb tb] >>= _) _ _ _
 rw [hkk]
 refine wpAny_bind (wpAny_pure (wpAny_bind (wpAny_mono (wpS_sortRunsK (κ:=PyProof.Rows.strKind) strKind_oneLt (a₀:=#[(.str ka ta,v1),(.str kb tb,v2)]) (st:=SortSt.mk' oneType' #[(.str ka ta,v1),(.str kb tb,v2)] #[] 7 none)
  (Q:=λ_ st'=>(arrOf st').Perm #[(.str ka ta,v1),(.str kb tb,v2)]∧failedOf st' = none∧SortedToK PyProof.Rows.strKind (arrOf st') 2)
  (λp hp=>?_) ⟨Array.Perm.refl _,rfl,rfl,rfl⟩ (by decide:2 ≤ 2) (by decide:2 < 64) λst' a1 a2 a3=>⟨a1,a2,a3⟩) ?_ λ_ _ e=>e)))
 · exact (List.mem_cons.mp hp).elim (λq=>⟨_,by rw [q]⟩) λq=>⟨_,by rw [List.mem_singleton.mp q]⟩
 rintro ⟨⟨⟩,st'⟩ s' ⟨rfl,hp,hf,hs⟩
 have hout:=order2 ho hp hs
 unfold ksk_tail
 refine wpAny_bind (o5.upd P5 (by decide:2 ≤ 4000) (Nat.zero_le _) λs6 n6 P6 o6 hs6=>wpAny_bind (wpAny_letGo ?_))
 have oa6:=oa5.other hs6 hka
 refine wpAny_bind (oa6.epoch (wpAny_bind (oa6.upd (f:=λ_=>(arrOf st').map (·.2)) P6 (Nat.zero_le _) (by rw [Array.size_map,hp.size_eq]; exact (by decide:2 ≤ 4000)) λs7 n7 P7 o7 _=>?_)))
 rw [hf,bne_self_eq_false]
 exact wpAny_pure (h w2 s7 _ n7 (R1.ext.le.trans R2.ext.le) P7 o7 hout)
end
section
variable {Z:Zt} {Y:Yt} {B:Blk} {A:Around} {Er:Value→Shared→Prop} {w w' w0 w1:GW} {s s' s0:Shared} {σ σ' σ1 σ2 σb:H} {v:V} {c:Value} {ρ ρ':Rho} {a k:Addr} {xs:Array Value} {n:Nat} {np pos kp knp:Pos}
theorem coll_list {vs:List Value} {Q:List Value→Shared→Prop} (X:Sim Z w σ s.heap) (g:s.heap.get? a = some (lstO vs.toArray n)) (z:vs.length ≤ 4000) (h:∀ s',Post Z w s σ w s'→Q vs s'):wpAny Z.M A (collect (.ref a)) Q Er s:=
 collect_list ⟨_,g,rfl,n,rfl⟩ (h _ ((Post.refl X).grow (t:=s.toks) λb o q=>by
  have hlt:=Nat.ne_of_lt (Heap.lt_size q)
  rw [Heap.get?_update_ne _ _ _ _ hlt,Heap.get?_push_ne _ _ _ hlt]
  exact q)) (le_line (Nat.le_trans z (by decide)))
theorem sorted_key_call {q:Addr} {v1 v2:Value} {ka kb:Str} {out:List Value} {lv:List V} (X:Sim Z w σ s.heap) (g:s.heap.get? a = some (lstO #[v1,v2] n)) (hc1:KeyIs Z A.in1.in1 w (.ref q) v1 σ σ1 ka) (hc2:KeyIs Z A.in1.in1 w (.ref q) v2 σ1 σ2 kb)
 (ho:pairOrd ka kb v1 v2 = some out) (hl:∀ w2,WLe w w2→VRs Z w2 lv out):wpAny Z.M A (call (.builtin "sorted") [.ref a] [("key",.ref q)]) (QF Z w s σ2 (.lst lv)) NoE s:=by
 refine call_function_entry_kw kind_sorted plain_sorted entry_sorted (ksk_s1 _ _) ?_
 unfold Builtin.«sorted»
 refine wpAny_bind (m:=checkCount "sorted" 1 1 _) (wpAny_pure (wpAny_bind (coll_list (vs:=[v1,v2]) X g (by decide:2 ≤ 4000) λs1 P1=>wpAny_bind (list_new P1 (by decide:2 ≤ 4000) λs2 k P2 o hk=>wpAny_bind (wpAny_holding (wpAny_call_entry_kw slot_list_sort ⟨_,o.g,rfl⟩ entry_list_sort ?_ (ksk_l1 _ _)))))))
 rw [ksk_t1]
 exact sort2_ok (P1.trans P2) o hc1 hc2 ho λw2 t xs m hle P o2 hxs=>⟨_,rfl,wpAny_pure ⟨_,rfl,.mk w2 k _ P o2.g o.new o2.pr (X.sysSome o.new) ⟨xs,m,hxs ▸ hl w2 hle⟩⟩⟩
theorem keyed_out {G:H→Prop} {a b:V} {ca cb:Value} {ka kb:Str} {lo:List V} (e:(if kb.cps.toList < ka.cps.toList then some ([b,a],σb) else gd (decide (ka.cps.toList < kb.cps.toList)) (some ([a,b],σb))) = some (lo,σ2)) (va:VR Z w a ca) (vb:VR Z w b cb)
 (k:∀ out,pairOrd ka kb ca cb = some out→(∀ w2,WLe w w2→VRs Z w2 lo out)→G σb):G σ2:=by
 unfold pairOrd at k
 by_cases h:kb.cps.toList < ka.cps.toList
 · rw [if_pos h] at e
   exact pr_is (M:=λlo σ2=>(∀ out,_ = some out→(∀ w2,WLe w w2→VRs Z w2 lo out)→G σb)→G σ2) e (λk=>k _ (if_pos h) λw2 hle=>.cons (vb.le hle) (.cons (va.le hle) .nil)) k
 · rw [if_neg h] at e
   exact gd_is e λh2 e=>pr_is (M:=λlo σ2=>(∀ out,_ = some out→(∀ w2,WLe w w2→VRs Z w2 lo out)→G σb)→G σ2) e (λk=>k _ ((if_neg h).trans (by rw [h2]; rfl)) λw2 hle=>.cons (va.le hle) (.cons (vb.le hle) .nil)) k
theorem sortK_arm {f:Nat} {a:E} {pa:Expr} {d:Nat} (W:Wld Z) (K:BlkOK B) (R2:Room Y.A.in1.in1 d) (hC:CallOK Z Y.C d) (hb:nsIn Z.I.K mainGlobals ("sorted":Str) = some none) (hk:B.sc.lookup ("sorted":Str) = some .globalImplicit)
 (hf:fnOk Z.I f = true) (hkf:B.sc.lookup (Z.I.name f) = some .globalImplicit) (hd:(Z.I.name f == ("__debug__":Str)) = false) (hp:plainPE pa = true) (ha:XOK Z Y B a pa) :
 EOK Z Y B (.sortK f a) (.Call (.Name ("sorted":Str) np) [pa] [⟨some ("key":Str),.Name (Z.I.name f) knp,kp⟩] pos):=λρ σ v σ' w s X e=>
 an2 hf λhf1 _=>b2_is e λx σ1 e1 e=>by
  rw [arm_eval_Call_Name']
  refine wpAny_bind (built_name W K X hk hb (c:=.builtin "sorted") (by kernel_rfl) (by decide) (by decide) (callWith_kw ?_ (by rw [star_plain hp]; rfl) (by rw [star_plain hp]; rfl) rfl rfl))
  rw [star_plain hp]
  exact PySem.Calls.spliced_cons (ha.go X e1 λcx w1 s1 P1 X1 hx=>PySem.Calls.spliced_nil (kws_cons (glob_name W K X1 hkf (eq_of_beq hf1) hd (kws_nil (oLst_is (M:=λy=>RD Z w1 s1.heap y cx→wpAny Z.M Y.A (call (.builtin "sorted") [cx] [("key",.ref (Z.I.addr f))]) (QX Z w s σ' v) NoE s1) e
   (λl e rd=>b2_is e λlo σ2 e2 e=>pr_is (M:=λv σ'=>wpAny Z.M Y.A _ (QX Z w s σ' v) NoE s1) e (o2_is (M:=λl=>SeqR lstO s1.heap.get? (VRs Z w1 l) cx→wpAny Z.M Y.A (call (.builtin "sorted") [cx] [("key",.ref (Z.I.addr f))]) (QF Z w s σ2 (.lst lo)) NoE s1) e2 (λa b e2 rd=>
    b2_is e2 λx1 σa ea e2=>oStr_is (M:=λx1=>Y.C f [a] σ1 = some (x1,σa)→_) e2 (λka e2 ea=>b2_is e2 λy1 σb eb e2=>oStr_is (M:=λy1=>Y.C f [b] σa = some (y1,σb)→_) e2 (λkb e2 eb=>
     SeqR.casesOn (motive:=λcx _=>wpAny Z.M Y.A (call (.builtin "sorted") [cx] [("key",.ref (Z.I.addr f))]) (QF Z w s σ2 (.lst lo)) NoE s1) rd λad xs n g rr=>two_arr (M:=λxs=>s1.heap.get? ad = some (lstO xs n)→wpAny Z.M Y.A (call (.builtin "sorted") [.ref ad] _) (QF Z w s σ2 (.lst lo)) NoE s1) rr (λca cb va vb g=>
      keyed_out (G:=λσ2=>wpAny Z.M Y.A (call (.builtin "sorted") [.ref ad] _) (QF Z w s σ2 (.lst lo)) NoE s1) e2 va vb λout ho hl=>wpV (sorted_key_call X1.sim g (λt w' hle X'=>hC f [a] σ1 (.str ka) σa ea Y.A.in1.in1 w' t [ca] R2 X' (.cons (va.le hle) .nil)) (λt w' hle X'=>hC f [b] σa (.str kb) σb eb Y.A.in1.in1 w' t [cb] R2 X' (.cons (vb.le hle) .nil)) ho hl) λc s2 q=>QF.trans P1 q) g) eb) ea) rd))
   (RD.of_VB X1.sim hx))))))
theorem dictOp_ok {a z:V} (hh:A.handled = none) (X:Sim Z w σ s.heap) (e:dictOp a = some z) (hx:RD Z w s.heap a c):wpAny Z.M A (call (.type "dict") [c]) (QX Z w s σ z) NoE s:=by
 cases a with
 | lst l=>exact dict_call hh X hx e
 | dct ks vs=>exact gd_is e λh e=>some_is (M:=λz=>wpAny Z.M A _ (QX Z w s σ z) NoE s) e (dictDct_ok X hx (Nat.le_of_ble_eq_true h))
 | _=>exact nn e
theorem dict_arm {es:List E} {pes:List Expr} (W:Wld Z) (K:BlkOK B) (hh:Y.A.handled = none) (hb:biOk Z.I .dict = true) (hk:B.sc.lookup (biV .dict).1 = some .globalImplicit) (hp:plainPEs pes = true) (h:AllOK Z Y B es pes) :
 EOK Z Y B (.bi .dict es) (.Call (.Name (biV .dict).1 np) pes [] pos):=λρ σ v σ' w s X e=>
 b2_is e λl σ1 e1 e=>wS_is (M:=λv σ'=>wpAny Z.M Y.A _ (QX Z w s σ' v) NoE s) e λz e3=>bi_call W K X hb hk hp (wpT (xs_arm hp h pos ρ σ l σ1 w s X e1) λcs s1 q=>q.casesOn λw1 P1 hl=>
  o1_is (M:=λl=>RDs Z w1 s1.heap l cs→wpAny Z.M Y.A (call (.type "dict") cs) (QX Z w s σ1 z) NoE s1) (e3:o1 _ dictOp = some z) (λa e3 r=>r.one λc hc=>wpV (dictOp_ok hh P1.sim e3 hc) λ_ _=>QX.trans P1) hl)
theorem str_ext {a b:Str} (h:a.cps.toList = b.cps.toList):a = b:=match a,b,h with
 | ⟨a⟩,⟨b⟩,h=>congrArg Str.mk (Array.toList_inj.mp h)
theorem sort2_out {a b:Str} {v1 v2:Value} (h:a ≠ b) (M:List Str→List Value→Prop) (m1:M [a,b] [v1,v2]) (m2:M [b,a] [v2,v1]):∃ out,pairOrd a b v1 v2 = some out∧M (sort2 a b) out:=by
 unfold pairOrd sort2
 by_cases h1:b.cps.toList < a.cps.toList
 · rw [if_pos h1,if_pos h1]; exact ⟨_,rfl,m2⟩
 · rw [if_neg h1,if_neg h1,decide_eq_true (Classical.byContradiction λh2=>h (str_ext (List.le_antisymm (List.not_lt.mp h1) (List.not_lt.mp h2))))]; exact ⟨_,rfl,m1⟩
theorem sorted_out {vs:List Value} {ks ls:List Str} (hS:StrsAre vs ks) (hnd:ks.Nodup) (e:sortKs ks = some ls) {xs:Array Keyed} (hp:xs.Perm (pairsOf vs)) (hs:SortedToK PyProof.Rows.strKind xs (pairsOf vs).size):VRs Z w (ls.map .str) (xs.map (·.2)).toList:=by
 have hl:xs.toList.Perm (vs.zip vs):=pairsOf_toList vs ▸ Array.perm_iff_toList_perm.mp hp
 cases hS with
 | nil=>rw [Array.toList_map,hl.eq_nil]; exact some_is e .nil
 | cons a ta h=>
  cases h with
  | nil=>rw [Array.toList_map,List.perm_singleton.mp hl]; exact some_is e (.cons ⟨ta⟩ .nil)
  | cons b tb h=>
   cases h with
   | nil=>
    have e2:pairsOf [Value.str a ta,.str b tb] = #[(.str a ta,.str a ta),(.str b tb,.str b tb)]:=Array.toList_inj.mp (pairsOf_toList _)
    rw [e2] at hp hs
    exact (sort2_out (v1:=.str a ta) (v2:=.str b tb) (λq=>(List.nodup_cons.mp hnd).1 (by rw [q]; exact List.mem_cons_self)) (λl out=>VRs Z w (l.map .str) out) (.cons ⟨ta⟩ (.cons ⟨tb⟩ .nil)) (.cons ⟨tb⟩ (.cons ⟨ta⟩ .nil))).elim λout q=>some_is (M:=λl:List Str=>VRs Z w (l.map .str) _) e (order2 q.1 hp hs ▸ q.2)
   | cons c tc h=>exact nn e
theorem sortKs_len {ks ls:List Str} (e:sortKs ks = some ls):ks.length ≤ 2:=match ks,e with
 | [],_=>Nat.zero_le _
 | [_],_=>Nat.le_succ 1
 | [_,_],_=>Nat.le_refl 2
 | _ :: _ :: _ :: _,e=>nn e
theorem strs_at:∀ (vs:List Value) (ks:List (Str×Value)),vs.length = ks.length→(∀ (j:Nat) (v:Value),vs[j]? = some v→∃ k x,ks[j]? = some (k,x)∧Z.knd.is k v = true)→StrsAre vs (ks.map (·.1))
 | [],[],_,_=>.nil
 | [],_ :: _,h,_=>nomatch h
 | _ :: _,[],h,_=>nomatch h
 | v :: vs,p :: ks,hl,hat=>(hat 0 v rfl).elim λk q=>q.elim λx q=>(Value.isStrOf_shape q.2).elim λt ht=>(ht ▸ some_is (M:=λq:Str×Value=>StrsAre (.str k t :: vs) (k :: ks.map (·.1))→StrsAre (.str k t :: vs) (p.1 :: ks.map (·.1))) q.1 (λh=>congrArg Prod.fst (Option.some.inj q.1) ▸ h) (.cons k t (strs_at vs ks (Nat.succ.inj hl) λj u hu=>hat (j + 1) u hu)))
theorem sorted_dict_call {d:Addr} {kvs:List (Str×Value)} {ls:List Str} (hh:A.handled = none) (X:Sim Z w σ s.heap) (lo:(d == sysModules) = false) (hd:s.heap.DictOf Z.knd d kvs) (hs:sortKs (kvs.map (·.1)) = some ls) :
 wpAny Z.M A (call (.builtin "sorted") [.ref d]) (QF Z w s σ (.lst (ls.map .str))) NoE s:=by
 have hlen:kvs.length ≤ 2:=by rw [← List.length_map (f:=(·.1))]; exact sortKs_len hs
 have hnd:(kvs.map (·.1)).Nodup:=let ⟨_,_,_,_,_,_,_,_,h⟩:=hd; h
 obtain ⟨ep,hat⟩:=hd.dictAt
 refine call_function_entry kind_sorted plain_sorted entry_sorted (args_sorted1 _) ?_
 unfold Builtin.«sorted»
 refine wpAny_bind (m:=checkCount "sorted" 1 1 _) (wpAny_pure (wpAny_bind (kdu_collect (A:=A.in1) (kdl_dict (knd:=Z.knd) (kvs:=kvs) (ep:=ep) lo) hh hat (le_line (by omega)) λh' tk acc hk hacc=>?_)))
 have hl:acc.toList.length = kvs.length:=Array.length_toList.trans hacc.1
 have hS:StrsAre acc.toList (kvs.map (·.1)):=strs_at (Z:=Z) _ _ hl λj v e=>hacc.2 j v (Array.getElem?_toList.symm.trans e)
 have P0:Post Z w s σ w { s with heap:=h',toks:=tk }:=(Post.refl X).grow (t:=tk) hk
 refine wpAny_bind (list_new P0 (by omega) λs1 k P1 o _=>wpAny_bind (wpAny_holding (wpAny_call_entry slot_list_sort ⟨_,o.g,rfl⟩ entry_list_sort (list_sort_treeK (κ:=PyProof.Rows.strKind) strKind_oneLt o.g hS.keysOf (λv₁ v₂ rest e=>keyKind_strs (e ▸ hS)) (by omega) λst' hp hs'=>⟨_,rfl,wpAny_pure ⟨_,rfl,?_⟩⟩) (args_list_sort _))))
 exact (sortedHeap_at (out:=(arrOf st').map (·.2)) o.g).elim λe g=>.mk w k _ ((P0.trans P1).touches (wr:=[k]) (t:=s1.toks) (λb hb=>List.mem_singleton.mp hb ▸ ⟨o.new,o.pr⟩) λb q hb e=>(sortedHeap_old (λz=>hb (List.mem_singleton.mpr z)) (Heap.lt_size e)).trans e) g o.new o.pr (X.sysSome o.new) ⟨_,e,sorted_out hS hnd hs hp hs'⟩
theorem sorted_arm {es:List E} {pes:List Expr} (W:Wld Z) (K:BlkOK B) (hh:Y.A.handled = none) (hb:biOk Z.I .sorted = true) (hk:B.sc.lookup (biV .sorted).1 = some .globalImplicit) (hp:plainPEs pes = true) (h:AllOK Z Y B es pes) :
 EOK Z Y B (.bi .sorted es) (.Call (.Name (biV .sorted).1 np) pes [] pos):=λρ σ v σ' w s X e=>
 b2_is e λl σ1 e1 e=>wS_is (M:=λv σ'=>wpAny Z.M Y.A _ (QX Z w s σ' v) NoE s) e λz e3=>bi_call W K X hb hk hp (wpT (xs_arm hp h pos ρ σ l σ1 w s X e1) λcs s1 q=>q.casesOn λw1 P1 hl=>
  o1_is (M:=λl=>RDs Z w1 s1.heap l cs→wpAny Z.M Y.A (call (.builtin "sorted") cs) (QX Z w s σ1 z) NoE s1) (e3:o1 _ (λa=>oDct a λks _=>b1 (sortKs ks) λl=>some (.lst (l.map .str))) = some z) (λa e3 r=>r.one λc hc=>
   oDct_is (M:=λa=>RD Z w1 s1.heap a c→wpAny Z.M Y.A (call (.builtin "sorted") [c]) (QX Z w s σ1 z) NoE s1) e3 (λks vs e3 hc=>b1_is e3 λls hs e3=>some_is (M:=λz=>wpAny Z.M Y.A _ (QX Z w s σ1 z) NoE s1) e3 (DctR.casesOn (motive:=λc _=>wpAny Z.M Y.A (call (.builtin "sorted") [c]) (QF Z w s σ1 (.lst (ls.map .str))) NoE s1) hc λa o g hn q=>q.casesOn λkvs D hk _=>
    wpV (sorted_dict_call hh P1.sim (beq_eq_false_iff_ne.mpr hn) (Heap.dictOf_iff.mpr ⟨o,g,D⟩) (hk ▸ hs)) λ_ _ q=>QF.trans P1 q)) hc) hl)
end
section
variable {Z:Zt} {Y:Yt} {B:Blk} {A:Around} {E:Value→Shared→Prop} {w w' w0:GW} {s s':Shared} {σ σ':H} {c:Value} {h h' h1:Heap}
theorem nextOf_tuple {it t:Addr} {i:Nat} {items:Array Value} {Q:Value→Shared→Prop} (hh:A.handled = none) (hit:s.heap.IsTupleIter it t i) (ht:s.heap.IsTuple t items)
 (hQ:∀ x h',items[i]? = some x→h'.IsTupleIter it t (i + 1)→Heap.SameBut it s.heap h'→Q x { s with heap:=h' })
 (hE:∀ h' e,items[i]? = none→Heap.ExtBut it s.heap h'→(∃ o,h'.get? e = some o∧o.cls = .type "StopIteration")→E (.ref e) { s with heap:=h' }):wpAny Z.M A (Builtin.SmallTypes.nextOf (.ref it)) Q E s:=by
 obtain ⟨o,ho,hc,hd⟩:=id hit
 obtain ⟨ol,hol,_,nl,hdl⟩:=ht
 unfold Builtin.SmallTypes.nextOf
 refine wpAny_bind (wpAny_callSpecial?_slot (name:=Str.ofString "__next__") hit.typeIs F.slot_tuple_iterator_next
  (wpAny_call_entry F.slot_tuple_iterator_next hit.typeIs F.entry_tuple_iterator_next ?_ (F.args_tuple_iterator_next_1 _)))
 show wpAny _ _ (field (.ref it) 0 >>= _) _ _ s
 refine wpAny_bind (wpAny_field ho hd (x:=.ref t) rfl ?_)
 show wpAny _ _ (if (Value.ref t == Value.none) = true then _ else _) _ _ s
 rw [if_neg (show ¬ ((Value.ref t == Value.none) = true) from Bool.false_ne_true)]
 show wpAny _ _ (field (.ref it) 1 >>= _) _ _ s
 refine wpAny_bind (wpAny_field ho hd (x:=.int i 0) rfl ?_)
 show wpAny _ _ (seqItems? (.ref t) >>= _) _ _ s
 refine wpAny_bind (wpAny_seqItems hol hdl ?_)
 cases hx:items[i]? with
 | some x=>
  simp only [Int.toNat_natCast,hx]
  refine wpAny_bind (wpAny_setField ho hd (by simp) (wpAny_pure ⟨x,rfl,wpAny_pure (hQ x _ hx ?_ (Heap.SameBut.update ..))⟩))
  exact ⟨_,Heap.get?_update_self _ ho (Obj.isFreed_of_fields (Obj.data_mapFields hd _)),(Obj.cls_mapFields ..).trans hc,by
   rw [Obj.data_mapFields hd]; simp [rawInt]⟩
 | none=>
  simp only [Int.toNat_natCast,hx]
  refine wpAny_bind (wpAny_rule (wpAny_bind (wpAny_setField ho hd (by simp) ?_)))
  show wpAny _ _ (newExc (.type "StopIteration") [] >>= _) _ _ _
  refine wpAny_bind ?_
  unfold newExc newTuple
  refine wpAny_bind (wpAny_newObj_type ?_ (by size_fits))
  refine wpAny_bind (m:=firstArgMember _ _) (wpAny_of_eq (a:=Value.none) (by first | rfl | (simp only [firstArgMember]; rfl)) ?_)
  refine wpAny_newObj_type ?_ (by size_fits)
  unfold raiseNew
  refine wpAny_bind (wpAny_handled ?_)
  first | rw [show A.in1.handled = none from hh] | rw [hh]
  refine wpAny_bind (wpAny_pure (wpAny_throw ?_))
  exact hE _ _ hx (((Heap.SameBut.update ..).extBut.push _).push _) ⟨_,Heap.get?_push_size _ rfl,rfl⟩
noncomputable def SqS (ty:Bool) (it l:Addr) (xs:Array Value) (i:Nat) (h:Heap):Prop:=cond ty (h.IsListIter it l i∧h.IsList l xs) (h.IsTupleIter it l i∧h.IsTuple l xs)
noncomputable def SqSrc (ty:Bool) (l:Addr) (xs:Array Value) (h:Heap):Prop:=cond ty (h.IsList l xs) (h.IsTuple l xs)
noncomputable def itObj (ty:Bool) (l:Addr):Obj:={ cls:=.type (cond ty "list_iterator" "tuple_iterator"),data:=.fields #[.ref l,.int 0 0] }
variable {ty t1 t2:Bool} {it l:Addr} {xs ys:Array Value} {i:Nat}
theorem SqS.keep (S:SqS ty it l xs i h) (k1:∀ o,h.get? it = some o→h'.get? it = some o) (k2:∀ o,h.get? l = some o→h'.get? l = some o):SqS ty it l xs i h':=match ty,S with
 | true,⟨⟨o,ho,r⟩,o',ho',r'⟩=>⟨⟨o,k1 _ ho,r⟩,o',k2 _ ho',r'⟩
 | false,⟨⟨o,ho,r⟩,o',ho',r'⟩=>⟨⟨o,k1 _ ho,r⟩,o',k2 _ ho',r'⟩
theorem SqS.there (S:SqS ty it l xs i h):(∃ o,h.get? it = some o)∧∃ o,h.get? l = some o:=match ty,S with
 | true,⟨⟨o,ho,_⟩,o',ho',_⟩=>⟨⟨o,ho⟩,o',ho'⟩
 | false,⟨⟨o,ho,_⟩,o',ho',_⟩=>⟨⟨o,ho⟩,o',ho'⟩
theorem SqS.next {Q:Value→Shared→Prop} (S:SqS ty it l xs i s.heap) (hh:A.handled = none) (hne:l ≠ it) (hQ:∀ x h',xs[i]? = some x→SqS ty it l xs (i + 1) h'→Heap.SameBut it s.heap h'→Q x { s with heap:=h' })
 (hE:∀ h' e,xs[i]? = none→Heap.ExtBut it s.heap h'→(∃ o,h'.get? e = some o∧o.cls = .type "StopIteration")→E (.ref e) { s with heap:=h' }):wpAny Z.M A (Builtin.SmallTypes.nextOf (.ref it)) Q E s:=match ty,S,hQ with
 | false,⟨S1,S2⟩,hQ=>nextOf_tuple hh S1 S2 (λx h' hx h1 hs=>hQ x h' hx ⟨h1,S2.elim λo q=>⟨o,(hs.2 l hne).trans q.1,q.2⟩⟩ hs) hE
 | true,⟨S1,S2⟩,hQ=>match hx:xs[i]? with
  | some x=>wpAny_nextOf_list_item S1 S2 hx λh' h1 hs=>hQ x h' hx ⟨h1,S2.elim λo q=>⟨o,(hs.2 l hne).trans q.1,q.2⟩⟩ hs
  | none=>wpAny_nextOf_list_end hh S1 S2 hx λh' e=>hE h' e hx
theorem SqSrc.keep (S:SqSrc ty l xs h) (k:∀ o,h.get? l = some o→h'.get? l = some o):SqSrc ty l xs h':=match ty,S with
 | true,⟨o,ho,r⟩=>⟨o,k _ ho,r⟩
 | false,⟨o,ho,r⟩=>⟨o,k _ ho,r⟩
theorem SqSrc.begin (S:SqSrc ty l xs h) (g:h.get? it = some (itObj ty l)):SqS ty it l xs 0 h:=match ty,S,g with
 | true,S,g=>⟨⟨_,g,rfl,rfl⟩,S⟩
 | false,S,g=>⟨⟨_,g,rfl,rfl⟩,S⟩
theorem SqSrc.iter {Q:Value→Shared→Prop} {pg:Program} {wd:World} (S:SqSrc ty l xs s.heap) (h:Q (.ref s.heap.objs.size) { s with heap:=s.heap.push (itObj ty l) }):wpAny (model pg wd) A (pyIter (.ref l)) Q E s:=match ty,S,h with
 | false,S,h=>wpAny_pyIter_tuple S h
 | true,S,h=>wpAny_pyIter_list S h
structure ZI (t1 t2:Bool) (z TI TO i1 i2 l1 l2:Addr) (xs ys:Array Value) (h:Heap) (t a b:Value) (k1 k2:Nat):Prop where
 z:IsZip h z TI TO t
 TI:IsPair h TI (.ref i1) (.ref i2)
 TO:IsPair h TO a b
 s1:SqS t1 i1 l1 xs k1 h
 s2:SqS t2 i2 l2 ys k2 h
variable {z TI TO i1 i2 l1 l2:Addr} {t t' a b a' b':Value} {k1 k2 k:Nat}
theorem ZI.setZ (D:ZipApart z TI TO i1 i2 l1 l2) (I:ZI t1 t2 z TI TO i1 i2 l1 l2 xs ys h t a b k1 k2) (hs:Heap.ExtBut z h h') (hz:IsZip h' z TI TO t'):ZI t1 t2 z TI TO i1 i2 l1 l2 xs ys h' t' a b k1 k2:=
 ⟨hz,hs _ _ D.TIz I.TI,hs _ _ D.TOz I.TO,I.s1.keep (λo=>hs _ o D.i1z) λo=>hs _ o D.l1z,I.s2.keep (λo=>hs _ o D.i2z) λo=>hs _ o D.l2z⟩
theorem ZI.setO (D:ZipApart z TI TO i1 i2 l1 l2) (I:ZI t1 t2 z TI TO i1 i2 l1 l2 xs ys h t a b k1 k2) (hs:Heap.SameBut TO h h') (hT:IsPair h' TO a' b'):ZI t1 t2 z TI TO i1 i2 l1 l2 xs ys h' t a' b' k1 k2:=
 ⟨hs.extBut _ _ D.TOz.symm I.z,hs.extBut _ _ D.TITO I.TI,hT,I.s1.keep (λo=>hs.extBut _ o D.TOi1.symm) λo=>hs.extBut _ o D.l1TO,I.s2.keep (λo=>hs.extBut _ o D.TOi2.symm) λo=>hs.extBut _ o D.l2TO⟩
theorem ZI.set1 (D:ZipApart z TI TO i1 i2 l1 l2) (I:ZI t1 t2 z TI TO i1 i2 l1 l2 xs ys h t a b k1 k2) (hs:Heap.SameBut i1 h h') (h1:SqS t1 i1 l1 xs k h'):ZI t1 t2 z TI TO i1 i2 l1 l2 xs ys h' t a b k k2:=
 ⟨hs.extBut _ _ D.i1z.symm I.z,hs.extBut _ _ D.TIi1 I.TI,hs.extBut _ _ D.TOi1 I.TO,h1,I.s2.keep (λo=>hs.extBut _ o D.i12.symm) λo=>hs.extBut _ o D.l2i1⟩
theorem ZI.set2 (D:ZipApart z TI TO i1 i2 l1 l2) (I:ZI t1 t2 z TI TO i1 i2 l1 l2 xs ys h t a b k1 k2) (hs:Heap.SameBut i2 h h') (h2:SqS t2 i2 l2 ys k h'):ZI t1 t2 z TI TO i1 i2 l1 l2 xs ys h' t a b k1 k:=
 ⟨hs.extBut _ _ D.i2z.symm I.z,hs.extBut _ _ D.TIi2 I.TI,hs.extBut _ _ D.TOi2 I.TO,I.s1.keep (λo=>hs.extBut _ o D.i12) λo=>hs.extBut _ o D.l1i2,h2⟩
noncomputable def KeptH (wr:List Addr) (h h':Heap):Prop:=∀ b o,b ∉ wr→h.get? b = some o→h'.get? b = some o
theorem KeptH.but {wr:List Addr} {x:Addr} (K:KeptH wr h h1) (hs:Heap.ExtBut x h1 h') (hx:x ∈ wr):KeptH wr h h':=λb o hb e=>hs b o (λq=>hb (q ▸ hx)) (K b o hb e)
theorem m1 {a:Addr} {l:List Addr}:a ∈ a :: l:=List.mem_cons_self
theorem m2 {a b:Addr} {l:List Addr}:b ∈ a :: b :: l:=List.mem_cons_of_mem _ m1
theorem m3 {a b c:Addr} {l:List Addr}:c ∈ a :: b :: c :: l:=List.mem_cons_of_mem _ m2
theorem m4 {a b c d:Addr} {l:List Addr}:d ∈ a :: b :: c :: d :: l:=List.mem_cons_of_mem _ m3
theorem zip_next {Q:Value→Shared→Prop} (hh:A.handled = none) (D:ZipApart z TI TO i1 i2 l1 l2) (I:ZI t1 t2 z TI TO i1 i2 l1 l2 xs ys s.heap .none a b k k)
 (hQ:∀ x y h' T,xs[k]? = some x→ys[k]? = some y→s.heap.get? T = none→ZI t1 t2 z TI TO i1 i2 l1 l2 xs ys h' (rawInt T) x y (k + 1) (k + 1)→IsPair h' T x y→KeptH [z,TO,i1,i2] s.heap h'→Q (.ref T) { s with heap:=h' })
 (hE:∀ h' e,xs[k]? = none∨ys[k]? = none→KeptH [z,TO,i1,i2] s.heap h'→(∃ o,h'.get? e = some o∧o.cls = .type "StopIteration")→E (.ref e) { s with heap:=h' }) :
 wpAny Z.M A (Builtin.«zip.__next__» ⟨[.ref z],[]⟩) (λfin s'=>∃ v,fin = .done (.ret v)∧Q v s') E s:=by
 show wpAny _ _ (field (.ref z) 2 >>= _) _ _ _
 refine wpAny_bind (wpAny_field I.z rfl (x:=.bool false) rfl ?_)
 show wpAny _ _ (field (.ref z) 3 >>= _) _ _ _
 refine wpAny_bind (wpAny_field I.z rfl (x:=.ref TI) rfl (wpAny_bind (wpAny_seqItems I.TI rfl ?_)))
 show wpAny _ _ (Builtin.SmallTypes.ownedTupleIsFree (.ref z) >>= _) _ _ _
 refine wpAny_bind ?_
 unfold Builtin.SmallTypes.ownedTupleIsFree
 refine wpAny_bind (wpAny_field I.z rfl (x:=.none) rfl (wpAny_pure (wpAny_bind (wpAny_rule (wpAny_bind (wpAny_field I.z rfl (x:=.ref TO) rfl (wpAny_bind (wpAny_setField_rec I.z (by simp) λh₁ hz₁ hs₁=>wpAny_bind ?_))))))))
 have I₁:=I.setZ (t':=.ellipsis) D hs₁.extBut hz₁
 have K₁:KeptH [z,TO,i1,i2] s.heap h₁:=KeptH.but (λ_ _ _ e=>e) hs₁.extBut m1
 have fin:∀ (h₂:Heap) (e:Addr),xs[k]? = none∨ys[k]? = none→KeptH [z,TO,i1,i2] s.heap h₂→IsZip h₂ z TI TO .ellipsis→(∃ o,h₂.get? e = some o∧o.cls = .type "StopIteration")→wpAny Z.M A (setField (.ref z) 0 .none) (λ_ s'=>E (.ref e) s') E { s with heap:=h₂ }:=λh₂ e hx K hz ⟨o,ho,hc⟩=>
  wpAny_setField_rec hz (by simp) λh₃ _ hs₃=>hE h₃ e hx (K.but hs₃.extBut m1) ⟨o,hs₃.extBut _ _ (λq=>absurd (Value.type.inj (hc.symm.trans (congrArg Obj.cls (some_eq (q ▸ ho) hz)))) (by decide)) ho,hc⟩
 simp only [List.zipIdx_cons,List.zipIdx_nil,List.forIn_cons,List.forIn_nil]
 refine wpAny_bind (wpAny_bind (wpAny_onRaise ?_))
 show wpAny _ _ (Builtin.SmallTypes.nextOf (.ref i1) >>= _) _ _ _
 refine wpAny_bind (I₁.s1.next (s:={ s with heap:=h₁ }) hh D.l1i1 (λx h₂ hx q₂ hs₂=>wpAny_pure ?_) λh₂ e hx hs₂ he=>fin h₂ e (.inl hx) (K₁.but hs₂ m3) (hs₂ _ _ D.i1z.symm I₁.z) he)
 have I₂:=I₁.set1 D hs₂ q₂
 refine wpAny_bind (wpAny_seqItems I₂.TO rfl (wpAny_bind (wpAny_updateSeq_pair I₂.TO λh₃ T₃ hs₃=>wpAny_bind (wpAny_letGo (wpAny_pure (wpAny_bind (wpAny_bind (wpAny_onRaise ?_))))))))
 have I₃:=I₂.setO (a':=x) (b':=b) D hs₃ T₃
 have K₃:=(K₁.but hs₂.extBut m3).but hs₃.extBut m2
 show wpAny _ _ (Builtin.SmallTypes.nextOf (.ref i2) >>= _) _ _ _
 refine wpAny_bind (I₃.s2.next (s:={ s with heap:=h₃ }) hh D.l2i2 (λy h₄ hy q₄ hs₄=>wpAny_pure ?_) λh₄ e hy hs₄ he=>fin h₄ e (.inr hy) (K₃.but hs₄ m4) (hs₄ _ _ D.i2z.symm I₃.z) he)
 have I₄:=I₃.set2 D hs₄ q₄
 refine wpAny_bind (wpAny_seqItems I₄.TO rfl (wpAny_bind (wpAny_updateSeq_pair I₄.TO λh₅ T₅ hs₅=>wpAny_bind (wpAny_letGo (wpAny_pure (wpAny_pure ?_))))))
 have I₅:=I₄.setO (a':=x) (b':=y) D hs₅ T₅
 have K₅:=(K₃.but hs₄.extBut m4).but hs₅.extBut m2
 refine wpAny_bind (wpAny_seqItems I₅.TO rfl (wpAny_bind (wpAny_newTuple ?_)))
 have hsz:h₅.objs.size = s.heap.objs.size:=hs₅.1.trans (hs₄.1.trans (hs₃.1.trans (hs₂.1.trans hs₁.1)))
 show wpAny _ _ (Builtin.SmallTypes.ownedTupleHandOut (.ref z) (.ref h₅.objs.size) >>= _) _ _ _
 refine wpAny_bind ?_
 unfold Builtin.SmallTypes.ownedTupleHandOut
 have P:KeptH [z] h₅ (h₅.push { cls:=.type "tuple",data:=.seq #[x,y] }):=λb o _ e=>Heap.get?_push_of_some _ e
 refine wpAny_bind (wpAny_setField_rec (Heap.get?_push_of_some _ I₅.z) (by simp) λh₇ hz₇ hs₇=>wpAny_setField_rec hz₇ (by simp) λh₈ hz₈ hs₈=>wpAny_pure ⟨_,rfl,?_⟩)
 have P8:=(P.but hs₇.extBut m1).but hs₈.extBut m1
 have hzlt:h₅.objs.size ≠ z:=λq=>no_so (get_top h₅) (q ▸ I₅.z)
 exact hQ x y h₈ h₅.objs.size hx hy (hsz ▸ get_top s.heap) (I₅.setZ D (λb o hb=>P8 b o λq=>hb (List.mem_singleton.mp q)) hz₈) (hs₈.extBut _ _ hzlt (hs₇.extBut _ _ hzlt (Heap.get?_push_size _ rfl))) λb o hb e=>P8 b o (λq=>hb (List.mem_singleton.mp q ▸ m1)) (K₅ b o hb e)
end
noncomputable abbrev zH1 (t1:Bool) (h:Heap) (l1:Addr):Heap:=h.push (itObj t1 l1)
noncomputable abbrev zH2 (t1 t2:Bool) (h:Heap) (l1 l2:Addr):Heap:=(zH1 t1 h l1).push (itObj t2 l2)
noncomputable abbrev zH3 (t1 t2:Bool) (h:Heap) (l1 l2:Addr):Heap:=(zH2 t1 t2 h l1 l2).push { cls:=.type "tuple",data:=.seq #[.ref h.objs.size,.ref (zH1 t1 h l1).objs.size] }
noncomputable abbrev zH4 (t1 t2:Bool) (h:Heap) (l1 l2:Addr):Heap:=(zH3 t1 t2 h l1 l2).push { cls:=.type "tuple",data:=.seq #[.none,.none] }
noncomputable abbrev zH5 (t1 t2:Bool) (h:Heap) (l1 l2:Addr):Heap:=(zH4 t1 t2 h l1 l2).push { cls:=.type "zip",data:=.fields #[.none,.bool false,.bool false,.ref (zH2 t1 t2 h l1 l2).objs.size,.ref (zH3 t1 t2 h l1 l2).objs.size] }
theorem meets_zip (t1 t2:Bool) (l1 l2:Addr) (xs ys:Array Value) :
 Meets (Builtin.«zip.__new__» ⟨[.type "zip",.ref l1,.ref l2],[]⟩) (λ_ R s=>SqSrc t1 l1 xs s.heap∧SqSrc t2 l2 ys s.heap∧
  R (.ok (.ret (.ref (zH4 t1 t2 s.heap l1 l2).objs.size))) { s with heap:=zH5 t1 t2 s.heap l1 l2 }):=
 .of_wp λprog w A R s h=>by
  obtain ⟨hp,g,d,tk,os⟩:=s; obtain ⟨hl1,hl2,h⟩:=h
  have hsub:=sub_zip
  have hL1:SqSrc t1 l1 xs (Shared.heap ⟨hp,g,d,tk,os⟩):=hl1
  have hL2:SqSrc t2 l2 ys (Shared.heap ⟨hp.push (itObj t1 l1),g,d,tk,os⟩):=hl2.keep λo e=>Heap.get?_push_of_some _ e
  wp_walk using SqSrc.iter hL1,SqSrc.iter hL2
  exact ⟨_,rfl,h⟩
section
variable {Z:Zt} {Y:Yt} {B:Blk} {A:Around} {E:Value→Shared→Prop} {w w' w0:GW} {s s':Shared} {σ σ':H} {c:Value} {h h':Heap} {t1 t2:Bool} {xs ys:Array Value} {i k:Nat} {z TI TO i1 i2 l1 l2:Addr} {l m:List V} {pos np tp:Pos} {elts:List Expr}
theorem zip_call {Q:Value→Shared→Prop} (hl1:SqSrc t1 l1 xs s.heap) (hl2:SqSrc t2 l2 ys s.heap)
 (h:∀ h' M,s.heap.objs.size = M→ZI t1 t2 (M + 4) (M + 2) (M + 3) M (M + 1) l1 l2 xs ys h' .none .none .none 0 0→(∀ c o,s.heap.get? c = some o→h'.get? c = some o)→Q (.ref (M + 4)) { s with heap:=h' }) :
 wpAny Z.M A (call (.type "zip") [.ref l1,.ref l2]) Q E s:=by
 refine callType_new F.called_zip (by decide) (F.typeCall_zip_2 _ _) (F.newCall_zip_2 _ _) (λobj=>F.args_object_init_3 obj _ _) F.entry_zip_new
  (meets_zip t1 t2 l1 l2 xs ys) ⟨hl1,hl2,?_⟩
 have z1:(zH1 t1 s.heap l1).objs.size = s.heap.objs.size + 1:=Heap.size_push ..
 have z2:(zH2 t1 t2 s.heap l1 l2).objs.size = s.heap.objs.size + 2:=by rw [Heap.size_push,z1]
 have z3:(zH3 t1 t2 s.heap l1 l2).objs.size = s.heap.objs.size + 3:=by rw [Heap.size_push,z2]
 have z4:(zH4 t1 t2 s.heap l1 l2).objs.size = s.heap.objs.size + 4:=by rw [Heap.size_push,z3]
 have k5:∀ c o,(zH4 t1 t2 s.heap l1 l2).get? c = some o→(zH5 t1 t2 s.heap l1 l2).get? c = some o:=λc o x=>Heap.get?_push_of_some _ x
 have k4:∀ c o,(zH3 t1 t2 s.heap l1 l2).get? c = some o→(zH5 t1 t2 s.heap l1 l2).get? c = some o:=λc o x=>k5 c o (Heap.get?_push_of_some _ x)
 have k3:∀ c o,(zH2 t1 t2 s.heap l1 l2).get? c = some o→(zH5 t1 t2 s.heap l1 l2).get? c = some o:=λc o x=>k4 c o (Heap.get?_push_of_some _ x)
 have k2:∀ c o,(zH1 t1 s.heap l1).get? c = some o→(zH5 t1 t2 s.heap l1 l2).get? c = some o:=λc o x=>k3 c o (Heap.get?_push_of_some _ x)
 have k1:∀ c o,s.heap.get? c = some o→(zH5 t1 t2 s.heap l1 l2).get? c = some o:=λc o x=>k2 c o (Heap.get?_push_of_some _ x)
 have g5:(zH5 t1 t2 s.heap l1 l2).get? (zH4 t1 t2 s.heap l1 l2).objs.size = some _:=Heap.get?_push_size _ rfl
 have g4:=k5 _ _ (Heap.get?_push_size (zH3 t1 t2 s.heap l1 l2) rfl)
 have g3:=k4 _ _ (Heap.get?_push_size (zH2 t1 t2 s.heap l1 l2) rfl)
 have b2:=(hl2.keep λo e=>k1 _ _ e).begin (k3 _ _ (Heap.get?_push_size (zH1 t1 s.heap l1) rfl))
 have b1:=(hl1.keep λo e=>k1 _ _ e).begin (k2 _ _ (Heap.get?_push_size s.heap rfl))
 show _∧_
 rw [z2,z3,z4] at g5
 rw [z1,z2] at g3
 rw [z3] at g4
 rw [z1] at b2
 rw [z4]
 exact ⟨⟨_,g5,rfl⟩,h _ _ rfl ⟨g5,g3,g4,b1,b2⟩ k1⟩
theorem zipV_lt:∀ {l m:List V} {i:Nat},i < l.length→i < m.length→i < (zipV l m).length
 | _ :: _,_ :: _,0,_,_=>Nat.succ_pos _
 | _ :: _,_ :: _,_ + 1,h,g=>Nat.succ_lt_succ (zipV_lt (Nat.lt_of_succ_lt_succ h) (Nat.lt_of_succ_lt_succ g))
theorem zipV_get {M:V→Prop}:∀ {l m:List V} {i:Nat} {x:V},(zipV l m)[i]? = some x→(∀ a b,l[i]? = some a→m[i]? = some b→M (.tup [a,b]))→M x
 | [],_,_,_,h,_=>nn h
 | _ :: _,[],_,_,h,_=>nn h
 | a :: l,b :: m,0,x,h,k=>some_is h (k a b rfl rfl)
 | a :: l,b :: m,i + 1,x,h,k=>zipV_get (l:=l) (m:=m) (i:=i) h k
inductive ZS (t1 t2:Bool) (z TI TO i1 i2 l1 l2:Addr) (xs ys:Array Value) (i:Nat) (h:Heap):Prop
 | mk (a b:Value):ZI t1 t2 z TI TO i1 i2 l1 l2 xs ys h .none a b i i→ZS t1 t2 z TI TO i1 i2 l1 l2 xs ys i h
inductive ZM (t1 t2:Bool) (z TI TO i1 i2 l1 l2:Addr) (xs ys:Array Value) (i:Nat) (h:Heap):Value→Prop
 | mk (T:Addr) (a b:Value):ZI t1 t2 z TI TO i1 i2 l1 l2 xs ys h (rawInt T) a b (i + 1) (i + 1)→ZM t1 t2 z TI TO i1 i2 l1 l2 xs ys i h (.ref T)
theorem mem_is {M:Addr→Prop} {b a:Addr} {l:List Addr} (h:b ∈ a :: l) (m:M a) (k:b ∈ l→M b):M b:=(List.mem_cons.mp h).elim (λq=>q ▸ m) k
theorem mem_all {M:Addr→Prop} {b:Addr} (h:b ∈ [z,TO,i1,i2,TI,l1,l2]) (m1:M z) (m2:M TO) (m3:M i1) (m4:M i2) (m5:M TI) (m6:M l1) (m7:M l2):M b:=
 mem_is h m1 λh=>mem_is h m2 λh=>mem_is h m3 λh=>mem_is h m4 λh=>mem_is h m5 λh=>two_mem h m6 m7
theorem ZI.there {t a b:Value} (I:ZI t1 t2 z TI TO i1 i2 l1 l2 xs ys h t a b i i) (c:Addr) (hc:c ∈ [z,TO,i1,i2,TI,l1,l2]):∃ o,h.get? c = some o:=
 mem_all (M:=λc=>∃ o,h.get? c = some o) hc ⟨_,I.z⟩ ⟨_,I.TO⟩ I.s1.there.1 I.s2.there.1 ⟨_,I.TI⟩ I.s1.there.2 I.s2.there.2
theorem itr_zip (hh:A.handled = none) (D:ZipApart z TI TO i1 i2 l1 l2) (r1:VRs Z w0 l xs.toList) (r2:VRs Z w0 m ys.toList) :
 Itr Z A w0 z [z,TO,i1,i2,TI,l1,l2] [z,TO,i1,i2] (zipV l m) (.Tuple elts k tp) (ZS t1 t2 z TI TO i1 i2 l1 l2 xs ys) (λi v h=>ZM t1 t2 z TI TO i1 i2 l1 l2 xs ys i h v) where
 sub:=λc hc=>List.mem_append_left [TI,l1,l2] hc
 there:=λi h S=>S.casesOn λa b I=>I.there
 frame:=λi h h' S hk=>S.casesOn λa b I=>have n2:TI ∈ [z,TO,i1,i2,TI,l1,l2]:=List.mem_append_right [z,TO,i1,i2] m1
  have n3:l1 ∈ [z,TO,i1,i2,TI,l1,l2]:=List.mem_append_right [z,TO,i1,i2] m2
  have n4:l2 ∈ [z,TO,i1,i2,TI,l1,l2]:=List.mem_append_right [z,TO,i1,i2] m3
  .mk a b ⟨hk z m1 _ I.z,hk TI n2 _ I.TI,hk TO m2 _ I.TO,I.s1.keep (hk i1 m3) (hk l1 n3),I.s2.keep (hk i2 m4) (hk l2 n4)⟩
 item:=λi x wE sE σ w s Q hx hle P hwr S hQ=>S.casesOn λa b I=>by
  unfold pyNext
  have hT:s.TypeIs (.ref z) "zip":=⟨_,I.z,rfl⟩
  refine zipV_get (M:=λx=>(∀ v w' s',Given Z wE sE σ w s [z,TO,i1,i2] [z,TO,i1,i2,TI,l1,l2] x (λv h=>ZM t1 t2 z TI TO i1 i2 l1 l2 xs ys i h v) v w' s'→Q (some v) s')→_) hx (λu v e1 e2 hQ=>?_) hQ
  obtain ⟨cu,g1,ru⟩:=r1.get e1
  obtain ⟨cv,g2,rv⟩:=r2.get e2
  rw [Array.getElem?_toList] at g1 g2
  refine wpAny_bind (wpAny_attempt (wpAny_callSpecial?_slot (name:=Str.ofString "__next__") hT F.slot_zip_next (wpAny_call_entry F.slot_zip_next hT F.entry_zip_next (zip_next hh D I (λx y h' T hx hy hTn I' hp hk=>wpAny_pure ?_) λ_ _ hx _ _=>hx.elim (λq=>no_so q g1) λq=>no_so q g2) (F.args_zip_next_1 _))))
  obtain rfl:=some_eq g1 hx
  obtain rfl:=some_eq g2 hy
  have x0:=w.add_ext (h:=s.heap) (o:=tupO #[cu,cv] 0) hTn (P.sim.no_im hTn)
  have P1:Post Z wE sE σ w { s with heap:=h' }:=P.touches (t:=s.toks) hwr hk
  exact hQ (.ref T) (w.add T (tupO #[cu,cv] 0)) { s with heap:=h' } ⟨.mk T #[cu,cv] 0 (w.add_self _ _) (.cons ((ru.le hle).ext x0) (.cons ((rv.le hle).ext x0) .nil)),P1.freeze hp (P.gone hTn) (P.sim.no_im hTn) (P.sim.no_ph hTn),x0,.mk T _ _ I',hk,I'.there⟩
 go:=λi v s Q M hQ=>ZM.casesOn (motive:=λv _=>wpAny Z.M A (letOwnedTupleGo _ _ v) Q NoE s) M λT a b I=>wpAny_letOwnedTupleGo_zip I.z λh' hz' hs=>hQ h' s.toks (.mk a b (I.setZ D hs.extBut hz')) λc o hc e=>hs.extBut _ _ (λx=>hc (x ▸ m1)) e
 done:=λs Q S hQ=>S.casesOn λa b I=>by
  unfold pyNext
  have hT:s.TypeIs (.ref z) "zip":=⟨_,I.z,rfl⟩
  refine wpAny_bind (wpAny_attempt (wpAny_callSpecial?_slot (name:=Str.ofString "__next__") hT F.slot_zip_next (wpAny_call_entry F.slot_zip_next hT F.entry_zip_next (zip_next hh D I (λx y _ _ hx hy _ _ _ _=>?_) λh' e _ hk he=>?_) (F.args_zip_next_1 _))))
  · exact absurd (zipV_lt (l:=l) (m:=m) (tup_size r1 ▸ (Array.getElem?_eq_some_iff.mp hx).1) (tup_size r2 ▸ (Array.getElem?_eq_some_iff.mp hy).1)) (Nat.lt_irrefl _)
  · exact wpAny_bind (wpAny_isInstance (T:="StopIteration") (b:=true) he isSubtype_stop (wpAny_pure (hQ h' s.toks hk)))
 self:=λi s Q S hQ=>S.casesOn λa b I=>wpAny_pyIter_zip I.z hQ
theorem zip_apart {M a1 a2:Nat} (h1:a1 < M) (h2:a2 < M):ZipApart (M + 4) (M + 2) (M + 3) M (M + 1) a1 a2:=ktu_apart M a1 a2 h1 h2
inductive SrcOf (Z:Zt) (w:GW) (h:Heap) (l:List V):Value→Prop
 | mk (ty:Bool) (a:Addr) (xs:Array Value) (o:Obj):SqSrc ty a xs h→VRs Z w l xs.toList→w.im a = some o→SrcOf Z w h l (.ref a)
theorem items_src {x:V} (X:Sim Z w σ h) (r:VR Z w x c) (e:items x = some l):SrcOf Z w h l c:=match x,r,e with
 | .tup _,r,e=>some_is e (SeqR.casesOn (motive:=λc _=>SrcOf Z w h _ c) r λa xs n g rr=>.mk false a xs _ ⟨_,X.im _ _ g,rfl,n,rfl⟩ rr g)
 | .lst _,r,e=>some_is e (SeqR.casesOn (motive:=λc _=>SrcOf Z w h _ c) r λa xs n g rr=>.mk true a xs _ ⟨_,X.im _ _ g,rfl,n,rfl⟩ rr g)
 | .none,_,e | .bool _,_,e | .int _,_,e | .str _,_,e | .dct _ _,_,e | .ins _ _,_,e | .ref _,_,e | .obj _ _,_,e=>nn e
theorem ev_zip {C:Orc} {a b:Mine.E} {ρ:Rho} {r:List V×H} (e:evI C (.zip a b) ρ σ = some r):b2 (evE C a ρ σ) (λx σ=>b2 (evE C b ρ σ) λy σ=>b1 (items x) λl=>b1 (items y) λm=>some (zipV l m,σ)) = some r:=e
theorem zip_it {a b:Mine.E} {pa pb:Expr} (W:Wld Z) (K:BlkOK B) (hh:Y.A.handled = none) (hb:nsIn Z.I.K mainGlobals ("zip":Str) = some none) (hk:B.sc.lookup ("zip":Str) = some .globalImplicit)
 (hpa:plainPE pa = true) (hpb:plainPE pb = true) (ha:EOK Z Y B a pa) (hb':EOK Z Y B b pb):ItOK Z Y B (.zip a b) (.Tuple elts k tp) (.Call (.Name ("zip":Str) np) [pa,pb] [] pos):=λρ σ l σ' w s X e=>
 b2_is (ev_zip e) λx σ1 e1 e=>b2_is e λy σ2 e2 e=>b1_is e λl1 e3 e=>b1_is e λm1' e4 e=>pr_is (M:=λl σ'=>wpAny Z.M Y.A _ (λx s1=>wpAny Z.M Y.A (pyIter x) (ItAt Z Y.A _ w s σ' l) NoE s1) NoE s) e
  (glob_call (fv:=.type "zip") W K X hb hk (by kernel_rfl) (by decide) (by decide) (λa h=>nomatch h) (by unfold plainPEs; rw [List.all_cons,List.all_cons,hpa,hpb]; rfl) (by
   rw [star_plain hpa,star_plain hpb]
   exact PySem.Calls.spliced_cons (ha.go X e1 λc1 s1w s1 P1 X1 hx=>PySem.Calls.spliced_cons (hb'.go X1 e2 λc2 w2 s2 P2 X2 hy=>PySem.Calls.spliced_nil
    (SrcOf.casesOn (motive:=λc1 _=>wpAny Z.M Y.A (call _ [c1,c2]) _ NoE s2) (items_src X2.sim (hx.ext P2.ext) e3) λt1 a1 xs o1 q1 r1 im1=>SrcOf.casesOn (motive:=λc2 _=>wpAny Z.M Y.A (call _ [.ref a1,c2]) _ NoE s2) (items_src X2.sim hy e4) λt2 a2 ys o2 q2 r2 im2=>
     zip_call q1 q2 λh' M hM I hkp=>wpAny_pyIter_zip I.z (by
      have PP:=P1.trans P2
      have P3:Post Z w s σ2 w2 { s2 with heap:=h' }:=PP.grow (t:=s2.toks) hkp
      have new:∀ n,Own s w2 (M + n):=λn=>.fresh PP (Heap.get?_none_of_le (hM ▸ Nat.le_add_right _ _))
      have old:∀ n,(∃ o,w2.im (M + n) = some o)∨Own s w2 (M + n):=λn=>.inr (new n)
      exact .mk w2 _ _ _ _ _ P3 (itr_zip hh (zip_apart (hM ▸ Heap.lt_size (X2.sim.im _ _ im1)) (hM ▸ Heap.lt_size (X2.sim.im _ _ im2))) r1 r2) (.mk _ _ I) (λb hb=>mem_is (M:=Own s w2) hb (new 4) λhb=>mem_is (M:=Own s w2) hb (new 3) λhb=>two_mem (M:=Own s w2) hb (new 0) (new 1))
       fun b hb=>mem_all (M:=λb=>(∃ o,w2.im b = some o)∨Own s w2 b) hb (old 4) (old 3) (old 0) (old 1) (old 2) (.inl ⟨_,im1⟩) (.inl ⟨_,im2⟩)))))))
end
section
variable {Z:Zt} {A:Around} {w w' w0:GW} {s s' s0:Shared} {σ σ' σ1 σ2:H} {v:V} {c:Value} {ρ ρ':Rho}
theorem bindL_out {kindOf:Str→Option NameKind} {x:Str}:∀ {binds:List (Str×Value)} {m:Str→Option Value},x ∉ binds.map (·.1)→bindL kindOf binds m x = m x
 | [],_,_=>rfl
 | (n,v) :: r,m,h=>(bindL_out λq=>h (.tail _ q)).trans (by
  split
  · exact if_neg λq:x = n=>h (by rw [q]; exact .head _)
  · rfl)
theorem bindL_in {kindOf:Str→Option NameKind} {x:Str} {c:Value}:∀ {binds:List (Str×Value)} {m:Str→Option Value},(binds.map (·.1)).Nodup→(x,c) ∈ binds→kindOf x = some .local→bindL kindOf binds m x = some c
 | (n,v) :: r,m,hn,hm,hk=>(List.mem_cons.mp hm).elim (λq=>by
  cases q
  refine (bindL_out (List.nodup_cons.mp hn).1).trans ?_
  rw [if_pos hk]
  exact if_pos rfl) λq=>(show bindL kindOf r _ x = some c from bindL_in (List.nodup_cons.mp hn).2 q hk)
theorem bindC_out {kindOf:Str→Option NameKind} {x:Str}:∀ {binds:List (Str×Value)} {m:Str→Option Value},x ∉ binds.map (·.1)→bindC kindOf binds m x = m x
 | [],_,_=>rfl
 | (n,v) :: r,m,h=>(bindC_out λq=>h (.tail _ q)).trans (by
  split
  · rfl
  · exact if_neg λq:x = n=>h (by rw [q]; exact .head _))
theorem bindC_in {kindOf:Str→Option NameKind} {x:Str} {c:Value}:∀ {binds:List (Str×Value)} {m:Str→Option Value},(binds.map (·.1)).Nodup→(x,c) ∈ binds→kindOf x ≠ some .local→bindC kindOf binds m x = some c
 | (n,v) :: r,m,hn,hm,hk=>(List.mem_cons.mp hm).elim (λq=>by
  cases q
  refine (bindC_out (List.nodup_cons.mp hn).1).trans ?_
  rw [if_neg hk]
  exact if_pos rfl) λq=>(show bindC kindOf r _ x = some c from bindC_in (List.nodup_cons.mp hn).2 q hk)
theorem apart_of {y z:Str} {b:Addr}:∀ {cs:List (Str×Addr)},(cs.Pairwise λx y=>x.2 ≠ y.2)→(y,b) ∈ cs→(z,b) ∈ cs→y = z
 | p :: r,hp,e1,e2=>(List.mem_cons.mp e1).elim (λq1=>(List.mem_cons.mp e2).elim (λq2=>congrArg Prod.fst (q1.trans q2.symm)) λq2=>absurd (show p.2 = b from congrArg Prod.snd q1.symm) ((List.pairwise_cons.mp hp).1 _ q2))
  fun q1=>(List.mem_cons.mp e2).elim (λq2=>absurd (show p.2 = b from congrArg Prod.snd q2.symm) ((List.pairwise_cons.mp hp).1 _ q1)) (apart_of (List.pairwise_cons.mp hp).2 q1)
structure FnShape (scope:Scope) (tab:Tab):Prop where
 kind:scope.kind = .function
 co:scope.isCoroutine = false
 gen:scope.isGenerator = false
 nofree:∀ x,scope.names.lookup x ≠ some .free
 tab:TabOk tab
noncomputable def fnBlk (s:Shared) (tab:Tab) (scope:Scope) (env:Env):Blk:=⟨s.heap,λ_=>true,tab,scope.names,env⟩
noncomputable def cvOf (tab:Tab) (binds:List (Str×Value)) (i:Nat):Value:=open Classical in if h:∃ c y,(i,y) ∈ tab∧(y,c) ∈ binds then h.choose else .none
theorem cv_is {tab:Tab} {binds:List (Str×Value)} {i:Nat} {y:Str} (T:TabOk tab) (hn:(binds.map (·.1)).Nodup) (hi:(i,y) ∈ tab) (hy:(y,c) ∈ binds):cvOf tab binds i = c:=by
 have h:∃ c y,(i,y) ∈ tab∧(y,c) ∈ binds:=⟨c,y,hi,hy⟩
 refine (dif_pos h).trans (h.choose_spec.elim λz q=>some_eq (mem_look hn q.2) ?_)
 rw [(T i z i y q.1 hi).mp rfl]
 exact mem_look hn hy
noncomputable def SlotB (Z:Zt) (w:GW) (binds:List (Str×Value)) (x:Str) (sl:Slot):Prop:=sl.casesOn (λv=>∃ c,(x,c) ∈ binds∧VR Z w v c) λ_=>False
theorem look_binds {env:Env} {names:List (Str×NameKind)} {binds:List (Str×Value)} {h1:Heap} (hkd:∀ y,env.kindOf y = names.lookup y) (has:∀ y,names.lookup y = some .cell→(env.cells.lookup y).isSome = true) (hnd:(binds.map (·.1)).Nodup)
 (hkind:∀ x ∈ binds,names.lookup x.1 = some .local∨names.lookup x.1 = some .cell) (hc:∀ y b,env.cells.lookup y = some b→h1.IsCell b (bindC env.kindOf binds (λ_=>none) y)) (y:Str) (c:Value) (hy:(y,c) ∈ binds):Look1 env h1 (bindL env.kindOf binds λ_=>none) y c:=
 (hkind _ hy).elim (λq=>.inl ⟨(hkd y).trans q,bindL_in hnd hy ((hkd y).trans q)⟩) λq=>(Option.isSome_iff_exists.mp (has y q)).elim λb hb=>.inr ⟨.inl ((hkd y).trans q),b,hb,bindC_in hnd hy (λz=>nomatch ((hkd y).trans q).symm.trans z) ▸ hc y b hb⟩
structure Entered (Z:Zt) (A:Around) (d:Nat) (w:GW) (s:Shared) (σ:H) (ρ:Rho) (tab:Tab) (scope:Scope) (binds:List (Str×Value)) (env:Env) (m:Str→Option Value) (cv:Nat→Value) (s1:Shared):Prop where
 K:BlkOK (fnBlk s tab scope env)
 R1:Room (A.deeper env) d
 R2:Room (A.deeper env).in1.in1 d
 post:Post Z w s σ w s1
 er:ER Z (fnBlk s tab scope env) w ρ s1.heap m cv
 look:∀ x c,(x,c) ∈ binds→Look1 env s1.heap m x c
theorem enter {a:Addr} {name qual:Str} {params:Arguments} {body:List Stmt} {scope:Scope} {dV kV doc pm cdv ct oc:Value} {an od:Option Addr} {osl:Array (Option Value)} {args:Args} {binds:List (Str×Value)} {tab:Tab} {R:Result→Shared→Prop} {d:Nat}
 (W:Base Z Z.h₀) (RM:A.depth < 1000) (R1:∀ env,Room (A.deeper env) d) (R2:∀ env,Room (A.deeper env).in1.in1 d) (ho:Z.I.K.lookup a = some ⟨oc,od,.func (fnOf name qual params body scope dV kV doc pm an cdv ct),osl⟩) (hcd:codeIn Z.I.K cdv qual = true) (F:FnShape scope tab)
 (hbind:BindsTo s (fnOf name qual params body scope dV kV doc pm an cdv ct) args binds) (hnd:(binds.map (·.1)).Nodup) (hkind:∀ x ∈ binds,scope.names.lookup x.1 = some .local∨scope.names.lookup x.1 = some .cell)
 (X:Sim Z w σ s.heap) (hρ:∀ i x,(i,x) ∈ tab→∀ sl,getS ρ i = some sl→SlotB Z w binds x sl)
 (h:∀ env m cv s1,Entered Z A d w s σ ρ tab scope binds env m cv s1→wpAny Z.M (A.deeper env) (execs body env) (λf s'=>R (.ok (.ret (match f with | .ret v=>v | _=>.none))) s') NoE s1) :
 codeAny Z.M A (.call (.ref a) args) R s:=by
 have XK:=W.k.keeps X.keeps
 refine codeAny_call_function (fd:=fnOf name qual params body scope dV kV doc pm an cdv ct) RM (XK _ _ ho) rfl F.co F.gen rfl (codeRec_of XK hcd) (hbind _ _ _ _ ?_)
 have has:∀ y,scope.names.lookup y = some .cell→((cellsFrom (s.heap.objs.size + 1) scope.names []).lookup y).isSome = true:=λy q=>cells_has _ _ _ (.inl (look_mem q))
 refine wpAny_newFunctionEnv_cells F.kind (λx hx=>(hkind x hx).imp id λq=>⟨q,has _ q⟩) λenv he s1 x=>?_
 subst he
 obtain ⟨h1,tk,rfl,hkeep⟩:=x.done
 refine ⟨(W.nolimit.keeps X.keeps).keeps x.toInCall.keep,codeAny_func ?_⟩
 have new:∀ b,s.heap.objs.size ≤ b→s.heap.get? b = none:=λb hb=>Heap.get?_none_of_le hb
 have lk:=look_binds (env:=_) (λ_=>rfl) has hnd hkind x.cell
 refine wpAny_mono (h _ _ (cvOf tab binds) _ ⟨⟨⟨F.kind,rfl,rfl,rfl⟩,F.tab,λy hy=>hy.elim (has y) λq=>absurd q (F.nofree y)⟩,R1 _,R2 _,(Post.refl X).grow hkeep,
  ⟨x.toInCall.ns,.new X (new _ (Nat.le_refl _)),new _ (Nat.le_refl _),λy b e=>have hn:=new b (Nat.le_of_lt (x.above y b (look_mem e))); ⟨⟨_,x.cell y b e⟩,.new X hn,λ_=>hn⟩,λy z b e1 e2=>apart_of x.apart (look_mem e1) (look_mem e2),
   fun i y hi sl hsl=>match sl,hρ i y hi sl hsl with | .v v,⟨c,hyc,hv⟩=>cv_is F.tab hnd hi hyc ▸ ⟨lk y c hyc,hv⟩,λi j l l' hij hi hj e1 e2=>hi.elim λy hy=>(hρ i y hy _ e1:False).elim⟩,lk⟩) (λ_ _ q=>q) λ_ _ e=>e.elim
end
theorem forIn_fold {α β:Type} {f:α→β→Sem (ForInStep β)} (g:β→α→β) (hf:∀ x b,f x b = pure (.yield (g b x))):∀ (l:List α) (b:β),(forIn l b f:Sem β) = pure (l.foldl g b)
 | [],b=>rfl
 | x :: l,b=>by rw [List.forIn_cons,hf,pure_bind]; exact forIn_fold g hf l _
noncomputable abbrev putD (S:List (Str×Value)) (p:Str×Value):List (Str×Value):=if (S.lookup p.1).isNone = true then S ++ [p] else S
theorem lookup_some {x:Str}:∀ {S:List (Str×Value)},x ∈ S.map (·.1)→(S.lookup x).isSome = true
 | [],h=>by cases h
 | p :: S,h=>by
  rw [List.lookup_cons]
  cases hx:x == p.1 with
  | true=>rfl
  | false=>
   rw [List.map_cons] at h
   rcases List.mem_cons.mp h with q | q
   · rw [q] at hx; simp at hx
   · exact lookup_some q
theorem lookup_none' {x:Str}:∀ {S:List (Str×Value)},x ∉ S.map (·.1)→S.lookup x = none
 | [],_=>rfl
 | p :: S,h=>by
  rw [List.lookup_cons]
  simp only [List.map_cons,List.mem_cons,not_or] at h
  rw [beq_eq_false_iff_ne.mpr h.1]
  exact lookup_none' h.2
theorem fold_old:∀ {l S:List (Str×Value)},(∀ p ∈ l,p.1 ∈ S.map (·.1))→l.foldl putD S = S
 | [],_,_=>rfl
 | p :: l,S,h=>by
  have h1:=lookup_some (h p (.head _))
  rw [List.foldl_cons]
  have:putD S p = S:=by
   unfold putD
   rw [if_neg]
   cases q:S.lookup p.1 with
   | none=>rw [q] at h1; cases h1
   | some _=>simp
  rw [this]
  exact fold_old λq hq=>h q (.tail _ hq)
theorem fold_new:∀ {l S:List (Str×Value)},(l.map (·.1)).Nodup→(∀ p ∈ l,p.1 ∉ S.map (·.1))→l.foldl putD S = S ++ l
 | [],_,_,_=>by simp
 | p :: l,S,hn,h=>by
  rw [List.map_cons,List.nodup_cons] at hn
  rw [List.foldl_cons]
  have:putD S p = S ++ [p]:=by
   unfold putD
   rw [if_pos]; rw [lookup_none' (h p (.head _))]; rfl
  rw [this,fold_new hn.2 λq hq=>?_]
  · simp
  · simp only [List.map_append,List.map_cons,List.map_nil,List.mem_append,List.mem_singleton,not_or]
    exact ⟨h q (.tail _ hq),λe=>hn.1 (e ▸ List.mem_map_of_mem (f:=(·.1)) hq)⟩
theorem filter_gen {S:List (Str×Value)} (hn:(S.map (·.1)).Nodup):∀ l:List (Str×Value),(∀ p ∈ l,p ∈ S)→(l.map (·.1)).filterMap (λn=>(S.lookup n).map (n,·)) = l
 | [],_=>rfl
 | p :: l,h=>by
  rw [List.map_cons,List.filterMap_cons,mem_look hn (h p (.head _)),Option.map_some,filter_gen hn l λq hq=>h q (.tail _ hq)]
theorem filter_look {S:List (Str×Value)} (hn:(S.map (·.1)).Nodup):(S.map (·.1)).filterMap (λn=>(S.lookup n).map (n,·)) = S:=filter_gen hn S λ_ h=>h
theorem zip_fst:∀ {N:List Str} {cs:List Value},N.length ≤ cs.length→(N.zip cs).map (·.1) = N
 | [],_,_=>rfl
 | _ :: _,[],h=>by simp at h
 | n :: N,c :: cs,h=>by simp [zip_fst (N:=N) (cs:=cs) (by simpa using h)]
theorem zip_drop:∀ (n:Nat) (l:List Str) (m:List Value),(l.zip m).drop n = (l.drop n).zip (m.drop n)
 | 0,_,_=>rfl
 | _ + 1,[],_=>by simp
 | _ + 1,_ :: _,[]=>by simp
 | n + 1,_ :: l,_ :: m=>by simpa using zip_drop n l m
theorem zip_take:∀ (n:Nat) (l:List Str) (m:List Value),(l.zip m).take n = (l.take n).zip (m.take n)
 | 0,_,_=>by simp
 | _ + 1,[],_=>by simp
 | _ + 1,_ :: _,[]=>by simp
 | n + 1,_ :: l,_ :: m=>by simpa using zip_take n l m
theorem zip_short {N:List Str} {cs:List Value} (h:cs.length ≤ N.length):N.zip cs = (N.take cs.length).zip cs:=by
 conv=>lhs; rw [← List.take_append_drop cs.length N,← List.append_nil cs]
 rw [List.zip_append (by simp; omega)]
 simp
theorem zip_keys {N:List Str} {cs:List Value} (h:cs.length ≤ N.length):(N.zip cs).map (·.1) = N.take cs.length:=by
 rw [zip_short h]; exact zip_fst (by rw [List.length_take]; omega)
theorem slots_all {N:List Str} {cs dl:List Value} (hn:N.Nodup) (h1:cs.length ≤ N.length) (h2:N.length ≤ cs.length + dl.length) (h3:dl.length ≤ N.length) :
 ((N.drop (N.length - dl.length)).zip dl).foldl putD (N.zip cs) = N.zip (cs ++ dl.drop (cs.length + dl.length - N.length)):=by
 generalize htd:cs.length + dl.length - N.length = t at *
 have hd:N.length - dl.length + t = cs.length:=by omega
 have hk1:=zip_keys h1
 have e0:=List.take_append_drop t ((N.drop (N.length - dl.length)).zip dl)
 have hold:(((N.drop (N.length - dl.length)).zip dl).take t).foldl putD (N.zip cs) = N.zip cs:=by
  refine fold_old λp hp=>?_
  rw [hk1]
  rw [zip_take] at hp
  have hp1:=(List.of_mem_zip hp).1
  rw [List.take_drop] at hp1
  have:=List.mem_of_mem_drop hp1
  rwa [hd] at this
 have hnew:(((N.drop (N.length - dl.length)).zip dl).drop t).foldl putD (N.zip cs) = N.zip cs ++ ((N.drop (N.length - dl.length)).zip dl).drop t:=by
  refine fold_new ?_ λp hp=>?_
  · rw [zip_drop,zip_fst (by simp; omega),List.drop_drop]
    exact (List.drop_sublist _ _).nodup hn
  · rw [hk1]
    rw [zip_drop,List.drop_drop,hd] at hp
    have hp1:=(List.of_mem_zip hp).1
    intro hq
    have hnd:(N.take cs.length ++ N.drop cs.length).Nodup:=by rw [List.take_append_drop]; exact hn
    exact (List.nodup_append.mp hnd).2.2 _ hq _ hp1 rfl
 rw [← e0,List.foldl_append,hold,hnew,zip_drop,List.drop_drop,hd,zip_short h1,← List.zip_append (by simp; omega),List.take_append_drop]
theorem binds_plain {s:Shared} {name qual:Str} {ps:List Arg} {kd:List (Option Expr)} {de:List Expr} {body:List Stmt} {scope:Scope} {dV kV doc pm cdv ct:Value} {an:Option Addr} {cs dl:List Value}
 (hd:∀ (M:Model) (A:Around) (E:Value→Shared→Prop) (Q:Option (Array Value)→Shared→Prop),(∀ o:Option (Array Value),(o.getD #[]).toList = dl→Q o s)→wpAny M A (seqItems? dV) Q E s)
 (hn:(ps.map (·.arg)).Nodup) (h1:cs.length ≤ ps.length) (h2:ps.length ≤ cs.length + dl.length) (h3:dl.length ≤ ps.length) :
 BindsTo s (fnOf name qual ⟨[],ps,none,[],kd,none,de⟩ body scope dV kV doc pm an cdv ct) ⟨cs,[]⟩ ((ps.map (·.arg)).zip (cs ++ dl.drop (cs.length + dl.length - ps.length))):=by
 intro M A E Q hq
 unfold bindArgs
 dsimp only
 simp only [List.map_nil,List.nil_append,List.forIn_nil,List.append_nil,pure_bind]
 refine wpAny_bind (hd M A E _ λo ho=>?_)
 rw [ho]
 have hl:ps.length = (ps.map (·.arg)).length:=(List.length_map ..).symm
 rw [hl] at h1 h2 h3 hq
 generalize hN:ps.map (·.arg) = N at *
 have hk:=zip_keys h1
 rw [if_neg (by simp; omega)]
 have hdr:List.drop (dl.length - N.length) dl = dl:=by rw [show dl.length - N.length = 0 by omega]; rfl
 rw [hdr]
 have hmiss:List.filter (λn=>(List.lookup n (N.zip cs)).isNone) (List.take (N.length - dl.length) N) = []:=by
  rw [List.filter_eq_nil_iff]
  intro n hm
  have:n ∈ (N.zip cs).map (·.1):=by
   rw [hk]
   exact (List.take_sublist_take_left (by omega:N.length - dl.length ≤ cs.length)).subset hm
  have:=lookup_some this
  cases q:List.lookup n (N.zip cs) with
  | none=>rw [q] at this; cases this
  | some _=>simp
 rw [hmiss]
 rw [if_neg (by simp)]
 rw [forIn_fold (λS p=>putD S p) (λx b=>by
  show (if (List.lookup x.1 b).isNone = true then pure (ForInStep.yield (b ++ [x])) else pure (ForInStep.yield b)) = _
  unfold putD
  split <;> rfl)]
 refine wpAny_bind (wpAny_pure ?_)
 have hs:=slots_all hn h1 h2 h3
 rw [show (List.foldl (λS p=>putD S p) (N.zip cs) ((List.drop (N.length - dl.length) N).zip dl)) = _ from hs]
 rw [if_neg (by simp)]
 have hf:(N.zip (cs ++ dl.drop (cs.length + dl.length - N.length))).map (·.1) = N:=zip_fst (by simp; omega)
 refine wpAny_pure ?_
 have:=filter_look (S:=N.zip (cs ++ dl.drop (cs.length + dl.length - N.length))) (by rw [hf]; exact hn)
 rw [hf] at this
 rw [this]
 exact hq
theorem an4 {G:Prop} {a b c d:Bool} (h:(a && (b && (c && d))) = true) (k:a = true→b = true→c = true→d = true→G):G:=an2 h λx h=>an3 h (k x)
theorem an5 {G:Prop} {a b c d e:Bool} (h:(a && (b && (c && (d && e)))) = true) (k:a = true→b = true→c = true→d = true→e = true→G):G:=an2 h λx h=>an4 h (k x)
theorem an6 {G:Prop} {a b c d e f:Bool} (h:(a && (b && (c && (d && (e && f))))) = true) (k:a = true→b = true→c = true→d = true→e = true→f = true→G):G:=an2 h λx h=>an5 h (k x)
theorem an7 {G:Prop} {a b c d e f g:Bool} (h:(a && (b && (c && (d && (e && (f && g)))))) = true) (k:a = true→b = true→c = true→d = true→e = true→f = true→g = true→G):G:=an2 h λx h=>an6 h (k x)
theorem an8 {G:Prop} {a b c d e f g i:Bool} (h:(a && (b && (c && (d && (e && (f && (g && i))))))) = true) (k:a = true→b = true→c = true→d = true→e = true→f = true→g = true→i = true→G):G:=an2 h λx h=>an7 h (k x)
theorem an9 {G:Prop} {a b c d e f g i j:Bool} (h:(a && (b && (c && (d && (e && (f && (g && (i && j)))))))) = true) (k:a = true→b = true→c = true→d = true→e = true→f = true→g = true→i = true→j = true→G):G:=an2 h λx h=>an8 h (k x)
theorem an10 {G:Prop} {a b c d e f g i j l:Bool} (h:(a && (b && (c && (d && (e && (f && (g && (i && (j && l))))))))) = true) (k:a = true→b = true→c = true→d = true→e = true→f = true→g = true→i = true→j = true→l = true→G):G:=an2 h λx h=>an9 h (k x)
theorem dt {p:Prop} [Decidable p] {t:p→Bool} {G:Prop} (h:(if q:p then t q else false) = true) (k:∀ q,t q = true→G):G:=
 if q:p then k q ((dif_pos q).symm.trans h) else ff ((dif_neg q).symm.trans h)
@[elab_as_elim] theorem be {α:Type} [BEq α] [LawfulBEq α] {a b:α} {M:α→Prop} (h:(a == b) = true) (m:M a):M b:=eq_of_beq h ▸ m
@[elab_as_elim] theorem be' {α:Type} [BEq α] [LawfulBEq α] {a b:α} {M:α→Prop} (h:(a == b) = true) (m:M b):M a:=eq_of_beq h ▸ m
@[elab_as_elim] theorem de {α:Type} {a b:α} [Decidable (a = b)] {M:α→Prop} (h:decide (a = b) = true) (m:M b):M a:=of_decide_eq_true h ▸ m
noncomputable def l0 {α:Type} (l:List α):Bool:=l.casesOn true λ_ _=>false
noncomputable def lc {α:Type} (l:List α) (k:α→List α→Bool):Bool:=l.casesOn false k
@[elab_as_elim] theorem l0_is {α:Type} {M:List α→Prop} {l:List α} (h:l0 l = true) (c:M []):M l:=l.casesOn (motive:=λl=>l0 l = true→M l) (λ_=>c) (λ_ _=>ff) h
@[elab_as_elim] theorem lc_is {α:Type} {M:List α→Prop} {l:List α} {k:α→List α→Bool} (h:lc l k = true) (c:∀ a l,k a l = true→M (a :: l)):M l:=l.casesOn (motive:=λl=>lc l k = true→M l) ff c h
noncomputable def l1 {α:Type} (l:List α) (k:α→Bool):Bool:=lc l λa l=>l0 l && k a
@[elab_as_elim] theorem l1_is {α:Type} {M:List α→Prop} {l:List α} {k:α→Bool} (h:l1 l k = true) (c:∀ a,k a = true→M [a]):M l:=
 lc_is h λa _ h=>an2 h λh0 h=>l0_is h0 (c a h)
noncomputable def l2 {α:Type} (l:List α) (k:α→α→Bool):Bool:=lc l λa l=>l1 l (k a)
@[elab_as_elim] theorem l2_is {α:Type} {M:List α→Prop} {l:List α} {k:α→α→Bool} (h:l2 l k = true) (c:∀ a b,k a b = true→M [a,b]):M l:=
 lc_is h λa _ h=>l1_is h (c a)
noncomputable def so {α:Type} (o:Option α) (k:α→Bool):Bool:=o.casesOn false k
@[elab_as_elim] theorem so_is {α:Type} {M:Option α→Prop} {o:Option α} {k:α→Bool} (h:so o k = true) (c:∀ a,k a = true→M (some a)):M o:=o.casesOn (motive:=λo=>so o k = true→M o) ff c h
noncomputable def no {α:Type} (o:Option α):Bool:=o.casesOn true λ_=>false
@[elab_as_elim] theorem no_is {α:Type} {M:Option α→Prop} {o:Option α} (h:no o = true) (c:M none):M o:=o.casesOn (motive:=λo=>no o = true→M o) (λ_=>c) (λ_=>ff) h
theorem so_eq {α:Type} {o:Option α} {k:α→Bool} {G:Prop} (h:so o k = true) (c:∀ a,o = some a→k a = true→G):G:=so_is (M:=λu=>o = u→G) h (λa h e=>c a e h) rfl
noncomputable def kwD (z:Keyword) (k:Option Str→Expr→Bool):Bool:=k z.arg z.value
@[elab_as_elim] theorem kwD_is {M:Keyword→Prop} {z:Keyword} {k:Option Str→Expr→Bool} (h:kwD z k = true) (c:∀ a e p,k a e = true→M ⟨a,e,p⟩):M z:=by cases z; exact c _ _ _ h
noncomputable def geD (z:Comprehension) (k:Expr→Expr→List Expr→Int→Bool):Bool:=k z.target z.iter z.ifs z.is_async
@[elab_as_elim] theorem geD_is {M:Comprehension→Prop} {z:Comprehension} {k:Expr→Expr→List Expr→Int→Bool} (h:geD z k = true) (c:∀ a b l n,k a b l n = true→M ⟨a,b,l,n⟩):M z:=by cases z; exact c _ _ _ _ h
noncomputable def xBool (e:Expr) (k:BoolOp→List Expr→Bool):Bool:=if h:e.ctorIdx = 0 then Expr.BoolOp.elim e h λo l _=>k o l else false
@[elab_as_elim] theorem xBool_is {M:Expr→Prop} {e:Expr} {k:BoolOp→List Expr→Bool} (h:xBool e k = true) (c:∀ o l p,k o l = true→M (.BoolOp o l p)):M e:=
 dt h λq=>Expr.BoolOp.elim (motive_1:=λe=>∀ q:e.ctorIdx = 0,Expr.BoolOp.elim e q (λo l _=>k o l) = true→M e) e q (λo l p _=>c o l p) q
noncomputable def xBin (e:Expr) (k:Expr→Operator→Expr→Bool):Bool:=if h:e.ctorIdx = 2 then Expr.BinOp.elim e h λa o b _=>k a o b else false
@[elab_as_elim] theorem xBin_is {M:Expr→Prop} {e:Expr} {k:Expr→Operator→Expr→Bool} (h:xBin e k = true) (c:∀ a o b p,k a o b = true→M (.BinOp a o b p)):M e:=
 dt h λq=>Expr.BinOp.elim (motive_1:=λe=>∀ q:e.ctorIdx = 2,Expr.BinOp.elim e q (λa o b _=>k a o b) = true→M e) e q (λa o b p _=>c a o b p) q
noncomputable def xUn (e:Expr) (k:UnaryOp→Expr→Bool):Bool:=if h:e.ctorIdx = 3 then Expr.UnaryOp.elim e h λo a _=>k o a else false
@[elab_as_elim] theorem xUn_is {M:Expr→Prop} {e:Expr} {k:UnaryOp→Expr→Bool} (h:xUn e k = true) (c:∀ o a p,k o a = true→M (.UnaryOp o a p)):M e:=
 dt h λq=>Expr.UnaryOp.elim (motive_1:=λe=>∀ q:e.ctorIdx = 3,Expr.UnaryOp.elim e q (λo a _=>k o a) = true→M e) e q (λo a p _=>c o a p) q
noncomputable def xIf (e:Expr) (k:Expr→Expr→Expr→Bool):Bool:=if h:e.ctorIdx = 5 then Expr.IfExp.elim e h λt a b _=>k t a b else false
@[elab_as_elim] theorem xIf_is {M:Expr→Prop} {e:Expr} {k:Expr→Expr→Expr→Bool} (h:xIf e k = true) (c:∀ t a b p,k t a b = true→M (.IfExp t a b p)):M e:=
 dt h λq=>Expr.IfExp.elim (motive_1:=λe=>∀ q:e.ctorIdx = 5,Expr.IfExp.elim e q (λt a b _=>k t a b) = true→M e) e q (λt a b p _=>c t a b p) q
noncomputable def xDct (e:Expr) (k:List (Option Expr)→List Expr→Bool):Bool:=if h:e.ctorIdx = 6 then Expr.Dict.elim e h λl m _=>k l m else false
@[elab_as_elim] theorem xDct_is {M:Expr→Prop} {e:Expr} {k:List (Option Expr)→List Expr→Bool} (h:xDct e k = true) (c:∀ l m p,k l m = true→M (.Dict l m p)):M e:=
 dt h λq=>Expr.Dict.elim (motive_1:=λe=>∀ q:e.ctorIdx = 6,Expr.Dict.elim e q (λl m _=>k l m) = true→M e) e q (λl m p _=>c l m p) q
noncomputable def xComp (e:Expr) (k:Expr→List Comprehension→Scope→Pos→Bool):Bool:=if h:e.ctorIdx = 8 then Expr.ListComp.elim e h λa l z p=>k a l z p else false
@[elab_as_elim] theorem xComp_is {M:Expr→Prop} {e:Expr} {k:Expr→List Comprehension→Scope→Pos→Bool} (h:xComp e k = true) (c:∀ a l z p,k a l z p = true→M (.ListComp a l z p)):M e:=
 dt h λq=>Expr.ListComp.elim (motive_1:=λe=>∀ q:e.ctorIdx = 8,Expr.ListComp.elim e q (λa l z p=>k a l z p) = true→M e) e q (λa l z p _=>c a l z p) q
noncomputable def xCmp (e:Expr) (k:Expr→List CmpOp→List Expr→Bool):Bool:=if h:e.ctorIdx = 15 then Expr.Compare.elim e h λa l m _=>k a l m else false
@[elab_as_elim] theorem xCmp_is {M:Expr→Prop} {e:Expr} {k:Expr→List CmpOp→List Expr→Bool} (h:xCmp e k = true) (c:∀ a l m p,k a l m = true→M (.Compare a l m p)):M e:=
 dt h λq=>Expr.Compare.elim (motive_1:=λe=>∀ q:e.ctorIdx = 15,Expr.Compare.elim e q (λa l m _=>k a l m) = true→M e) e q (λa l m p _=>c a l m p) q
noncomputable def xCall (e:Expr) (k:Expr→List Expr→List Keyword→Pos→Bool):Bool:=if h:e.ctorIdx = 16 then Expr.Call.elim e h λf l m p=>k f l m p else false
@[elab_as_elim] theorem xCall_is {M:Expr→Prop} {e:Expr} {k:Expr→List Expr→List Keyword→Pos→Bool} (h:xCall e k = true) (c:∀ f l m p,k f l m p = true→M (.Call f l m p)):M e:=
 dt h λq=>Expr.Call.elim (motive_1:=λe=>∀ q:e.ctorIdx = 16,Expr.Call.elim e q (λf l m p=>k f l m p) = true→M e) e q (λf l m p _=>c f l m p) q
noncomputable def xCst (e:Expr) (k:Const→Bool):Bool:=if h:e.ctorIdx = 19 then Expr.Constant.elim e h λa _ _=>k a else false
@[elab_as_elim] theorem xCst_is {M:Expr→Prop} {e:Expr} {k:Const→Bool} (h:xCst e k = true) (c:∀ a n p,k a = true→M (.Constant a n p)):M e:=
 dt h λq=>Expr.Constant.elim (motive_1:=λe=>∀ q:e.ctorIdx = 19,Expr.Constant.elim e q (λa _ _=>k a) = true→M e) e q (λa n p _=>c a n p) q
noncomputable def xAttr (e:Expr) (k:Expr→Str→Pos→Bool):Bool:=if h:e.ctorIdx = 20 then Expr.Attribute.elim e h λa x p=>k a x p else false
@[elab_as_elim] theorem xAttr_is {M:Expr→Prop} {e:Expr} {k:Expr→Str→Pos→Bool} (h:xAttr e k = true) (c:∀ a x p,k a x p = true→M (.Attribute a x p)):M e:=
 dt h λq=>Expr.Attribute.elim (motive_1:=λe=>∀ q:e.ctorIdx = 20,Expr.Attribute.elim e q (λa x p=>k a x p) = true→M e) e q (λa x p _=>c a x p) q
noncomputable def xSub (e:Expr) (k:Expr→Expr→Bool):Bool:=if h:e.ctorIdx = 21 then Expr.Subscript.elim e h λa b _=>k a b else false
@[elab_as_elim] theorem xSub_is {M:Expr→Prop} {e:Expr} {k:Expr→Expr→Bool} (h:xSub e k = true) (c:∀ a b p,k a b = true→M (.Subscript a b p)):M e:=
 dt h λq=>Expr.Subscript.elim (motive_1:=λe=>∀ q:e.ctorIdx = 21,Expr.Subscript.elim e q (λa b _=>k a b) = true→M e) e q (λa b p _=>c a b p) q
noncomputable def xName (e:Expr) (k:Str→Pos→Bool):Bool:=if h:e.ctorIdx = 23 then Expr.Name.elim e h λx p=>k x p else false
@[elab_as_elim] theorem xName_is {M:Expr→Prop} {e:Expr} {k:Str→Pos→Bool} (h:xName e k = true) (c:∀ x p,k x p = true→M (.Name x p)):M e:=
 dt h λq=>Expr.Name.elim (motive_1:=λe=>∀ q:e.ctorIdx = 23,Expr.Name.elim e q (λx p=>k x p) = true→M e) e q (λx p _=>c x p) q
noncomputable def xLst (e:Expr) (k:List Expr→Bool):Bool:=if h:e.ctorIdx = 24 then Expr.List.elim e h λl _=>k l else false
@[elab_as_elim] theorem xLst_is {M:Expr→Prop} {e:Expr} {k:List Expr→Bool} (h:xLst e k = true) (c:∀ l p,k l = true→M (.List l p)):M e:=
 dt h λq=>Expr.List.elim (motive_1:=λe=>∀ q:e.ctorIdx = 24,Expr.List.elim e q (λl _=>k l) = true→M e) e q (λl p _=>c l p) q
noncomputable def xTup (e:Expr) (k:List Expr→Bool):Bool:=if h:e.ctorIdx = 25 then Expr.Tuple.elim e h λl _ _=>k l else false
@[elab_as_elim] theorem xTup_is {M:Expr→Prop} {e:Expr} {k:List Expr→Bool} (h:xTup e k = true) (c:∀ l n p,k l = true→M (.Tuple l n p)):M e:=
 dt h λq=>Expr.Tuple.elim (motive_1:=λe=>∀ q:e.ctorIdx = 25,Expr.Tuple.elim e q (λl _ _=>k l) = true→M e) e q (λl n p _=>c l n p) q
noncomputable def xSl (e:Expr) (k:Option Expr→Option Expr→Option Expr→Bool):Bool:=if h:e.ctorIdx = 26 then Expr.Slice.elim e h λa b z _=>k a b z else false
@[elab_as_elim] theorem xSl_is {M:Expr→Prop} {e:Expr} {k:Option Expr→Option Expr→Option Expr→Bool} (h:xSl e k = true) (c:∀ a b z p,k a b z = true→M (.Slice a b z p)):M e:=
 dt h λq=>Expr.Slice.elim (motive_1:=λe=>∀ q:e.ctorIdx = 26,Expr.Slice.elim e q (λa b z _=>k a b z) = true→M e) e q (λa b z p _=>c a b z p) q
noncomputable def sRet (e:Stmt) (k:Option Expr→Bool):Bool:=if h:e.ctorIdx = 3 then Stmt.Return.elim e h λo _=>k o else false
@[elab_as_elim] theorem sRet_is {M:Stmt→Prop} {e:Stmt} {k:Option Expr→Bool} (h:sRet e k = true) (c:∀ o p,k o = true→M (.Return o p)):M e:=
 dt h λq=>Stmt.Return.elim (motive_2:=λe=>∀ q:e.ctorIdx = 3,Stmt.Return.elim e q (λo _=>k o) = true→M e) e q (λo p _=>c o p) q
noncomputable def sAsg (e:Stmt) (k:List Expr→Expr→Bool):Bool:=if h:e.ctorIdx = 5 then Stmt.Assign.elim e h λl e _=>k l e else false
@[elab_as_elim] theorem sAsg_is {M:Stmt→Prop} {e:Stmt} {k:List Expr→Expr→Bool} (h:sAsg e k = true) (c:∀ l e p,k l e = true→M (.Assign l e p)):M e:=
 dt h λq=>Stmt.Assign.elim (motive_2:=λe=>∀ q:e.ctorIdx = 5,Stmt.Assign.elim e q (λl e _=>k l e) = true→M e) e q (λl e p _=>c l e p) q
noncomputable def sFor (e:Stmt) (k:Expr→Expr→List Stmt→List Stmt→Bool):Bool:=if h:e.ctorIdx = 9 then Stmt.For.elim e h λt i b z _=>k t i b z else false
@[elab_as_elim] theorem sFor_is {M:Stmt→Prop} {e:Stmt} {k:Expr→Expr→List Stmt→List Stmt→Bool} (h:sFor e k = true) (c:∀ t i b z p,k t i b z = true→M (.For t i b z p)):M e:=
 dt h λq=>Stmt.For.elim (motive_2:=λe=>∀ q:e.ctorIdx = 9,Stmt.For.elim e q (λt i b z _=>k t i b z) = true→M e) e q (λt i b z p _=>c t i b z p) q
noncomputable def sWhl (e:Stmt) (k:Expr→List Stmt→List Stmt→Bool):Bool:=if h:e.ctorIdx = 11 then Stmt.While.elim e h λt b z _=>k t b z else false
@[elab_as_elim] theorem sWhl_is {M:Stmt→Prop} {e:Stmt} {k:Expr→List Stmt→List Stmt→Bool} (h:sWhl e k = true) (c:∀ t b z p,k t b z = true→M (.While t b z p)):M e:=
 dt h λq=>Stmt.While.elim (motive_2:=λe=>∀ q:e.ctorIdx = 11,Stmt.While.elim e q (λt b z _=>k t b z) = true→M e) e q (λt b z p _=>c t b z p) q
noncomputable def sIf (e:Stmt) (k:Expr→List Stmt→List Stmt→Bool):Bool:=if h:e.ctorIdx = 12 then Stmt.If.elim e h λt a b _=>k t a b else false
@[elab_as_elim] theorem sIf_is {M:Stmt→Prop} {e:Stmt} {k:Expr→List Stmt→List Stmt→Bool} (h:sIf e k = true) (c:∀ t a b p,k t a b = true→M (.If t a b p)):M e:=
 dt h λq=>Stmt.If.elim (motive_2:=λe=>∀ q:e.ctorIdx = 12,Stmt.If.elim e q (λt a b _=>k t a b) = true→M e) e q (λt a b p _=>c t a b p) q
noncomputable def sExpr (e:Stmt) (k:Expr→Bool):Bool:=if h:e.ctorIdx = 24 then Stmt.Expr.elim e h λe _=>k e else false
@[elab_as_elim] theorem sExpr_is {M:Stmt→Prop} {e:Stmt} {k:Expr→Bool} (h:sExpr e k = true) (c:∀ e p,k e = true→M (.Expr e p)):M e:=
 dt h λq=>Stmt.Expr.elim (motive_2:=λe=>∀ q:e.ctorIdx = 24,Stmt.Expr.elim e q (λe _=>k e) = true→M e) e q (λe p _=>c e p) q
noncomputable def cBool (e:Const) (k:Bool→Bool):Bool:=if h:e.ctorIdx = 1 then Const.bool.elim e h λb=>k b else false
@[elab_as_elim] theorem cBool_is {M:Const→Prop} {e:Const} {k:Bool→Bool} (h:cBool e k = true) (c:∀ b,k b = true→M (.bool b)):M e:=
 dt h λq=>Const.bool.elim (motive:=λe=>∀ q:e.ctorIdx = 1,Const.bool.elim e q (λb=>k b) = true→M e) e q (λb _=>c b) q
noncomputable def cInt (e:Const) (k:Int→Bool):Bool:=if h:e.ctorIdx = 2 then Const.int.elim e h λi=>k i else false
@[elab_as_elim] theorem cInt_is {M:Const→Prop} {e:Const} {k:Int→Bool} (h:cInt e k = true) (c:∀ i,k i = true→M (.int i)):M e:=
 dt h λq=>Const.int.elim (motive:=λe=>∀ q:e.ctorIdx = 2,Const.int.elim e q (λi=>k i) = true→M e) e q (λi _=>c i) q
noncomputable def cStr (e:Const) (k:Str→Bool):Bool:=if h:e.ctorIdx = 5 then Const.str.elim e h λs=>k s else false
@[elab_as_elim] theorem cStr_is {M:Const→Prop} {e:Const} {k:Str→Bool} (h:cStr e k = true) (c:∀ s,k s = true→M (.str s)):M e:=
 dt h λq=>Const.str.elim (motive:=λe=>∀ q:e.ctorIdx = 5,Const.str.elim e q (λs=>k s) = true→M e) e q (λs _=>c s) q
noncomputable def vBool (e:V) (k:Bool→Bool):Bool:=if h:e.ctorIdx = 1 then V.bool.elim e h λb=>k b else false
@[elab_as_elim] theorem vBool_is {M:V→Prop} {e:V} {k:Bool→Bool} (h:vBool e k = true) (c:∀ b,k b = true→M (.bool b)):M e:=
 dt h λq=>V.bool.elim (motive_1:=λe=>∀ q:e.ctorIdx = 1,V.bool.elim e q (λb=>k b) = true→M e) e q (λb _=>c b) q
noncomputable def vInt (e:V) (k:Int→Bool):Bool:=if h:e.ctorIdx = 2 then V.int.elim e h λi=>k i else false
@[elab_as_elim] theorem vInt_is {M:V→Prop} {e:V} {k:Int→Bool} (h:vInt e k = true) (c:∀ i,k i = true→M (.int i)):M e:=
 dt h λq=>V.int.elim (motive_1:=λe=>∀ q:e.ctorIdx = 2,V.int.elim e q (λi=>k i) = true→M e) e q (λi _=>c i) q
noncomputable def vStr (e:V) (k:Str→Bool):Bool:=if h:e.ctorIdx = 3 then V.str.elim e h λs=>k s else false
@[elab_as_elim] theorem vStr_is {M:V→Prop} {e:V} {k:Str→Bool} (h:vStr e k = true) (c:∀ s,k s = true→M (.str s)):M e:=
 dt h λq=>V.str.elim (motive_1:=λe=>∀ q:e.ctorIdx = 3,V.str.elim e q (λs=>k s) = true→M e) e q (λs _=>c s) q
noncomputable def vTup (e:V) (k:List V→Bool):Bool:=if h:e.ctorIdx = 4 then V.tup.elim e h λl=>k l else false
@[elab_as_elim] theorem vTup_is {M:V→Prop} {e:V} {k:List V→Bool} (h:vTup e k = true) (c:∀ l,k l = true→M (.tup l)):M e:=
 dt h λq=>V.tup.elim (motive_1:=λe=>∀ q:e.ctorIdx = 4,V.tup.elim e q (λl=>k l) = true→M e) e q (λl _=>c l) q
mutual
noncomputable def beqV:V→V→Bool
 | .none,c=>decide (c.ctorIdx = 0)
 | .bool a,c=>vBool c λb=>b == a
 | .int a,c=>vInt c λb=>b == a
 | .str a,c=>vStr c λb=>b == a
 | .tup a,c=>vTup c λb=>beqVs a b
 | .lst _,_ | .dct _ _,_ | .ins _ _,_ | .ref _,_ | .obj _ _,_=>false
noncomputable def beqVs:List V→List V→Bool
 | [],m=>l0 m
 | a :: l,m=>lc m λb m=>beqV a b && beqVs l m
end
mutual
theorem beqV_eq:∀ {a b:V},beqV a b = true→a = b
 | .none,b,h=>V.none.elim (motive_1:=λb=>V.none = b) b (of_decide_eq_true h) rfl
 | .bool x,b,h=>vBool_is h λy h=>congrArg V.bool (eq_of_beq h).symm
 | .int x,b,h=>vInt_is h λy h=>congrArg V.int (eq_of_beq h).symm
 | .str x,b,h=>vStr_is h λy h=>congrArg V.str (eq_of_beq h).symm
 | .tup l,b,h=>vTup_is h λy h=>congrArg V.tup (beqVs_eq h)
 | .lst _,_,h | .dct _ _,_,h | .ins _ _,_,h | .ref _,_,h | .obj _ _,_,h=>ff h
theorem beqVs_eq:∀ {a b:List V},beqVs a b = true→a = b
 | [],b,h=>l0_is (M:=λb=>[] = b) h rfl
 | x :: l,b,h=>lc_is (M:=λb=>x :: l = b) h λy m h=>an2 h λh1 h2=>by rw [beqV_eq h1,beqVs_eq h2]
end
structure Cx where
 tab:Tab
 sc:List (Str×NameKind)
 all:Bool
 stl:List Str
noncomputable def Cx.st (c:Cx) (x:Str):Bool:=c.all || c.stl.contains x
noncomputable def Cx.has (c:Cx) (i:Nat) (x:Str):Bool:=c.tab.contains (i,x)
noncomputable def Cx.put (c:Cx) (i:Nat) (x:Str):Bool:=c.has i x && ((c.sc.lookup x == some .local || c.sc.lookup x == some .cell) && c.st x)
noncomputable def Cx.glob (c:Cx) (x:Str):Bool:=c.sc.lookup x == some .globalImplicit
noncomputable def okN (x:Str):Bool:=!(x == ("__classdict__":Str)) && !(x == ("__debug__":Str))
noncomputable def noDbg (x:Str):Bool:=!(x == ("__debug__":Str))
noncomputable def noBase (o:Expr):Bool:=if h:o.ctorIdx = 16 then Expr.Call.elim o h λf l _ _=>!l.isEmpty || decide (f.ctorIdx ≠ 23) else true
theorem base_call {f:Expr} {l:List Expr} {ks:List Keyword} {p:Pos} {x:Str} {env:Env} {whole:Sem Value} (h:(!l.isEmpty || decide (f.ctorIdx ≠ 23)) = true):attributeBase (.Call f l ks p) x env whole = whole:=by
 cases f with
 | Name=>
  cases l with
  | nil=>exact ff h
  | cons=>rfl
 | _=>rfl
theorem noBase_is {o:Expr} (h:noBase o = true) (x:Str) (env:Env) (whole:Sem Value):attributeBase o x env whole = whole:=by
 cases o with
 | Call=>exact base_call h
 | _=>rfl
noncomputable def mCst (v:V) (k:Const):Bool:=match v with
 | .none=>decide (k.ctorIdx = 0)
 | .bool b=>cBool k λb'=>b == b'
 | .int i=>cInt k λi'=>i == i'
 | .str x=>cStr k λx'=>x == x'
 | .tup _ | .lst _ | .dct _ _ | .ins _ _ | .ref _ | .obj _ _=>false
noncomputable def nodupB:List Str→Bool
 | []=>true
 | x :: l=>!l.contains x && nodupB l
theorem nodupB_is:∀ {l:List Str},nodupB l = true→l.Nodup
 | [],_=>List.nodup_nil
 | x :: l,h=>an2 h λh1 h2=>List.nodup_cons.mpr ⟨λq=>by rw [List.contains_iff_mem.mpr q] at h1; exact ff h1,nodupB_is h2⟩
noncomputable def tabB (t:Tab):Bool:=t.all λp=>t.all λq=>(p.1 == q.1) == (p.2 == q.2)
theorem tabB_is {t:Tab} (h:tabB t = true):TabOk t:=λi x j y hi hj=>
 have e:(i == j) = (x == y):=eq_of_beq (List.all_eq_true.mp (List.all_eq_true.mp h _ hi) _ hj)
 ⟨λq=>eq_of_beq (e.symm.trans (beq_iff_eq.mpr q)),λq=>eq_of_beq (e.trans (beq_iff_eq.mpr q))⟩
noncomputable def nmOf (e:Expr):Str:=if h:e.ctorIdx = 23 then Expr.Name.elim e h λx _=>x else ""
noncomputable def elsOf (e:Expr):List Expr:=if h:e.ctorIdx = 25 then Expr.Tuple.elim e h λl _ _=>l else []
noncomputable def tgNm (t:Tg) (e:Expr):List (Nat×Str):=match t with
 | .one i=>[(i,nmOf e)]
 | .two i j=>List.zipWith (λi a=>(i,nmOf a)) [i,j] (elsOf e)
noncomputable def gsNm:List G→List Comprehension→List (Nat×Str)
 | [],_=>[]
 | .mk t _ _ :: gs,l=>l.casesOn [] λz ges=>tgNm t z.target ++ gsNm gs ges
noncomputable def Cx.comp (c:Cx) (names:List (Str×NameKind)) (nm:List (Nat×Str)):Cx:={ tab:=nm ++ c.tab.filter (λp=>names.lookup p.2 == some .free),sc:=relN c.sc names,all:=false,stl:=nm.map (·.2) }
noncomputable def compB (c:Cx) (names:List (Str×NameKind)) (slots:List Nat) (nm:List (Nat×Str)):Bool:=
 nodupB (names.map (·.1)) && ((names.all λp=>!(p.2 == .free) || (c.sc.lookup p.1 == some .cell || c.sc.lookup p.1 == some .free)) &&
  ((nm.all λp=>slots.contains p.1 && (names.lookup p.2 == some .local || names.lookup p.2 == some .cell)) && tabB (c.comp names nm).tab))
noncomputable def mTg (c:Cx) (t:Tg) (e:Expr):Bool:=match t with
 | .one i=>xName e λx _=>c.put i x
 | .two i j=>xTup e λl=>l2 l λa b=>xName a λx _=>xName b λy _=>c.put i x && c.put j y
noncomputable def isM1 (e:Expr):Bool:=xUn e λo a=>decide (o = .USub) && xCst a λk=>cInt k λi=>i == 1
noncomputable def isC (n:Int) (e:Expr):Bool:=xCst e λk=>cInt k λi=>i == n
mutual
noncomputable def mE (I:Info):E→Cx→Expr→Bool
 | .bad,_,_=>true
 | .cst v,_,pe=>xCst pe λk=>mCst v k
 | .neg i,_,pe=>xUn pe λo a=>decide (o = .USub) && xCst a λk=>cInt k λj=>i == -j
 | .pow a b,_,pe=>xBin pe λx o y=>decide (o = .Pow) && xCst x λk=>cInt k λi=>xCst y λk=>cInt k λj=>a == 10 && (b == 18 && (i == 10 && j == 18))
 | .var i,c,pe=>xName pe λx _=>c.has i x && okN x
 | .glo y v,c,pe=>xName pe λx _=>y == x && (c.glob x && (noDbg x && so (I.gl x) λv'=>beqV v' v))
 | .tup es,c,pe=>xTup pe λpes=>plainPEs pes && (Nat.ble pes.length 1000 && mEs I es c pes)
 | .lst es,c,pe=>xLst pe λpes=>plainPEs pes && (Nat.ble pes.length 1000 && mEs I es c pes)
 | .dct es,c,pe=>xDct pe λks vs=>Nat.ble ks.length 15 && mDs I es c true ks vs
 | .shr e,c,pe=>fresh e && mE I e c pe
 | .bin op a b,c,pe=>xBin pe λpa o pb=>decide (o = opOf op) && (mE I a c pa && mE I b c pb)
 | .cmp op a b,c,pe=>xCmp pe λpa os pbs=>l1 os λo=>l1 pbs λpb=>decide (o = cmpOf op) && (!behindInMarks (cmpOf op) pb && (mE I a c pa && mE I b c pb))
 | .isN yes a,c,pe=>xCmp pe λpa os pbs=>l1 os λo=>l1 pbs λpb=>xCst pb λk=>decide (k = .none) && (decide (o = if yes then .Is else .IsNot) && mE I a c pa)
 | .conj es,c,pe=>xBool pe λo pes=>decide (o = .And) && mEs I es c pes
 | .disj es,c,pe=>xBool pe λo pes=>decide (o = .Or) && mEs I es c pes
 | .not a,c,pe=>xUn pe λo pa=>decide (o = .Not) && mE I a c pa
 | .ife t a b,c,pe=>xIf pe λpt pa pb=>mE I t c pt && (mE I a c pa && mE I b c pb)
 | .idx a i,c,pe=>xSub pe λpa pi=>plainPE pi && (mE I a c pa && mE I i c pi)
 | .slc k a n,c,pe=>xSub pe λpa sl=>xSl sl λl u s=>mE I a c pa && (match k with
  | .rev=>no l && (no u && so s isM1)
  | .from1=>no u && (no s && so l (isC 1))
  | .revTo1=>no l && (so u (isC 0) && so s isM1)
  | .upto=>no l && (no s && so u λy=>mE I n c y))
 | .attr a cl k x,c,pe=>xAttr pe λpa y _=>x == y && (attrOk I cl k x && (noBase pa && mE I a c pa))
 | .callF f es,c,pe=>xCall pe λg pes ks _=>xName g λx _=>l0 ks && (x == I.name f && (fnOk I f && (c.glob (I.name f) && (noDbg (I.name f) && (plainPEs pes && mEs I es c pes)))))
 | .callM f cl a es,c,pe=>xCall pe λg pes ks pos=>xAttr g λpa x apos=>l0 ks && (x == I.name f && (methOk I f cl && (noBase pa && (plainPEs pes && (decide (pes.length < 30) && (apos.endLine == pos.line && (mE I a c pa && mEs I es c pes)))))))
 | .bi b es,c,pe=>xCall pe λg pes ks _=>xName g λx _=>l0 ks && (x == (biV b).1 && (biOk I b && (c.glob (biV b).1 && (plainPEs pes && mEs I es c pes))))
 | .sortK f a,c,pe=>xCall pe λg pes ks _=>xName g λx _=>l1 pes λpa=>l1 ks λz=>kwD z λyo ze=>so yo λy=>xName ze λz _=>
  x == ("sorted":Str) && (y == ("key":Str) && (z == I.name f && (nsIn I.K mainGlobals ("sorted":Str) == some none && (c.glob ("sorted":Str) && (fnOk I f && (c.glob (I.name f) && (noDbg (I.name f) && (plainPE pa && mE I a c pa))))))))
 | .get2 d k x,c,pe=>xCall pe λg pes ks pos=>xAttr g λpd y apos=>l2 pes λpk px=>l0 ks && (y == ("get":Str) && (nobase pd && (plainPEs [pk,px] && (apos.endLine == pos.line && (mE I d c pd && (mE I k c pk && mE I x c px))))))
 | .join s a,c,pe=>xCall pe λg pes ks pos=>xAttr g λq y apos=>l1 pes λpa=>xCst q λk=>cStr k λt=>l0 ks && (t == s && (y == ("join":Str) && (plainPE pa && (apos.endLine == pos.line && mE I a c pa))))
 | .split a s,c,pe=>xCall pe λg pes ks pos=>xAttr g λpa y apos=>l1 pes λq=>xCst q λk=>cStr k λt=>l0 ks && (t == s && (y == ("split":Str) && (noBase pa && (apos.endLine == pos.line && mE I a c pa))))
 | .comp elt gs,c,pe=>xComp pe λpelt gens scope _=>scope.kind == .function && (compB c scope.names (gsSlots gs) (gsNm gs gens) && (mE I elt (c.comp scope.names (gsNm gs gens)) pelt && mGs I gs c (c.comp scope.names (gsNm gs gens)) gens 2))
noncomputable def mEs (I:Info):List E→Cx→List Expr→Bool
 | [],_,pes=>l0 pes
 | e :: es,c,pes=>lc pes λpe pes=>mE I e c pe && mEs I es c pes
noncomputable def mDs (I:Info):List E→Cx→Bool→List (Option Expr)→List Expr→Bool
 | [],_,b,ks,vs=>b && (l0 ks && l0 vs)
 | e :: es,c,b,ks,vs=>match b with
  | true=>lc ks λo ks=>so o λpk=>mE I e c pk && mDs I es c false ks vs
  | false=>lc vs λpv vs=>mE I e c pv && mDs I es c true ks vs
noncomputable def mIt (I:Info):It→Cx→Expr→Expr→Bool
 | .plain e,c,_,pe=>mE I e c pe
 | .range a,c,pt,pe=>xName pt λ_ _=>xCall pe λg pes ks _=>xName g λx _=>l1 pes λpa=>l0 ks && (x == ("range":Str) && (nsIn I.K mainGlobals ("range":Str) == some none && (c.glob ("range":Str) && (plainPE pa && mE I a c pa))))
 | .zip a b,c,pt,pe=>xTup pt λ_=>xCall pe λg pes ks _=>xName g λx _=>l2 pes λpa pb=>l0 ks && (x == ("zip":Str) && (nsIn I.K mainGlobals ("zip":Str) == some none && (c.glob ("zip":Str) && (plainPE pa && (plainPE pb && (mE I a c pa && mE I b c pb))))))
noncomputable def mGs (I:Info):List G→Cx→Cx→List Comprehension→Nat→Bool
 | [],_,_,ges,n=>l0 ges && decide (n < 2)
 | g :: gs,c,c',ges,n=>match n with
  | 0=>false
  | n + 1=>lc ges λz ges=>geD z λpt pit pifs a=>a == 0 && (notSet pit && (mG I g c c' pt pit pifs && mGs I gs c' c' ges n))
noncomputable def mG (I:Info):G→Cx→Cx→Expr→Expr→List Expr→Bool
 | .mk t it ifs,c,c',pt,pit,pifs=>mTg c' t pt && (mIt I it c pt pit && mEs I ifs c' pifs)
end
structure CxB (c:Cx) (B:Blk):Prop where
 tab:B.tab = c.tab
 sc:B.sc = c.sc
 st:B.st = c.st
section
variable {Z:Zt} {Y:Yt} {B:Blk} {c c':Cx} {w:GW} {s:Shared} {σ:H}
theorem bor_is {G:Prop} {a b:Bool} (h:(a || b) = true) (k1:a = true→G) (k2:b = true→G):G:=((Bool.or_eq_true a b).mp h).elim k1 k2
theorem CxB.has (b:CxB c B) {i:Nat} {x:Str} (h:c.has i x = true):(i,x) ∈ B.tab:=b.tab ▸ List.contains_iff_mem.mp h
theorem CxB.put (b:CxB c B) (K:BlkOK B) {i:Nat} {x:Str} (h:c.put i x = true):Nm B i x:=an3 h λh1 h2 h3=>
 ⟨b.has h1,bor_is h2 (λq=>.inl (b.sc.symm ▸ eq_of_beq q)) λq=>have q:B.sc.lookup x = some .cell:=b.sc.symm ▸ eq_of_beq q; .inr ⟨q,K.cel x (.inl q)⟩,b.st.symm ▸ h3⟩
theorem CxB.glob (b:CxB c B) {x:Str} (h:c.glob x = true):B.sc.lookup x = some .globalImplicit:=b.sc.symm ▸ eq_of_beq h
theorem okN_is {x:Str} (h:okN x = true):(x == ("__classdict__":Str)) = false∧(x == ("__debug__":Str)) = false:=an2 h λh1 h2=>⟨nb h1,nb h2⟩
theorem noDbg_is {x:Str} (h:noDbg x = true):(x == ("__debug__":Str)) = false:=nb h
theorem tg_one (b:CxB c B) (K:BlkOK B) {i:Nat} {x:Str} {p:Pos} (h:c.put i x = true):TgOK B (.one i) (.Name x p):=.one (b.put K h)
theorem tg_two (b:CxB c B) (K:BlkOK B) {i j n:Nat} {x y:Str} {p q r:Pos} (h:c.put i x = true) (h':c.put j y = true):TgOK B (.two i j) (.Tuple [.Name x p,.Name y q] n r):=.two (b.put K h) (b.put K h')
theorem mTg_is (b:CxB c B) (K:BlkOK B) {t:Tg} {pt:Expr} (h:mTg c t pt = true):TgOK B t pt:=match t,h with
 | .one i,h=>xName_is h λx p h=>tg_one b K h
 | .two i j,h=>xTup_is h λl n r h=>l2_is h λu v h=>xName_is h λx p h=>xName_is h λy q h=>an2 h (tg_two b K)
theorem compNames_is (b:CxB c B) {names:List (Str×NameKind)} {slots:List Nat} {nm:List (Nat×Str)} (h:compB c names slots nm = true):CompNames B names (c.comp names nm).tab (c.comp names nm).st slots:=an4 h λh1 h2 h3 h4=>
 ⟨nodupB_is h1,λp hp hf=>bor_is (List.all_eq_true.mp h2 p hp) (λq=>by rw [hf] at q; exact ff q) λq=>bor_is q (λq=>.inl (b.sc.symm ▸ eq_of_beq q)) λq=>.inr (b.sc.symm ▸ eq_of_beq q),
  fun p hp=>(List.mem_append.mp hp).elim (λq=>an2 (List.all_eq_true.mp h3 p q) λs _=>.inl ⟨List.contains_iff_mem.mp s,List.contains_iff_mem.mpr (List.mem_map_of_mem (f:=(·.2)) q)⟩) λq=>.inr ⟨b.tab.symm ▸ (List.mem_filter.mp q).1,eq_of_beq (List.mem_filter.mp q).2⟩,
  fun x hx=>(List.mem_map.mp (List.contains_iff_mem.mp hx)).elim λp q=>q.2 ▸ an2 (List.all_eq_true.mp h3 p q.1) λ_ k=>bor_is k (λz=>.inl (eq_of_beq z)) λz=>.inr (eq_of_beq z),tabB_is h4⟩
noncomputable def notVar (e:E):Bool:=decide (e.ctorIdx ≠ 4)
theorem notVar_is {e:E} (h:notVar e = true) (i:Nat) (q:e = .var i):False:=of_decide_eq_true h (q ▸ rfl)
noncomputable abbrev Straight (pe:Expr):Prop:=∀ env whole,isTrue pe env whole = (do let v ← whole; standAt pe.pos; holding [v] (truthy v))
theorem aok_of {e:E} {pe:Expr} (hv:notVar e = true) (ht:Straight pe) (h:EOK Z Y B e pe):AOK Z Y B e pe:=
 ⟨h,xok_of (notVar_is hv) h,tok_of h (ht _)⟩
theorem aok_two {e:E} {pe:Expr} (hv:notVar e = true) (h:EOK Z Y B e pe∧TOK Z Y B e pe):AOK Z Y B e pe:=⟨h.1,xok_of (notVar_is hv) h.1,h.2⟩
structure GOK (Z:Zt) (Y:Yt) (c c':Cx) (t:Tg) (it:Mine.It) (ifs:List E) (pt pit:Expr) (pifs:List Expr):Prop where
 it:∀ B,CxB c B→BlkOK B→ItOK Z Y B it pt pit
 tg:∀ B,CxB c' B→BlkOK B→TgOK B t pt
 ifs:∀ B,CxB c' B→BlkOK B→AllOK Z Y B ifs pifs
inductive GsC (Z:Zt) (Y:Yt) (c c':Cx) (t:Tg) (it:Mine.It) (ifs:List E) (R:List Comprehension→Nat→Prop):List Comprehension→Nat→Prop
 | mk {pt pit pifs ges n}:notSet pit = true→GOK Z Y c c' t it ifs pt pit pifs→R ges n→GsC Z Y c c' t it ifs R (⟨pt,pit,pifs,0⟩ :: ges) (n + 1)
noncomputable def GsOK (Z:Zt) (Y:Yt) (c':Cx):Cx→List G→List Comprehension→Nat→Prop
 | _,[],ges,n=>ges = []∧n < 2
 | c,.mk t it ifs :: gs,ges,n=>GsC Z Y c c' t it ifs (GsOK Z Y c' c' gs) ges n
theorem comp_one {elt:E} {gs:List G} {pelt:Expr} {ges:List Comprehension} {scope:Scope} {pos:Pos} {c2:Cx} {t:Tg} {it:Mine.It} {ifs:List E} {pt pit:Expr} {pifs:List Expr} (hh:Y.A.handled = none) (b:CxB c B) (K:BlkOK B) (hk:scope.kind = .function) (hsc:c2.sc = relN B.sc scope.names)
 (N:CompNames B scope.names c2.tab c2.st (gsSlots (.mk t it ifs :: gs))) (he:∀ B',CxB c2 B'→BlkOK B'→EOK Z Y B' elt pelt) (hs:notSet pit = true) (g:GOK Z Y c c2 t it ifs pt pit pifs) (hr:GsOK Z Y c2 c2 gs ges 1) :
 CompOK Z Y B elt pelt scope pos (.mk t it ifs :: gs) (⟨pt,pit,pifs,0⟩ :: ges):=
 .mk hk N hs (g.it B b K) (λB' K' e1 e2 e3=>
  have b':CxB c2 B':=⟨e1,e2.trans hsc.symm,e3⟩
  match gs,ges,hr with
  | [],_,⟨rfl,_⟩=>start1 hh K' (g.tg B' b' K') (g.ifs B' b' K') (he B' b' K')
  | [.mk _ _ _],_,.mk hs2 g2 ⟨rfl,_⟩=>start2 hh K' (g.tg B' b' K') (g.ifs B' b' K') hs2 (g2.it B' b' K') (g2.tg B' b' K') (g2.ifs B' b' K') (he B' b' K')
  | .mk _ _ _ :: .mk _ _ _ :: _,_,.mk _ _ h=>nomatch h)
theorem comp_cok {elt:E} {gs:List G} {pelt:Expr} {gens:List Comprehension} {scope:Scope} {pos:Pos} (hh:Y.A.handled = none) (b:CxB c B) (hk:scope.kind = .function) (hc:compB c scope.names (gsSlots gs) (gsNm gs gens) = true)
 (he:∀ B',CxB (c.comp scope.names (gsNm gs gens)) B'→BlkOK B'→EOK Z Y B' elt pelt) (K:BlkOK B) (hg:GsOK Z Y (c.comp scope.names (gsNm gs gens)) c gs gens 2):CompOK Z Y B elt pelt scope pos gs gens:=
 match gs,gens,hc,he,hg with
 | [],_,_,_,h=>absurd h.2 (by decide)
 | .mk _ _ _ :: _,_,hc,he,.mk hs g hr=>comp_one hh b K hk (congrArg (relN · scope.names) b.sc.symm) (compNames_is b hc) he hs g hr
@[elab_as_elim] theorem isM1_is {M:Expr→Prop} {z:Expr} (h:isM1 z = true) (m:∀ k p1 p2,M (.UnaryOp .USub (.Constant (.int 1) k p1) p2)):M z:=
 xUn_is h λo a p2 h=>an2 h λho h=>de ho (xCst_is h λk n p1 h=>cInt_is h λi h=>be' h (m _ _ _))
@[elab_as_elim] theorem isC_is {M:Expr→Prop} {n:Int} {z:Expr} (h:isC n z = true) (m:∀ k p1,M (.Constant (.int n) k p1)):M z:=
 xCst_is h λk q p1 h=>cInt_is h λi h=>be' h (m _ _)
theorem isM1_sl {n:E} {z:Expr} (h:isM1 z = true):SlOK Z Y B .rev n none none (some z):=isM1_is h λ_ _ _=>.rev
theorem isC_sl {n:E} {z:Expr} (h:isC 1 z = true):SlOK Z Y B .from1 n (some z) none none:=isC_is h λ_ _=>.from1
theorem rev_sl {n:E} {y z:Expr} (h1:isC 0 y = true) (h2:isM1 z = true):SlOK Z Y B .revTo1 n none (some y) (some z):=isC_is h1 λ_ _=>isM1_is h2 λ_ _ _=>.revTo1
variable {d:Nat}
structure Here (Z:Zt) (Y:Yt) (d:Nat):Prop where
 W:Wld Z
 R:Room Y.A d
 R2:Room Y.A.in1.in1 d
 call:CallOK Z Y.C d
theorem Here.units (H:Here Z Y d):Y.A.units < 9000:=by have:=H.R.units; omega
theorem dct_nil {ks:List (Option Expr)} {vs:List Expr} (h:(l0 ks && l0 vs) = true):DctOK Z Y B [] ks vs:=an2 h λh h'=>l0_is h (l0_is h' .nil)
inductive DcAt (Z:Zt) (Y:Yt) (B:Blk):List E→Bool→List (Option Expr)→List Expr→Prop
 | key {es ks vs}:DctOK Z Y B es ks vs→DcAt Z Y B es true ks vs
 | val {e es ks pv vs}:EOK Z Y B e pv→DctOK Z Y B es ks vs→DcAt Z Y B (e :: es) false ks (pv :: vs)
theorem DcAt.dct {es:List E} {ks:List (Option Expr)} {vs:List Expr}:DcAt Z Y B es true ks vs→DctOK Z Y B es ks vs | .key h=>h
theorem dc_key {e:E} {es:List E} {pk:Expr} {ks:List (Option Expr)} {vs:List Expr} (h1:EOK Z Y B e pk):DcAt Z Y B es false ks vs→DcAt Z Y B (e :: es) true (some pk :: ks) vs
 | .val q1 q2=>.key (.cons h1 q1 q2)
theorem cst_is {v:V} {k:Const} {n:Nat} {p:Pos} (X:Sim Z w σ s.heap) (h:mCst v k = true):wpAny Z.M Y.A (eval (.Constant k n p) B.env) (QV Z w s σ v) NoE s:=match v,h with
 | .none,h=>Const.none.elim (motive:=λk=>wpAny _ _ (eval (.Constant k n p) _) _ _ _) k (of_decide_eq_true h) (Constant_none (.mk w (.refl X) rfl))
 | .bool b,h=>cBool_is h λy h=>be h (Constant_bool (.mk w (.refl X) rfl))
 | .int b,h=>cInt_is h λy h=>be h (wpAny_Constant_int (QV.here X ⟨_⟩))
 | .str b,h=>cStr_is h λy h=>be h (PySem.Calls.Constant_str (QV.here X ⟨_⟩))
 | .tup _,h | .lst _,h | .dct _ _,h | .ins _ _,h | .ref _,h | .obj _ _,h=>ff h
theorem cst_ok {v:V} {k:Const} {n:Nat} {p:Pos} (h:mCst v k = true):EOK Z Y B (.cst v) (.Constant k n p):=λρ σ u σ' w s X e=>pr_is (M:=λv σ'=>wpAny Z.M Y.A _ (QV Z w s σ' v) NoE s) e (cst_is X.sim h)
theorem glo_ok (W:Wld Z) (K:BlkOK B) (b:CxB c B) {x y:Str} {v:V} {p:Pos} (h0:(y == x) = true) (h1:c.glob x = true) (h2:noDbg x = true) (h3:(so (Z.I.gl x) λv'=>beqV v' v) = true):EOK Z Y B (.glo y v) (.Name x p):=
 be' h0 (so_eq h3 λv' e h=>glo_arm W K (b.glob h1) (e.trans (congrArg some (beqV_eq h))) (noDbg_is h2))
theorem pow_ok {a b:Nat} {i j:Int} {n m:Nat} {p q r:Pos} (h:(a == 10 && (b == 18 && (i == 10 && j == 18))) = true):EOK Z Y B (.pow a b) (.BinOp (.Constant (.int i) n p) .Pow (.Constant (.int j) m q) r):=
 an4 h λh1 h2 h3 h4=>be' h1 (be' h2 (pow_arm (eq_of_beq h3) (eq_of_beq h4)))
theorem shr_no {v:V} {σ:H} {z:Bool} {σ':H} {G:Prop} (e:allocs v σ = some (.bool z,σ')):G:=by
 cases v with
 | lst=>exact nomatch congrArg Prod.fst (Option.some.inj e)
 | dct=>exact nomatch congrArg Prod.fst (Option.some.inj e)
 | _=>exact nn e
theorem shr_ok {e:E} {pe:Expr} (h:fresh e = true) (h2:AOK Z Y B e pe):AOK Z Y B (.shr e) pe:=
 have h1:=shr_arm h h2.ee
 ⟨h1,xok_of (notVar_is rfl) h1,λρ σ z σ' w s X e1=>b2_is e1 λx σ1 _ e1=>shr_no e1⟩
theorem bi_ok' (H:Here Z Y d) (K:BlkOK B) {b:Bi} {es:List E} {pes:List Expr} {np pos:Pos} (h1:biOk Z.I b = true) (h2:B.sc.lookup (biV b).1 = some .globalImplicit) (h3:plainPEs pes = true) (h4:AllOK Z Y B es pes) :
 EOK Z Y B (.bi b es) (.Call (.Name (biV b).1 np) pes [] pos):=by
 by_cases q1:b = .sorted
 · subst q1; exact sorted_arm H.W K H.R.handled h1 h2 h3 h4
 · by_cases q2:b = .dict
   · subst q2; exact dict_arm H.W K H.R.handled h1 h2 h3 h4
   · exact bi_arm H.W K H.R.handled q1 q2 h1 h2 h3 h4
theorem line_is {a b:Nat} (h:(a == b) = true):(a == b) = true:=h
mutual
theorem mE_ok (H:Here Z Y d):∀ {e:E} {c:Cx} {pe:Expr} {B:Blk},CxB c B→BlkOK B→mE Z.I e c pe = true→AOK Z Y B e pe
 | .bad,c,pe,B,b,K,h=>⟨λρ σ v σ' w s X e=>nn e,λρ σ v σ' w s X e=>nn e,λρ σ v σ' w s X e=>nn e⟩
 | .cst v,c,pe,B,b,K,h=>xCst_is h λk n p h=>aok_of rfl (λ_ _=>rfl) (cst_ok h)
 | .neg i,c,pe,B,b,K,h=>xUn_is h λo a p h=>an2 h λh1 h=>de h1 <| xCst_is h λk n q h=>cInt_is h λj h=>be' h (aok_of rfl (λ_ _=>rfl) neg_arm)
 | .pow x y,c,pe,B,b,K,h=>xBin_is h λu o v p h=>an2 h λh1 h=>de h1 <| xCst_is h λk n q h=>cInt_is h λi h=>xCst_is h λk n q h=>cInt_is h λj h=>aok_of rfl (λ_ _=>rfl) (pow_ok h)
 | .var i,c,pe,B,b,K,h=>xName_is h λx p h=>an2 h λh1 h2=>
  have q:=var_arm (Z:=Z) (Y:=Y) K (b.has h1) (okN_is h2).1 (okN_is h2).2
  ⟨q.1,q.2,tok_of q.1 λ_=>rfl⟩
 | .glo y v,c,pe,B,b,K,h=>xName_is h λx p h=>an4 h λh1 h2 h3 h4=>aok_of rfl (λ_ _=>rfl) (glo_ok H.W K b h1 h2 h3 h4)
 | .tup es,c,pe,B,b,K,h=>xTup_is h λl n p h=>an3 h λh1 h2 h3=>aok_of rfl (λ_ _=>rfl) (tup_arm h1 (Nat.le_of_ble_eq_true h2) (mEs_ok H b K h3))
 | .lst es,c,pe,B,b,K,h=>xLst_is h λl p h=>an3 h λh1 h2 h3=>aok_of rfl (λ_ _=>rfl) (lst_arm h1 (Nat.le_of_ble_eq_true h2) (mEs_ok H b K h3))
 | .dct es,c,pe,B,b,K,h=>xDct_is h λl m p h=>an2 h λh1 h2=>aok_of rfl (λ_ _=>rfl) (dct_arm (Nat.le_of_ble_eq_true h1) (mDs_ok H (z:=true) b K h2).dct)
 | .shr e,c,pe,B,b,K,h=>an2 h λh1 h2=>shr_ok h1 (mE_ok H b K h2)
 | .bin op x y,c,pe,B,b,K,h=>xBin_is h λu o v p h=>an3 h λh1 h2 h3=>de h1 (aok_of rfl (λ_ _=>rfl) (bin_arm (mE_ok H b K h2).x (mE_ok H b K h3).x))
 | .cmp op x y,c,pe,B,b,K,h=>xCmp_is h λu os vs p h=>l1_is h λo h=>l1_is h λv h=>an4 h λh1 h2 h3 h4=>de h1 (aok_two rfl (cmp_arm H.units (nb h2) (mE_ok H b K h3).x (mE_ok H b K h4).x))
 | .isN yes x,c,pe,B,b,K,h=>xCmp_is h λu os vs p h=>l1_is h λo h=>l1_is h λv h=>xCst_is h λk n q h=>an3 h λh1 h2 h3=>de h1 (de h2 (aok_two rfl (isN_arm (mE_ok H b K h3).ee)))
 | .conj es,c,pe,B,b,K,h=>xBool_is h λo l p h=>an2 h λh1 h2=>de h1 (aok_two rfl (conj_arm (mEs_ok H b K h2)))
 | .disj es,c,pe,B,b,K,h=>xBool_is h λo l p h=>an2 h λh1 h2=>de h1 (aok_two rfl (disj_arm (mEs_ok H b K h2)))
 | .not x,c,pe,B,b,K,h=>xUn_is h λo a p h=>an2 h λh1 h2=>de h1 (aok_two rfl (not_arm (mE_ok H b K h2)))
 | .ife t x y,c,pe,B,b,K,h=>xIf_is h λu v z p h=>an3 h λh1 h2 h3=>aok_two rfl (ife_arm (mE_ok H b K h1) (mE_ok H b K h2) (mE_ok H b K h3))
 | .idx x i,c,pe,B,b,K,h=>xSub_is h λu v p h=>an3 h λh1 h2 h3=>aok_of rfl (λ_ _=>rfl) (idx_arm h1 (mE_ok H b K h2).x (mE_ok H b K h3).ee)
 | .slc .rev x n,c,pe,B,b,K,h=>xSub_is h λu v p h=>xSl_is h λl m s q h=>an2 h λh1 h=>an3 h λh2 h3 h=>no_is h2 <| no_is h3 <| so_is h λ_ h=>aok_of rfl (λ_ _=>rfl) (slc_arm (mE_ok H b K h1).x (isM1_sl h))
 | .slc .from1 x n,c,pe,B,b,K,h=>xSub_is h λu v p h=>xSl_is h λl m s q h=>an2 h λh1 h=>an3 h λh2 h3 h=>no_is h2 <| no_is h3 <| so_is h λ_ h=>aok_of rfl (λ_ _=>rfl) (slc_arm (mE_ok H b K h1).x (isC_sl h))
 | .slc .revTo1 x n,c,pe,B,b,K,h=>xSub_is h λu v p h=>xSl_is h λl m s q h=>an2 h λh1 h=>an3 h λh2 h3 h=>no_is h2 <| so_is h3 λ_ h3=>so_is h λ_ h=>aok_of rfl (λ_ _=>rfl) (slc_arm (mE_ok H b K h1).x (rev_sl h3 h))
 | .slc .upto x n,c,pe,B,b,K,h=>xSub_is h λu v p h=>xSl_is h λl m s q h=>an2 h λh1 h=>an3 h λh2 h3 h=>no_is h2 <| no_is h3 <| so_is h λ_ h=>aok_of rfl (λ_ _=>rfl) (slc_arm (mE_ok H b K h1).x (.upto (mE_ok H b K h).ee))
 | .attr x cl k y,c,pe,B,b,K,h=>xAttr_is h λu z p h=>an4 h λh1 h2 h3 h4=>be h1 (aok_of rfl (λ_ _=>rfl) (attr_arm H.W.toBase h2 (noBase_is h3 _) (mE_ok H b K h4).ee))
 | .callF f es,c,pe,B,b,K,h=>xCall_is h λg l ks p h=>xName_is h λx q h=>an7 h λh0 h1 h2 h3 h4 h5 h6=>l0_is h0 <| be' h1 <| aok_of rfl (λ_ _=>rfl) (callF_arm H.W K H.R H.call h2 (b.glob h3) (noDbg_is h4) h5 (mEs_ok H b K h6))
 | .callM f cl x es,c,pe,B,b,K,h=>xCall_is h λg l ks p h=>xAttr_is h λu y q h=>an9 h λh0 h1 h2 h3 h4 h5 h6 h7 h8=>l0_is h0 <| be' h1 <| aok_of rfl (λ_ _=>rfl) (callM_arm H.W H.R H.call h2 (noBase_is h3 _) h4 (of_decide_eq_true h5) h6 (mE_ok H b K h7).ee (mEs_ok H b K h8))
 | .bi bb es,c,pe,B,b,K,h=>xCall_is h λg l ks p h=>xName_is h λx q h=>an6 h λh0 h1 h2 h3 h4 h5=>l0_is h0 <| be' h1 <| aok_of rfl (λ_ _=>rfl) (bi_ok' H K h2 (b.glob h3) h4 (mEs_ok H b K h5))
 | .sortK f x,c,pe,B,b,K,h=>xCall_is h λg l ks p h=>xName_is h λy q h=>l1_is h λu h=>l1_is h λz h=>kwD_is h λo e r h=>so_is h λt h=>xName_is h λz r h=>
  an10 h λh1 h2 h3 h4 h5 h6 h7 h8 h9 h10=>be' h1 <| be' h2 <| be' h3 <| aok_of rfl (λ_ _=>rfl) (sortK_arm H.W K H.R2 H.call (eq_of_beq h4) (b.glob h5) h6 (b.glob h7) (noDbg_is h8) h9 (mE_ok H b K h10).x)
 | .get2 x k y,c,pe,B,b,K,h=>xCall_is h λg l ks p h=>xAttr_is h λu y q h=>l2_is h λv z h=>an8 h λh0 h1 h2 h3 h4 h5 h6 h7=>l0_is h0 <| be' h1 <| aok_of rfl (λ_ _=>rfl) (get2_arm h2 h3 h4 (mE_ok H b K h5).ee (mE_ok H b K h6) (mE_ok H b K h7))
 | .join s x,c,pe,B,b,K,h=>xCall_is h λg l ks p h=>xAttr_is h λu y q h=>l1_is h λv h=>xCst_is h λk n r h=>cStr_is h λt h=>an6 h λh0 h1 h2 h3 h4 h5=>l0_is h0 <| be' h1 <| be' h2 <| aok_of rfl (λ_ _=>rfl) (join_arm h3 h4 (mE_ok H b K h5).ee)
 | .split x s,c,pe,B,b,K,h=>xCall_is h λg l ks p h=>xAttr_is h λu y q h=>l1_is h λv h=>xCst_is h λk n r h=>cStr_is h λt h=>an6 h λh0 h1 h2 h3 h4 h5=>l0_is h0 <| be' h1 <| be' h2 <| aok_of rfl (λ_ _=>rfl) (split_arm (noBase_is h3 _) h4 (mE_ok H b K h5).ee)
 | .comp elt gs,c,pe,B,b,K,h=>xComp_is h λu l z p h=>an4 h λh1 h2 h3 h4=>aok_of rfl (λ_ _=>rfl) (comp_arm K (comp_cok H.R.handled b (eq_of_beq h1) h2 (λB' b' K'=>(mE_ok H b' K' h3).ee) K (mGs_ok H h4)))
theorem mEs_ok (H:Here Z Y d):∀ {es:List E} {c:Cx} {pes:List Expr} {B:Blk},CxB c B→BlkOK B→mEs Z.I es c pes = true→AllOK Z Y B es pes
 | [],c,pes,B,b,K,h=>l0_is h .nil
 | e :: es,c,pes,B,b,K,h=>lc_is h λpe pes h=>an2 h λh1 h2=>.cons (mE_ok H b K h1) (mEs_ok H b K h2)
theorem mDs_ok (H:Here Z Y d):∀ {es:List E} {c:Cx} {z:Bool} {ks:List (Option Expr)} {vs:List Expr} {B:Blk},CxB c B→BlkOK B→mDs Z.I es c z ks vs = true→DcAt Z Y B es z ks vs
 | [],c,true,ks,vs,B,b,K,h=>.key (dct_nil h)
 | [],c,false,ks,vs,B,b,K,h=>ff h
 | e :: es,c,true,ks,vs,B,b,K,h=>lc_is h λo ks h=>so_is h λpk h=>an2 h λh1 h2=>dc_key (mE_ok H b K h1).ee (mDs_ok H b K h2)
 | e :: es,c,false,ks,vs,B,b,K,h=>lc_is h λpv vs h=>an2 h λh1 h2=>.val (mE_ok H b K h1).ee (mDs_ok H b K h2).dct
theorem mIt_ok (H:Here Z Y d):∀ {it:Mine.It} {c:Cx} {pt pe:Expr} {B:Blk},CxB c B→BlkOK B→mIt Z.I it c pt pe = true→ItOK Z Y B it pt pe
 | .plain e,c,pt,pe,B,b,K,h=>plain_it H.R.handled (mE_ok H b K h).ee
 | .range x,c,pt,pe,B,b,K,h=>xName_is h λz r h=>xCall_is h λg l ks p h=>xName_is h λy q h=>l1_is h λv h=>an6 h λh0 h1 h2 h3 h4 h5=>l0_is h0 <| be' h1 <| range_it H.W K H.R.handled (eq_of_beq h2) (b.glob h3) h4 (mE_ok H b K h5)
 | .zip x y,c,pt,pe,B,b,K,h=>xTup_is h λz n r h=>xCall_is h λg l ks p h=>xName_is h λy q h=>l2_is h λu v h=>an8 h λh0 h1 h2 h3 h4 h5 h6 h7=>l0_is h0 <| be' h1 <| zip_it H.W K H.R.handled (eq_of_beq h2) (b.glob h3) h4 h5 (mE_ok H b K h6).ee (mE_ok H b K h7).ee
theorem mGs_ok (H:Here Z Y d):∀ {gs:List G} {c c':Cx} {ges:List Comprehension} {n:Nat},mGs Z.I gs c c' ges n = true→GsOK Z Y c' c gs ges n
 | [],c,c',ges,n,h=>an2 h λh1 h2=>l0_is h1 ⟨rfl,of_decide_eq_true h2⟩
 | .mk t it ifs :: gs,c,c',ges,0,h=>ff h
 | .mk t it ifs :: gs,c,c',ges,n + 1,h=>lc_is h λz ges h=>geD_is h λu v l m h=>an4 h λh1 h2 h3 h4=>be' h1 <| an3 h3 λh5 h6 h7=>.mk h2 ⟨λB b K=>mIt_ok H b K h6,λB b K=>mTg_is b K h5,λB b K=>mEs_ok H b K h7⟩ (mGs_ok H h4)
end
end
noncomputable def mNs (c:Cx):List Nat→List Expr→Bool
 | [],l=>l0 l
 | i :: is,l=>lc l λe es=>xName e λx _=>c.put i x && mNs c is es
noncomputable def swB (c:Cx) (x:Str) (p:Pos) (e:Expr):Bool:=if h:e.ctorIdx = 8 then Expr.ListComp.elim e h λ_ _ scope cpos=>(c.sc.lookup x == some .local && p.line == cpos.line) && !(scope.names.any λ(n,k)=>n == x && (k == .local || k == .cell)) else false
noncomputable def asComp (e:Expr):Bool:=decide (e.ctorIdx ≠ 9) && decide (e.ctorIdx ≠ 10)
noncomputable def isComp (e:E):Bool:=decide (e.ctorIdx = 27)
mutual
noncomputable def mS (I:Info):S→Cx→Stmt→Bool
 | .bad,_,_=>true
 | .asg i e,c,ps=>sAsg ps λts pe=>l1 ts λt=>xName t λx p=>c.put i x && (asComp pe && (mE I e c pe && (isComp e || !swB c x p pe)))
 | .own i e,c,ps=>sAsg ps λts pe=>l1 ts λt=>xName t λx p=>c.put i x && (asComp pe && (mE I e c pe && (fresh e && (isComp e || !swB c x p pe))))
 | .un is e,c,ps=>sAsg ps λts pe=>l1 ts λt=>xTup t λes=>mNs c is es && (notTup pe && mE I e c pe)
 | .un2 i j oi oj a b,c,ps=>sAsg ps λts pe=>l1 ts λt=>xTup t λes=>l2 es λu v=>xName u λx _=>xName v λy _=>xTup pe λpes=>l2 pes λpa pb=>
  c.put i x && (c.put j y && (decide (i ≠ j) && (plainPE pa && (plainPE pb && (([pa,pb].all (foldedForSure 8) || !([pa,pb].all (constantsAlone 8))) && ((!oi || fresh a) && ((!oj || fresh b) && (mE I a c pa && mE I b c pb))))))))
 | .pop is one l,c,ps=>sAsg ps λts pe=>l1 ts λtgt=>xCall pe λg pes ks cpos=>xAttr g λq y apos=>xName q λx _=>l0 pes && (l0 ks && (y == ("pop":Str) && (c.has l x && (okN x && (apos.endLine == cpos.line && (match one with
  | true=>l1 is λj=>xName tgt λz _=>c.put j z
  | false=>xTup tgt λes=>mNs c is es))))))
 | .app l e,c,ps=>sExpr ps λpe=>xCall pe λg pes ks cpos=>xAttr g λq y apos=>xName q λx _=>l1 pes λpa=>l0 ks && (y == ("append":Str) && (c.has l x && (okN x && (apos.endLine == cpos.line && (plainPE pa && mE I e c pa)))))
 | .ext l e,c,ps=>sExpr ps λpe=>xCall pe λg pes ks cpos=>xAttr g λq y apos=>xName q λx _=>l1 pes λpa=>l0 ks && (y == ("extend":Str) && (c.has l x && (okN x && (apos.endLine == cpos.line && (plainPE pa && mE I e c pa)))))
 | .seta o cl k x e,c,ps=>sAsg ps λts pe=>l1 ts λt=>xAttr t λq z _=>xName q λy _=>x == z && (c.has o y && (okN y && (attrOk I cl k x && (Nat.ble (I.flds cl).length 1000 && (notComp pe && mE I e c pe)))))
 | .seti d k e,c,ps=>sAsg ps λts pe=>l1 ts λt=>xSub t λpd pk=>notComp pe && (mE I d c pd && (mE I k c pk && mE I e c pe))
 | .expr e,c,ps=>sExpr ps λpe=>notComp pe && mE I e c pe
 | .ite t a b,c,ps=>sIf ps λpt pa pb=>mE I t c pt && (mSs I a c pa && mSs I b c pb)
 | .whl t b,c,ps=>sWhl ps λpt pb z=>l0 z && (mE I t c pt && mSs I b c pb)
 | .fr t it b,c,ps=>sFor ps λpt pi pb z=>l0 z && (notSet pi && (mIt I it c pt pi && (mTg c t pt && mSs I b c pb)))
 | .ret e,c,ps=>sRet ps λo=>so o λpe=>mE I e c pe
 | .retO i,c,ps=>sRet ps λo=>so o λpe=>xName pe λx _=>c.has i x && okN x
noncomputable def mSs (I:Info):List S→Cx→List Stmt→Bool
 | [],_,ps=>l0 ps
 | s :: ss,c,ps=>lc ps λp ps=>mS I s c p && mSs I ss c ps
end
section
variable {Z:Zt} {Y:Yt} {B:Blk} {c c':Cx} {d:Nat}
theorem mNs_is (b:CxB c B) (K:BlkOK B):∀ {is:List Nat} {es:List Expr},mNs c is es = true→NsOK B is es
 | [],es,h=>l0_is h .nil
 | i :: is,es,h=>lc_is h λe es h=>xName_is h λx p h=>an2 h λh h2=>
  .cons (b.put K h) (mNs_is b K h2)
theorem swB_is (b:CxB c B) (K:BlkOK B) {x:Str} {p:Pos} {pe:Expr} {line:Nat} (h:asComp pe = true):swapsWith pe (some (.Name x p)) line B.env = pure (swB c x p pe):=by
 cases pe with
 | ListComp=>rw [swaps_comp K,b.sc]; rfl
 | SetComp=>exact ff h
 | DictComp=>exact ff h
 | _=>rfl
theorem im {a b:Bool} (h:(!a || b) = true) (q:a = true):b = true:=bor_is h (λz=>ff ((congrArg not q).symm.trans z)) id
theorem comp_parts (H:Here Z Y d) (b:CxB c B) (K:BlkOK B) {elt:E} {gs:List G} {pelt:Expr} {gens:List Comprehension} {scope:Scope} {pos:Pos} (h:mE Z.I (.comp elt gs) c (.ListComp pelt gens scope pos) = true) :
 CompOK Z Y B elt pelt scope pos gs gens:=
 an4 h λh1 h2 h3 h4=>comp_cok H.R.handled b (eq_of_beq h1) h2 (λB' b' K'=>(mE_ok H b' K' h3).ee) K (mGs_ok H h4)
@[elab_as_elim] theorem swB_comp {M:Expr→Prop} {x:Str} {p:Pos} {pe:Expr} (h:swB c x p pe = true) (k:∀ pelt gens scope pos,M (.ListComp pelt gens scope pos)):M pe:=
 dt h λq _=>Expr.ListComp.elim (motive_1:=M) pe q k
@[elab_as_elim] theorem comp_E {M:E→Prop} {e:E} (h:isComp e = true) (k:∀ elt gs,M (.comp elt gs)):M e:=E.comp.elim (motive_1:=M) e (of_decide_eq_true h) k
theorem mAsg_ok (H:Here Z Y d) (b:CxB c B) (K:BlkOK B) {own:Bool} {i:Nat} {x:Str} {p pos:Pos} {e:E} {pe:Expr} (h1:c.put i x = true) (h2:asComp pe = true) (h3:mE Z.I e c pe = true) (hf:own = true→fresh e = true)
 (h4:(isComp e || !swB c x p pe) = true):SOK Z Y B (cond own (.own i e) (.asg i e)) (.Assign [.Name x p] pe pos):=
 have sw:=swB_is (line:=pos.line) (x:=x) (p:=p) b K h2
 match hsw:swB c x p pe with
 | true=>bor_is h4 (λh4=>comp_E (M:=λe=>mE Z.I e c pe = true→SOK Z Y B (cond own (.own i e) (.asg i e)) (.Assign [.Name x p] pe pos)) h4 (λelt gs=>swB_comp (M:=λpe=>swapsWith pe (some (.Name x p)) pos.line B.env = pure true→mE Z.I (.comp elt gs) c pe = true→SOK Z Y B (cond own (.own i (.comp elt gs)) (.asg i (.comp elt gs))) (.Assign [.Name x p] pe pos)) hsw
  (λpelt gens scope cpos sw h3=>asg_comp K (b.put K h1) sw (comp_parts H b K h3)) (sw.trans (congrArg pure hsw))) h3) λz=>ff ((congrArg not hsw).symm.trans z)
 | false=>match own,hf with
  | true,hf=>own_plain K (b.put K h1) (hf rfl) (sw.trans (congrArg pure hsw)) (mE_ok H b K h3).ee
  | false,_=>asg_plain K (b.put K h1) (sw.trans (congrArg pure hsw)) (mE_ok H b K h3).ee
theorem un2_ok (H:Here Z Y d) (b:CxB c B) (K:BlkOK B) {i j:Nat} {oi oj:Bool} {a e:E} {pa pb:Expr} {x y:Str} {p q r t u:Pos} {n m:Nat} (h1:c.put i x = true) (h2:c.put j y = true) (h3:decide (i ≠ j) = true) (h4:plainPE pa = true) (h5:plainPE pb = true)
 (h6:([pa,pb].all (foldedForSure 8) || !([pa,pb].all (constantsAlone 8))) = true) (h7:(!oi || fresh a) = true) (h8:(!oj || fresh e) = true) (h9:mE Z.I a c pa = true) (h10:mE Z.I e c pb = true) :
 SOK Z Y B (.un2 i j oi oj a e) (.Assign [.Tuple [.Name x p,.Name y q] n r] (.Tuple [pa,pb] m t) u):=
 un2_arm H.R.handled K (b.put K h1) (b.put K h2) (of_decide_eq_true h3) h4 h5 (bor_is h6 .inl λz=>.inr (nb z)) (im h7) (im h8) (mE_ok H b K h9).ee (mE_ok H b K h10).ee
theorem pop1_ok (b:CxB c B) (K:BlkOK B) {j l:Nat} {x z:Str} {p q r t u:Pos} (h1:c.has l x = true) (h2:okN x = true) (h3:(r.endLine == t.line) = true) (h4:c.put j z = true) :
 SOK Z Y B (.pop [j] true l) (.Assign [.Name z p] (.Call (.Attribute (.Name x q) ("pop":Str) r) [] [] t) u):=pop1_arm K (b.has h1) (okN_is h2).1 (okN_is h2).2 h3 (b.put K h4)
mutual
theorem mS_ok (H:Here Z Y d):∀ {st:S} {c:Cx} {ps:Stmt} {B:Blk},CxB c B→BlkOK B→mS Z.I st c ps = true→SOK Z Y B st ps
 | .bad,c,ps,B,b,K,h=>λwE sE ρ σ r cv w s hlo t e=>nn e
 | .asg i e,c,ps,B,b,K,h=>sAsg_is h λl pe z h=>l1_is h λu h=>xName_is h λx p h=>an4 h λh1 h2 h3 h4=>mAsg_ok (own:=false) H b K h1 h2 h3 ff h4
 | .own i e,c,ps,B,b,K,h=>sAsg_is h λl pe z h=>l1_is h λu h=>xName_is h λx p h=>an5 h λh1 h2 h3 h4 h5=>mAsg_ok (own:=true) H b K h1 h2 h3 (λ_=>h4) h5
 | .un is e,c,ps,B,b,K,h=>sAsg_is h λl pe z h=>l1_is h λu h=>xTup_is h λm n p h=>an3 h λh1 h2 h3=>un_arm H.R.handled K (mNs_is b K h1) h2 (mE_ok H b K h3).ee
 | .un2 i j oi oj x y,c,ps,B,b,K,h=>sAsg_is h λl pe z h=>l1_is h λu h=>xTup_is h λm n p h=>l2_is h λu v h=>xName_is h λu r h=>xName_is h λv q h=>xTup_is h λm n p h=>l2_is h λpa pb h=>
  an10 h (un2_ok H b K)
 | .pop is true l,c,ps,B,b,K,h=>sAsg_is h λts pe z h=>l1_is h λu h=>xCall_is h λg m ks p h=>xAttr_is h λf y q h=>xName_is h λx r h=>an7 h λh0 h1 h2 h3 h4 h5 h6=>l0_is h0 <| l0_is h1 <| be' h2 <| l1_is h6 λj h=>xName_is h λz t h=>pop1_ok b K h3 h4 h5 h
 | .pop is false l,c,ps,B,b,K,h=>sAsg_is h λts pe z h=>l1_is h λu h=>xCall_is h λg m ks p h=>xAttr_is h λf y q h=>xName_is h λx r h=>an7 h λh0 h1 h2 h3 h4 h5 h6=>l0_is h0 <| l0_is h1 <| be' h2 <| xTup_is h6 λm n t h=>popN_arm H.R.handled K (b.has h3) (okN_is h4).1 (okN_is h4).2 h5 (mNs_is b K h)
 | .app l e,c,ps,B,b,K,h=>sExpr_is h λpe z h=>xCall_is h λg m ks p h=>xAttr_is h λf y q h=>xName_is h λx r h=>l1_is h λu h=>an7 h λh0 h1 h2 h3 h4 h5 h6=>l0_is h0 <| be' h1 <| app_arm K (b.has h2) (okN_is h3).1 (okN_is h3).2 h5 h4 (mE_ok H b K h6).ee
 | .ext l e,c,ps,B,b,K,h=>sExpr_is h λpe z h=>xCall_is h λg m ks p h=>xAttr_is h λf y q h=>xName_is h λx r h=>l1_is h λu h=>an7 h λh0 h1 h2 h3 h4 h5 h6=>l0_is h0 <| be' h1 <| ext_arm K (b.has h2) (okN_is h3).1 (okN_is h3).2 h5 h4 (mE_ok H b K h6).ee
 | .seta o cl k x e,c,ps,B,b,K,h=>sAsg_is h λl pe z h=>l1_is h λu h=>xAttr_is h λf y q h=>xName_is h λv r h=>an7 h λh1 h2 h3 h4 h5 h6 h7=>be h1 <| seta_arm H.W.toBase K (b.has h2) (okN_is h3).1 (okN_is h3).2 h4 (Nat.le_of_ble_eq_true h5) h6 (mE_ok H b K h7).ee
 | .seti x k e,c,ps,B,b,K,h=>sAsg_is h λl pe z h=>l1_is h λu h=>xSub_is h λf y q h=>an4 h λh1 h2 h3 h4=>seti_arm h1 (mE_ok H b K h2).ee (mE_ok H b K h3).ee (mE_ok H b K h4).ee
 | .expr e,c,ps,B,b,K,h=>sExpr_is h λpe z h=>an2 h λh1 h2=>expr_arm K h1 (mE_ok H b K h2).ee
 | .ite t x y,c,ps,B,b,K,h=>sIf_is h λu v z p h=>an3 h λh1 h2 h3=>ite_arm (mE_ok H b K h1) (mSs_ok H b K h2) (mSs_ok H b K h3)
 | .whl t x,c,ps,B,b,K,h=>sWhl_is h λu v z p h=>an3 h λh0 h1 h2=>l0_is h0 <| whl_arm (mE_ok H b K h1) (mSs_ok H b K h2)
 | .fr t it x,c,ps,B,b,K,h=>sFor_is h λu v y z p h=>an5 h λh0 h1 h2 h3 h4=>l0_is h0 <| fr_arm H.R.handled K h1 (mIt_ok H b K h2) (mTg_is b K h3) (mSs_ok H b K h4)
 | .ret e,c,ps,B,b,K,h=>sRet_is h λo p h=>so_is h λpe h=>ret_arm (mE_ok H b K h).ee
 | .retO i,c,ps,B,b,K,h=>sRet_is h λo p h=>so_is h λpe h=>xName_is h λx q h=>an2 h λh1 h2=>retO_arm K (b.has h1) (okN_is h2).1 (okN_is h2).2
theorem mSs_ok (H:Here Z Y d):∀ {ss:List S} {c:Cx} {ps:List Stmt} {B:Blk},CxB c B→BlkOK B→mSs Z.I ss c ps = true→SsOK Z Y B ss ps
 | [],c,ps,B,b,K,h=>l0_is h ss_nil
 | st :: ss,c,ps,B,b,K,h=>lc_is h λp ps h=>an2 h λh1 h2=>ss_cons (mS_ok H b K h1) (mSs_ok H b K h2)
end
end
noncomputable def uInt (e:Value) (k:Int→Bool):Bool:=if h:e.ctorIdx = 4 then Value.int.elim e h λi _=>k i else false
@[elab_as_elim] theorem uInt_is {M:Value→Prop} {e:Value} {k:Int→Bool} (h:uInt e k = true) (c:∀ i t,k i = true→M (.int i t)):M e:=
 dt h λq=>Value.int.elim (motive:=λe=>∀ q:e.ctorIdx = 4,Value.int.elim e q (λi _=>k i) = true→M e) e q (λi t _=>c i t) q
noncomputable def uStr (e:Value) (k:Str→Bool):Bool:=if h:e.ctorIdx = 6 then Value.str.elim e h λi _=>k i else false
@[elab_as_elim] theorem uStr_is {M:Value→Prop} {e:Value} {k:Str→Bool} (h:uStr e k = true) (c:∀ i t,k i = true→M (.str i t)):M e:=
 dt h λq=>Value.str.elim (motive:=λe=>∀ q:e.ctorIdx = 6,Value.str.elim e q (λi _=>k i) = true→M e) e q (λi t _=>c i t) q
noncomputable def uRef (e:Value) (k:Addr→Bool):Bool:=if h:e.ctorIdx = 10 then Value.ref.elim e h λi=>k i else false
@[elab_as_elim] theorem uRef_is {M:Value→Prop} {e:Value} {k:Addr→Bool} (h:uRef e k = true) (c:∀ i,k i = true→M (.ref i)):M e:=
 dt h λq=>Value.ref.elim (motive:=λe=>∀ q:e.ctorIdx = 10,Value.ref.elim e q (λi=>k i) = true→M e) e q (λi _=>c i) q
noncomputable def dSeq (e:Data) (k:Array Value→Bool):Bool:=if h:e.ctorIdx = 2 then Data.seq.elim e h λi _=>k i else false
@[elab_as_elim] theorem dSeq_is {M:Data→Prop} {e:Data} {k:Array Value→Bool} (h:dSeq e k = true) (c:∀ i t,k i = true→M (.seq i t)):M e:=
 dt h λq=>Data.seq.elim (motive:=λe=>∀ q:e.ctorIdx = 2,Data.seq.elim e q (λi _=>k i) = true→M e) e q (λi t _=>c i t) q
noncomputable def dFn (e:Data) (k:FuncData→Bool):Bool:=if h:e.ctorIdx = 7 then Data.func.elim e h λi=>k i else false
@[elab_as_elim] theorem dFn_is {M:Data→Prop} {e:Data} {k:FuncData→Bool} (h:dFn e k = true) (c:∀ i,k i = true→M (.func i)):M e:=
 dt h λq=>Data.func.elim (motive:=λe=>∀ q:e.ctorIdx = 7,Data.func.elim e q (λi=>k i) = true→M e) e q (λi _=>c i) q
noncomputable def bSt (e:FuncBody) (k:List Stmt→Bool):Bool:=e.casesOn k λ_=>false
@[elab_as_elim] theorem bSt_is {M:FuncBody→Prop} {e:FuncBody} {k:List Stmt→Bool} (h:bSt e k = true) (c:∀ i,k i = true→M (.stmts i)):M e:=
 e.casesOn (motive:=λe=>bSt e k = true→M e) c (λ_=>ff) h
noncomputable def tupB (o:Obj) (k:Array Value→Bool):Bool:=decide (o.cls = .type "tuple") && (no o.dict && (decide (o.slots = #[]) && dSeq o.data k))
@[elab_as_elim] theorem tupB_is {M:Obj→Prop} {o:Obj} {k:Array Value→Bool} (h:tupB o k = true) (c:∀ xs n,k xs = true→M (tupO xs n)):M o:=by
 obtain ⟨a,b,d,e⟩:=o
 exact an4 (a:=decide (a = .type "tuple")) (b:=no b) (c:=decide (e = #[])) (d:=dSeq d k) h λh1 h2 h3 h4=>de h1 (no_is h2 (de h3 (dSeq_is h4 c)))
mutual
noncomputable def vIn (K:Frag):V→Value→Bool
 | .none,c=>decide (c = .none)
 | .bool b,c=>decide (c = .bool b)
 | .int i,c=>uInt c λj=>j == i
 | .str x,c=>uStr c λy=>y == x
 | .tup l,c=>uRef c λa=>so (K.lookup a) λo=>tupB o λxs=>vsIn K l xs.toList
 | .lst _,_ | .dct _ _,_ | .ins _ _,_ | .ref _,_ | .obj _ _,_=>false
noncomputable def vsIn (K:Frag):List V→List Value→Bool
 | [],cs=>l0 cs
 | v :: l,cs=>lc cs λc r=>vIn K v c && vsIn K l r
end
section
variable {Z:Zt} {h₀:Heap} {w:GW} {K:Frag}
theorem tup_in {a:Addr} {l:List V} {k:Array Value→Bool} (XK:K.In h₀) (hb:∀ a o,h₀.get? a = some o→w.im a = some o) (h:so (K.lookup a) (λo=>tupB o k) = true) (c:∀ xs,k xs = true→VRs Z w l xs.toList):VR Z w (.tup l) (.ref a):=
 so_eq h λo e h=>tupB_is (M:=λo=>K.lookup a = some o→VR Z w (.tup l) (.ref a)) h (λxs n h e=>SeqR.mk a xs n (hb _ _ (XK _ _ e)) (c xs h)) e
mutual
theorem vIn_ok (XK:K.In h₀) (hb:∀ a o,h₀.get? a = some o→w.im a = some o):∀ {v:V} {c:Value},vIn K v c = true→VR Z w v c
 | .none,c,h=>de (M:=VR Z w .none) h rfl
 | .bool b,c,h=>de (M:=VR Z w (.bool b)) h rfl
 | .int i,c,h=>uInt_is (M:=VR Z w (.int i)) h λj t h=>be' h ⟨t⟩
 | .str i,c,h=>uStr_is (M:=VR Z w (.str i)) h λj t h=>be' h ⟨t⟩
 | .tup l,c,h=>uRef_is (M:=VR Z w (.tup l)) h λa h=>tup_in XK hb h λxs h=>vsIn_ok XK hb h
 | .lst _,_,h | .dct _ _,_,h | .ins _ _,_,h | .ref _,_,h | .obj _ _,_,h=>ff h
theorem vsIn_ok (XK:K.In h₀) (hb:∀ a o,h₀.get? a = some o→w.im a = some o):∀ {l:List V} {cs:List Value},vsIn K l cs = true→VRs Z w l cs
 | [],cs,h=>l0_is (M:=VRs Z w []) h .nil
 | v :: l,cs,h=>lc_is (M:=VRs Z w (v :: l)) h λc r h=>an2 h λh1 h2=>.cons (vIn_ok XK hb h1) (vsIn_ok XK hb h2)
end
end
noncomputable def dflB (K:Frag) (dfl:List V) (dV:Value):Bool:=(decide (dV = .none) && l0 dfl) || uRef dV λT=>so (K.lookup T) λo=>dSeq o.data λxs=>vsIn K dfl xs.toList
noncomputable def DflOf (s:Shared) (dV:Value) (dl:List Value):Prop:=∀ (M:Model) (A:Around) (E:Value→Shared→Prop) (Q:Option (Array Value)→Shared→Prop),(∀ o:Option (Array Value),(o.getD #[]).toList = dl→Q o s)→wpAny M A (seqItems? dV) Q E s
theorem dflB_ok {Z:Zt} {h₀:Heap} {w:GW} {K:Frag} {dfl:List V} {dV:Value} {s:Shared} (XK:K.In h₀) (hk:∀ a o,h₀.get? a = some o→s.heap.get? a = some o) (hb:∀ a o,h₀.get? a = some o→w.im a = some o) (h:dflB K dfl dV = true) :
 ∃ dl,VRs Z w dfl dl∧DflOf s dV dl:=
 bor_is h (λh=>an2 h λh1 h2=>de h1 (l0_is h2 ⟨[],.nil,λM A E Q hq=>wpAny_pure (hq none rfl)⟩))
  fun h=>uRef_is h λT h=>so_eq h λo e h=>by
   obtain ⟨oc,od,d,os⟩:=o
   exact dSeq_is (M:=λd=>K.lookup T = some ⟨oc,od,d,os⟩→_) h (λxs n h e=>⟨xs.toList,vsIn_ok XK hb h,λM A E Q hq=>wpAny_seqItems (hk _ _ (XK _ _ e)) rfl (hq _ rfl)⟩) e
noncomputable def shapeB (I:Info) (nm:List Str) (dfl:List V) (dV cdv:Value) (qual:Str) (scope:Scope) (t:Tab):Bool:=
 codeIn I.K cdv qual && (scope.kind == .function && (!scope.isCoroutine && (!scope.isGenerator && ((scope.names.all λp=>!(p.2 == .free)) && (nodupB nm &&
  ((nm.all λx=>scope.names.lookup x == some .local || scope.names.lookup x == some .cell) && (tabB t && (Nat.ble dfl.length nm.length && dflB I.K dfl dV))))))))
noncomputable def mSets (I:Info) (cl:Nat) (self:Str) (c:Cx):List (Nat×Str×E)→List Stmt→Nat→Bool
 | [],ps,n=>l0 ps && (I.flds cl).length == n
 | (k,x,e) :: r,ps,n=>lc ps λp ps=>sAsg p λts pe=>l1 ts λt=>xAttr t λq z _=>xName q λy _=>z == x && (y == self && (k == n && ((I.flds cl)[n]? == some x && (fieldOk I.K (I.cadr cl) x && (notComp pe && (mE I e c pe && mSets I cl self c r ps (n + 1)))))))
noncomputable def prB (p:Arguments) (k:List Arg→Bool):Bool:=l0 p.posonlyargs && (no p.vararg && (l0 p.kwonlyargs && (no p.kwarg && k p.args)))
@[elab_as_elim] theorem prB_is {M:Arguments→Prop} {p:Arguments} {k:List Arg→Bool} (h:prB p k = true) (c:∀ ps kd de,k ps = true→M ⟨[],ps,none,[],kd,none,de⟩):M p:=by
 obtain ⟨a,b,d,e,f,g,i⟩:=p
 exact an5 (a:=l0 a) (b:=no d) (c:=l0 e) (d:=no g) (e:=k b) h λh1 h2 h3 h4 h5=>l0_is h1 (no_is h2 (l0_is h3 (no_is h4 (c b f i h5))))
noncomputable def fdB (f:FuncData) (k:Str→List Arg→List Stmt→Scope→Value→Value→Bool):Bool:=l0 f.closure && (f.globals == mainGlobals && (f.builtins == builtinsNs && prB f.params λps=>bSt f.body λb=>k f.qualname ps b f.scope f.defaults f.code))
@[elab_as_elim] theorem fdB_is {M:FuncData→Prop} {f:FuncData} {k:Str→List Arg→List Stmt→Scope→Value→Value→Bool} (h:fdB f k = true)
 (c:∀ name qual ps kd de body scope dV kV doc pm an cdv ct,k qual ps body scope dV cdv = true→M (fnOf name qual ⟨[],ps,none,[],kd,none,de⟩ body scope dV kV doc pm an cdv ct)):M f:=by
 obtain ⟨name,qual,p,b,scope,g,cl,dV,kV,doc,pm,an,cdv,ct,bi⟩:=f
 exact an4 (a:=l0 cl) (b:=g == mainGlobals) (c:=bi == builtinsNs) (d:=prB p λps=>bSt b λb=>k qual ps b scope dV cdv) h λh1 h2 h3 h4=>l0_is h1 (be' h2 (be' h3 (prB_is h4 λps kd de h=>bSt_is h λb h=>c name qual ps kd de b scope dV kV doc pm an cdv ct h)))
structure FnAt (K:Frag) (a:Addr) (qual:Str) (ps:List Arg) (body:List Stmt) (scope:Scope) (dV cdv:Value):Prop where
 at_:∃ name kd de kV doc pm an ct oc od osl,K.lookup a = some ⟨oc,od,.func (fnOf name qual ⟨[],ps,none,[],kd,none,de⟩ body scope dV kV doc pm an cdv ct),osl⟩
noncomputable def fnAt (K:Frag) (a:Addr) (k:Str→List Arg→List Stmt→Scope→Value→Value→Bool):Bool:=so (K.lookup a) λo=>dFn o.data λf=>fdB f k
theorem fnAt_is {G:Prop} {K:Frag} {a:Addr} {k:Str→List Arg→List Stmt→Scope→Value→Value→Bool} (h:fnAt K a k = true) (c:∀ qual ps body scope dV cdv,FnAt K a qual ps body scope dV cdv→k qual ps body scope dV cdv = true→G):G:=
 so_eq h λo e h=>by
  obtain ⟨oc,od,d,os⟩:=o
  exact dFn_is (M:=λd=>K.lookup a = some ⟨oc,od,d,os⟩→G) h (λf h=>fdB_is (M:=λf=>K.lookup a = some ⟨oc,od,.func f,os⟩→G) h λname qual ps kd de body scope dV kV doc pm an cdv ct h e=>c qual ps body scope dV cdv ⟨_,_,_,_,_,_,_,_,_,_,_,e⟩ h) e
noncomputable def fnB (I:Info) (t:Tab) (f:Nat):D→Bool
 | .fn np _ dfl body=>fnAt I.K (I.addr f) λqual ps pbody scope dV cdv=>shapeB I (ps.map (·.arg)) dfl dV cdv qual scope t && (ps.length == np && ((t.all λp=>!(Nat.blt p.1 np) || (ps.map (·.arg))[p.1]? == some p.2) && mSs I body ⟨t,scope.names,true,[]⟩ pbody))
 | .cls c np _ dfl sets _=>I.addr f == I.cadr c && (makesIn I.K (I.cadr c) && (clsOk I.K (I.cadr c) && (nodupB (I.flds c) && (Nat.ble (I.flds c).length 1000 &&
  so (findIn I.K (.ref (I.cadr c)) "__init__") λo=>so o λfv=>uRef fv λfi=>typeIn I.K (.ref fi) == some (.type "function") && fnAt I.K fi λqual ps pbody scope dV cdv=>lc ps λself qs=>
   shapeB I (self.arg :: qs.map (·.arg)) dfl dV cdv qual scope t && (qs.length == np && (okN self.arg && ((t.all λp=>p.1.casesOn false λk=>!(Nat.blt k np) || (qs.map (·.arg))[k]? == some p.2) && (Nat.ble dfl.length np && mSets I c self.arg ⟨t,scope.names,true,[]⟩ sets pbody 0))))))))
section
variable {Z:Zt} {Y:Yt} {B:Blk} {c c':Cx} {d:Nat} {w w' w0:GW} {s s' s0:Shared} {σ σ':H} {ρ ρ':Rho} {m:Str→Option Value} {cv:Nat→Value}
theorem load_look {Q:Value→Shared→Prop} (K:BlkOK B) {x:Str} {v:Value} {pos:Pos} (hn:s.heap.Ns B.env.locals m) (l:Look1 B.env s.heap m x v) (h1:okN x = true) (h:Q v s):wpAny Z.M Y.A (eval (.Name x pos) B.env) Q NoE s:=
 have q:=okN_is h1
 wpAny_Name (load_at K.env hn l q.1 h) q.2
inductive Flds (Z:Zt) (h:Heap) (dx:Addr) (cl:Nat) (acc:List V) (w:GW):Prop
 | mk (od:Obj):h.get? dx = some od→KvR Z ((Z.I.flds cl).take acc.length) (VRs Z w acc) od→Flds Z h dx cl acc w
structure Making (Z:Zt) (B:Blk) (w0:GW) (s0:Shared) (x dx:Addr) (cl:Nat) (slf:Str) (m:Str→Option Value) (ρ:Rho) (cv:Nat→Value) (σ:H) (acc:List V) (w:GW) (s:Shared):Prop where
 post:Post Z w0 s0 σ w s
 er:ER Z B w ρ s.heap m cv
 me:Look1 B.env s.heap m slf (.ref x)
 xo:s.heap.get? x = some (instObj (Z.I.cadr cl) dx)
 xn:Own s0 w x
 dn:Own s0 w dx
 lo:∃ o,B.lo.get? dx = some o
 do_:Flds Z s.heap dx cl acc w
 noOwn:∀ i l,getS ρ i ≠ some (.own l)
variable {x dx:Addr} {cl:Nat} {self:Str} {acc:List V} {σ1:H} {w1:GW} {s1:Shared}
theorem Own.post {o:Obj} (n:Own s0 w x) (P:Post Z w s σ w' s') (e:s.heap.get? x = some o):Own s0 w' x:=⟨n.new,(P.still e n.pr).2⟩
theorem Making.post' (M:Making Z B w0 s0 x dx cl self m ρ cv σ acc w s) (P:Post Z w s σ1 w1 s1):Making Z B w0 s0 x dx cl self m ρ cv σ1 acc w1 s1 where
 post:=M.post.trans P
 er:=M.er.post P
 me:=M.me.keep λz a hz o ho=>(P.still ho (M.er.cell z a hz).pr).1
 xo:=(P.still M.xo M.xn.pr).1
 xn:=M.xn.post P M.xo
 dn:=M.do_.casesOn λ_ h _=>M.dn.post P h
 lo:=M.lo
 do_:=M.do_.casesOn λod h k=>.mk od (P.still h M.dn.pr).1 (k.casesOn λkvs D h3 h4=>⟨kvs,D,h3,h4.ext P.ext⟩)
 noOwn:=M.noOwn
theorem Making.mut (M:Making Z B w0 s0 x dx cl self m ρ cv σ acc w s) (hst:∀ y,B.st y = true) (q:Mut B ρ cv dx):False:=
 M.lo.elim λlo hlo=>q.elim (λq=>no_so M.er.bnd (q ▸ hlo)) λq=>q.elim (λ⟨z,q⟩=>no_so ((M.er.cell z dx q).new (hst z)) hlo) λ⟨i,z,l,_,q,_⟩=>M.noOwn i l q
theorem inst_ne {h:Heap} {o:Obj} {C e:Addr} {kvs:List (Str×Value)} (h1:h.get? x = some (instObj C e)) (h2:h.get? dx = some o) (D:Obj.IsDictOf Z.knd o kvs):x ≠ dx:=λq=>by
 subst q
 exact dict_is (M:=λo=>h.get? x = some o→False) D (λes n _ h2=>nomatch congrArg Obj.cls (some_eq h1 h2)) h2
theorem fld_new {ks fl:List Str} {n:Nat} {y:Str} (hnd:fl.Nodup) (h1:fl[n]? = some y) (hks:ks = fl.take n):y ∉ ks:=λq=>by
 rw [hks] at q
 obtain ⟨j,hj,hq⟩:=List.mem_take_iff_getElem.mp q
 obtain ⟨h1l,h1e⟩:=List.getElem?_eq_some_iff.mp h1
 exact absurd (hq.trans h1e.symm) (List.pairwise_iff_getElem.mp hnd j n (by omega) h1l (by omega))
theorem Making.more {h':Heap} {tk:Nat} {od':Obj} {kvs:List (Str×Value)} {y:Str} {cx:Value} {v:V} (M:Making Z B w0 s0 x dx cl self m ρ cv σ acc w s) (hst:∀ y,B.st y = true) (hx:VR Z w v cx) (hs:Heap.SameBut dx s.heap h') (hxd:x ≠ dx)
 (g:h'.get? dx = some od') (D:Obj.IsDictOf Z.knd od' (kvs ++ [(y,cx)])) (h1:(Z.I.flds cl)[acc.length]? = some y) (hks:kvs.map (·.1) = (Z.I.flds cl).take acc.length) (hvs:VRs Z w acc (kvs.map (·.2))) :
 Making Z B w0 s0 x dx cl self m ρ cv σ (acc ++ [v]) w { s with heap:=h',toks:=tk } where
 post:=Post.touch M.post M.dn.new M.dn.pr hs
 er:=M.er.move .refl λb o q e=>⟨(hs.2 b λz=>M.mut hst (z ▸ q)).trans e,(M.er.there q).2⟩
 me:=M.me.keep λz a hz o ho=>(hs.2 a λq=>M.mut hst (.inr (.inl ⟨z,q ▸ hz⟩))).trans ho
 xo:=(hs.2 x hxd).trans M.xo
 xn:=M.xn
 dn:=M.dn
 lo:=M.lo
 do_:=.mk od' g ⟨kvs ++ [(y,cx)],D,by rw [List.map_append,hks,List.length_append,List.length_singleton,List.take_add_one,h1]; rfl,by rw [List.map_append]; exact hvs.append (.cons hx .nil)⟩
 noOwn:=M.noOwn
theorem set_one {y:Str} {cx:Value} {v:V} {p:Pos} {Q:Unit→Shared→Prop} (XK:Z.I.K.In s.heap) (K:BlkOK B) (hst:∀ y,B.st y = true) (hc:ClsOk Z.I.K (Z.I.cadr cl)) (hnd:(Z.I.flds cl).Nodup) (hl:(Z.I.flds cl).length ≤ 1000) (hself:okN self = true)
 (h1:(Z.I.flds cl)[acc.length]? = some y) (h2:fieldOk Z.I.K (Z.I.cadr cl) y = true) (M:Making Z B w0 s0 x dx cl self m ρ cv σ acc w s) (hx:VR Z w v cx) (k:∀ s',Making Z B w0 s0 x dx cl self m ρ cv σ (acc ++ [v]) w s'→Q () s') :
 wpAny Z.M Y.A (eval (.Name self p) B.env) (λo s=>wpAny Z.M Y.A (setAttr o y cx) Q NoE s) NoE s:=
 M.do_.casesOn λod hd q=>q.casesOn λkvs D hks hvs=>load_look K M.er.ns M.me hself (set_ok XK hc h2 M.xo hd D (by have:=congrArg List.length hks; rw [List.length_map,List.length_take] at this; omega)
  fun h' tk od' hs g D'=>k _ (M.more hst hx hs (inst_ne M.xo hd D) g (stored_new (fld_new hnd h1 hks) cx ▸ D') h1 hks hvs))
inductive SetsOut (Z:Zt) (B:Blk) (w0:GW) (s0:Shared) (x dx:Addr) (cl:Nat) (slf:Str) (m:Str→Option Value) (ρ:Rho) (cv:Nat→Value) (σ:H) (out:List V):Flow→Shared→Prop
 | mk {s':Shared} (w':GW):Making Z B w0 s0 x dx cl slf m ρ cv σ out w' s'→out.length = (Z.I.flds cl).length→SetsOut Z B w0 s0 x dx cl slf m ρ cv σ out .next s'
theorem ev_sets {C:Orc} {k:Nat} {y:Str} {ex:E} {r:List (Nat×Str×E)} {o:List V×H} (e:evSets C ((k,y,ex) :: r) ρ σ acc = some o):b2 (evE C ex ρ σ) (λv σ=>evSets C r ρ σ (acc ++ [v])) = some o:=e
theorem sets_ok (HH:Here Z Y d) (b:CxB c B) (K:BlkOK B) (hst:∀ y,B.st y = true) (hc:ClsOk Z.I.K (Z.I.cadr cl)) (hnd:(Z.I.flds cl).Nodup) (hl:(Z.I.flds cl).length ≤ 1000) (hself:okN self = true) :
 ∀ {sets:List (Nat×Str×E)} {ps:List Stmt} {acc:List V} {σ:H} {w:GW} {s:Shared} {out:List V},mSets Z.I cl self c sets ps acc.length = true→Making Z B w0 s0 x dx cl self m ρ cv σ acc w s→evSets Y.C sets ρ σ acc = some (out,σ')→
  wpAny Z.M Y.A (execs ps B.env) (SetsOut Z B w0 s0 x dx cl self m ρ cv σ' out) NoE s
 | [],ps,acc,σ,w,s,out,h,M,e=>an2 h λh1 h2=>l0_is h1 (wpAny_execs_nil (pr_is (M:=λout σ'=>SetsOut Z B w0 s0 x dx cl self m ρ cv σ' out .next s) e (.mk w M (eq_of_beq h2).symm)))
 | (k,y,ex) :: r,ps,acc,σ,w,s,out,h,M,e=>b2_is (ev_sets e) λv σ1 e1 e=>lc_is h λp ps h=>sAsg_is h λl pe z h=>l1_is h λu h=>xAttr_is h λf y q h=>xName_is h λv r h=>an8 h λh1 h2 h3 h4 h5 h6 h7 h8=>be' h1 (be' h2
  (wpAny_execs_cons (plainObj_wpAny_Assign_Attribute ((mE_ok HH b K h7).ee.go ⟨M.post.sim,m,cv,M.er⟩ e1 λcx s1w s1 P1 _ hx=>
   set_one (HH.W.k.keeps P1.sim.keeps) K hst hc hnd hl hself (eq_of_beq h4) h5 (M.post' P1) hx λs' M'=>sets_ok HH b K hst hc hnd hl hself (by rw [List.length_append]; exact h8) M' e) (swaps_attr h6 _ _ _ _))))
end
section
variable {Z:Zt} {C:Orc} {A:Around} {B:Blk} {d N:Nat} {w w' w0:GW} {s s' s0:Shared} {σ σ':H} {ρ ρ':Rho} {m:Str→Option Value} {cv:Nat→Value}
theorem room_of {A A':Around} {k u:Nat} (RM:Room A (d + 1)) (h:A'.handled = A.handled) (hd:A'.depth = A.depth + k) (hu:A'.units = A.units + u) (hk:k ≤ 2) (hu':u ≤ 6):Room A' d:=
 have q1:=RM.depth
 have q2:=RM.units
 ⟨h.trans RM.handled,by omega,by omega⟩
theorem Room.deep (RM:Room A (d + 1)) (env:Env):Room (A.deeper env) d:=room_of (k:=1) (u:=3) RM rfl rfl rfl (by decide) (by decide)
theorem Room.deep2 (RM:Room A (d + 1)) (env:Env):Room (A.deeper env).in1.in1 d:=room_of (k:=1) (u:=5) RM rfl rfl rfl (by decide) (by decide)
theorem make_weight (C:Addr) (rest:List Value) (kw:List (Str×Value)):(Code.builtin "type.__call__" ⟨.ref C :: rest,kw⟩).weight = 1:=by kernel_rfl
theorem make_units (C:Addr) (rest:List Value) (kw:List (Str×Value)):(Code.builtin "type.__call__" ⟨.ref C :: rest,kw⟩).cUnits = 1:=by kernel_rfl
structure Vals (Z:Zt) (w:GW) (np:Nat) (cs dl:List Value) (as:List V):Prop where
 vals:VRs Z w as (cs ++ dl.drop (cs.length + dl.length - np))
 le:cs.length ≤ np
 ge:np ≤ cs.length + dl.length
theorem args_vals {np:Nat} {dfl args as:List V} {cs dl:List Value} (e:argsIn np dfl args = some as) (hv:VRs Z w args cs) (hd:VRs Z w dfl dl):Vals Z w np cs dl as:=
 gd_is e λh e=>an2 h λh1 h2=>some_is e ⟨by rw [hv.length,hd.length]; exact hv.append (hd.drop _),hv.length ▸ of_decide_eq_true h1,by rw [hv.length,hd.length]; exact of_decide_eq_true h2⟩
theorem rho0_get {M:Slot→Prop} {as:List V} {ns i:Nat} {sl:Slot} (h:getS (rho0 as ns) i = some sl) (k:∀ v,as[i]? = some v→M (.v v)):M sl:=by
 have hz:=getS_lt h
 unfold rho0 at hz
 by_cases hi:i < as.length
 · rw [List.getElem?_append_left (by rw [List.length_map]; exact hi),List.getElem?_map] at hz
   obtain ⟨v,h1,h2⟩:=Option.map_eq_some_iff.mp hz
   exact some_is h2 (k v h1)
 · rw [List.getElem?_append_right (by rw [List.length_map]; omega)] at hz
   exact nomatch (List.mem_replicate.mp (List.mem_of_getElem? hz)).2
theorem rho_in {nm:List Str} {vals:List Value} {as:List V} {np ns i:Nat} {x:Str} {sl:Slot} (hq:(!(Nat.blt i np) || nm[i]? == some x) = true) (hl:vals.length = np) (hv:VRs Z w as vals) (e:getS (rho0 as ns) i = some sl):SlotB Z w (nm.zip vals) x sl:=
 rho0_get e λu hu=>(hv.get hu).elim λc hc=>bor_is hq (λq=>ff ((congrArg not (Nat.ble_eq_true_of_le (hl ▸ (List.getElem?_eq_some_iff.mp hc.1).1):Nat.blt i np = true)).symm.trans q))
  fun q=>⟨c,List.mem_of_getElem? (i:=i) (List.getElem?_zip_eq_some.mpr ⟨eq_of_beq q,hc.1⟩),hc.2⟩
structure Shape (I:Info) (nm:List Str) (dfl:List V) (dV cdv:Value) (qual:Str) (scope:Scope) (t:Tab):Prop where
 code:codeIn I.K cdv qual = true
 fn:FnShape scope t
 nd:nm.Nodup
 kind:∀ x ∈ nm,scope.names.lookup x = some .local∨scope.names.lookup x = some .cell
 dl:dfl.length ≤ nm.length
 dfl:dflB I.K dfl dV = true
theorem shapeB_is {I:Info} {nm:List Str} {dfl:List V} {dV cdv:Value} {qual:Str} {scope:Scope} {t:Tab} (h:shapeB I nm dfl dV cdv qual scope t = true):Shape I nm dfl dV cdv qual scope t:=
 an10 h λh1 h2 h3 h4 h5 h6 h7 h8 h9 h10=>⟨h1,⟨eq_of_beq h2,nb h3,nb h4,λx hx=>ff (List.all_eq_true.mp h5 _ (look_mem hx)),tabB_is h8⟩,nodupB_is h6,λx hx=>bor_is (List.all_eq_true.mp h7 x hx) (λq=>.inl (eq_of_beq q)) λq=>.inr (eq_of_beq q),Nat.le_of_ble_eq_true h9,h10⟩
theorem ev_fn {np ns:Nat} {dfl args:List V} {body:List Mine.S} {o:V×H} (e:evD C N (.fn np ns dfl body) args σ = some o):b1 (argsIn np dfl args) (λas=>b1 (evSs C N body (rho0 as ns) σ) λp=>some (retV p.1,p.2.2)) = some o:=e
theorem ev_cls {c np ns:Nat} {dfl args:List V} {sets:List (Nat×Str×E)} {frozen:Bool} {o:V×H} (e:evD C N (.cls c np ns dfl sets frozen) args σ = some o):b1 (argsIn np dfl args) (λas=>b2 (evSets C sets (none :: rho0 as ns) σ []) λl σ=>some (born0 frozen c l σ)) = some o:=e
variable {tb:Tab} {qual:Str} {ps:List Arg} {pbody:List Stmt} {scope:Scope} {dV cdv:Value}
noncomputable def flowV (f:Flow):Value:=match f with
 | .ret v=>v
 | _=>.none
theorem enter_fn {cs dl:List Value} {dfl:List V} {a:Addr} {R:Result→Shared→Prop} (W:Base Z Z.h₀) (RM:A.depth < 1000) (R1:∀ env,Room (A.deeper env) d) (R2:∀ env,Room (A.deeper env).in1.in1 d) (F:FnAt Z.I.K a qual ps pbody scope dV cdv) (S:Shape Z.I (ps.map (·.arg)) dfl dV cdv qual scope tb)
 (hseq:DflOf s dV dl) (h1:cs.length ≤ ps.length) (h2:ps.length ≤ cs.length + dl.length) (h3:dl.length ≤ ps.length)
 (X:Sim Z w σ s.heap) (hρ:∀ i x,(i,x) ∈ tb→∀ sl,getS ρ i = some sl→SlotB Z w ((ps.map (·.arg)).zip (cs ++ dl.drop (cs.length + dl.length - ps.length))) x sl)
 (h:∀ env m cv s1,Entered Z A d w s σ ρ tb scope ((ps.map (·.arg)).zip (cs ++ dl.drop (cs.length + dl.length - ps.length))) env m cv s1→wpAny Z.M (A.deeper env) (execs pbody env) (λf s'=>R (.ok (.ret (flowV f))) s') NoE s1) :
 codeAny Z.M A (.call (.ref a) ⟨cs,[]⟩) R s:=by
 obtain ⟨name,kd,de,kV,doc,pm,an,ct,oc,od,osl,ho⟩:=F.at_
 have hk:(((ps.map (·.arg)).zip (cs ++ dl.drop (cs.length + dl.length - ps.length))).map (·.1)) = ps.map (·.arg):=zip_fst (by rw [List.length_map,List.length_append,List.length_drop]; omega)
 exact enter W RM R1 R2 ho S.code S.fn (binds_plain hseq S.nd h1 h2 h3) (hk.symm ▸ S.nd) (λx hx=>S.kind x.1 (hk ▸ List.mem_map_of_mem (f:=(·.1)) hx)) X hρ h
theorem len_drop {cs dl:List Value} {n:Nat} (h1:cs.length ≤ n) (h2:n ≤ cs.length + dl.length) (h3:dl.length ≤ n):(cs ++ dl.drop (cs.length + dl.length - n)).length = n:=by
 rw [List.length_append,List.length_drop]; omega
theorem ends {r:Fl×Rho×H} {cvB:Nat→Value} {f:Flow} (q:FlR Z B w s ρ cvB w0 s0 r f s'):QV Z w s r.2.2 (retV r.1) (flowV f) s':=match r,q with
 | (.next,_,σ'),q=>NextAt.casesOn (motive:=λf s' _=>QV Z w s σ' .none (flowV f) s') q λcv2 w2 t2 _=>.mk w2 t2.post rfl
 | (.ret v,_,σ'),q=>RetAt.casesOn (motive:=λf s' _=>QV Z w s σ' v (flowV f) s') q λc q=>q
theorem fn_sound {f np ns:Nat} {dfl args:List V} {body:List Mine.S} {v:V} {cs:List Value} (W:Wld Z) (hC:CallOK Z C d) (hB:fnB Z.I tb f (.fn np ns dfl body) = true) (e:evD C N (.fn np ns dfl body) args σ = some (v,σ'))
 (RM:Room A (d + 1)) (X:Sim Z w σ s.heap) (hv:VRs Z w args cs):wpAny Z.M A (call (.ref (Z.I.addr f)) cs) (QV Z w s σ' v) NoE s:=
 fnAt_is hB λqual ps pbody scope dV cdv F h=>an4 h λhS hnp htab hm=>b1_is (ev_fn e) λas has e=>b1_is e λr he e=>pr_is (M:=λv σ'=>wpAny Z.M A _ (QV Z w s σ' v) NoE s) e (by
  have S:=shapeB_is hS
  obtain ⟨dl,hdlr,hseq⟩:=dflB_ok (Z:=Z) (s:=s) W.k X.keeps X.base S.dfl
  obtain rfl:=eq_of_beq hnp
  have V:=args_vals has hv hdlr
  have h3:dl.length ≤ ps.length:=by rw [hdlr.length]; have:=S.dl; rwa [List.length_map] at this
  exact wpAny_call (enter_fn (ρ:=rho0 as ns) W.toBase (by have:=RM.depth; omega) RM.deep RM.deep2 F S hseq V.le V.ge h3 X (λi x hi sl=>rho_in (List.all_eq_true.mp htab (i,x) hi) (len_drop V.le V.ge h3) V.vals) λenv m cv s1 En=>
   wpT (mSs_ok (Y:=⟨C,A.deeper env,N⟩) ⟨W,En.R1,En.R2,hC⟩ (c:=⟨tb,scope.names,true,[]⟩) ⟨rfl,rfl,rfl⟩ En.K hm w s (rho0 as ns) σ r cv w s1 rfl ⟨En.post,m,En.er⟩ he) λg s2 q=>ends q))
theorem born {c:Nat} {out:List V} {frozen:Bool} {x dx:Addr} {slf:Str} {σ1:H} (M:Making Z B w s x dx c slf m ρ cv σ1 out w' s') (hn:x ≠ dx) (hl:out.length = (Z.I.flds c).length):QV Z w s (born0 frozen c out σ1).2 (born0 frozen c out σ1).1 (.ref x) s':=
 M.do_.casesOn λod hd q=>q.casesOn λkvs D hks hvs=>by
  rw [hl,List.take_length] at hks
  have F1:=M.post.freeze M.xo M.xn.new M.xn.pr.im M.xn.pr.ph
  have x1:=w'.add_ext (h:=s.heap) (o:=instObj (Z.I.cadr c) dx) M.xn.new M.xn.pr.im
  have hdx:(w'.add x (instObj (Z.I.cadr c) dx)).im dx = none:=(if_neg hn.symm).trans M.dn.pr.im
  cases frozen with
  | true=>
   have x2:=(w'.add x (instObj (Z.I.cadr c) dx)).add_ext (h:=s.heap) (o:=od) M.dn.new hdx
   exact .mk _ (F1.freeze hd M.dn.new hdx M.dn.pr.ph) (InsR.mk x dx od (x2.im _ _ (w'.add_self _ _)) (GW.add_self _ _ _) ⟨kvs,D,hks,(hvs.ext x1).ext x2⟩)
  | false=>exact .mk _ (F1.share (o:=.recd c out) hd M.dn.new hdx M.dn.pr.ph ⟨kvs,D,hks,hvs.ext x1⟩) (ObjR.mk x dx (w'.add_self _ _) ((congrArg (λn=>(w'.ph ++ [dx])[n]?) M.post.sim.len.symm).trans (by simp)))
theorem pushed2 {o1 o2:Obj} (X:Sim Z w σ s.heap):Post Z w s σ w { s with heap:=(s.heap.push o1).push o2 }:=((Post.refl X).pushed (t:=s.toks)).pushed (t:=s.toks)
theorem at1 (h:Heap) (C:Addr):((h.push emptyDict).push (instObj C h.objs.size)).get? h.objs.size = some emptyDict:=Heap.get?_push_of_some _ (Heap.get?_push_size _ rfl)
theorem at2 (h:Heap) (C:Addr):((h.push emptyDict).push (instObj C h.objs.size)).get? (h.objs.size + 1) = some (instObj C h.objs.size):=by
 have:=Heap.get?_push_size (h.push emptyDict) (o:=instObj C h.objs.size) rfl
 rwa [Heap.size_push] at this
noncomputable def mkS (Z:Zt) (s:Shared) (c:Nat):Shared:={ s with heap:=(s.heap.push emptyDict).push (instObj (Z.I.cadr c) s.heap.objs.size) }
theorem newly {x:Addr} (X:Sim Z w σ s.heap) (h:s.heap.get? x = none):Own s w x:=⟨h,.new X h⟩
theorem making0 {s1:Shared} {c:Nat} {as:List V} {ns:Nat} {env:Env} {slf:Str} (X:Sim Z w σ s.heap) (P:Post Z w (mkS Z s c) σ w s1)
 (er:ER Z (fnBlk (mkS Z s c) tb scope env) w (none :: rho0 as ns) s1.heap m cv) (me:Look1 env s1.heap m slf (.ref (s.heap.objs.size + 1))) :
 Making Z (fnBlk (mkS Z s c) tb scope env) w s (s.heap.objs.size + 1) s.heap.objs.size c slf m (none :: rho0 as ns) cv σ [] w s1 where
 post:=(pushed2 X).trans P
 er:=er
 me:=me
 xo:=P.keep _ _ (at2 _ _) (X.no_ph (Heap.get?_none_of_le (Nat.le_succ _)))
 xn:=newly X (Heap.get?_none_of_le (Nat.le_succ _))
 dn:=newly X (get_top _)
 lo:=⟨_,at1 _ _⟩
 do_:=.mk _ (P.keep _ _ (at1 _ _) (X.no_ph (get_top _))) ⟨[],empty_dict Z,rfl,.nil⟩
 noOwn:=λi l q=>match i,q with
  | 0,q=>nn q
  | i + 1,q=>rho0_get (M:=λsl=>sl = .own l→False) (i:=i) q (λ_ _=>nofun) rfl
theorem cls_sound {f c np ns:Nat} {dfl args:List V} {sets:List (Nat×Str×E)} {frozen:Bool} {v:V} {cs:List Value} (W:Wld Z) (hC:CallOK Z C d) (hB:fnB Z.I tb f (.cls c np ns dfl sets frozen) = true) (e:evD C N (.cls c np ns dfl sets frozen) args σ = some (v,σ'))
 (RM:Room A (d + 1)) (X:Sim Z w σ s.heap) (hv:VRs Z w args cs):wpAny Z.M A (call (.ref (Z.I.addr f)) cs) (QV Z w s σ' v) NoE s:=
 an6 hB λhaddr hmk hcl hfnd hfl h=>so_eq h λo hfi h=>so_is (M:=λo=>findIn Z.I.K (.ref (Z.I.cadr c)) "__init__" = some o→_) h (λfv h=>uRef_is (M:=λfv=>findIn Z.I.K (.ref (Z.I.cadr c)) "__init__" = some (some fv)→_) h λfi h hfi=>an2 h λhty h=>fnAt_is h λqual ps pbody scope dV cdv F h=>lc_is (M:=λps=>FnAt Z.I.K fi qual ps pbody scope dV cdv→_) h (λself qs h F=>an6 h λhS hnp hself htab hdn hm=>
  b1_is (ev_cls e) λas has e=>b2_is e λout σ1 he e=>pr_is (M:=λv σ'=>wpAny Z.M A _ (QV Z w s σ' v) NoE s) e (by
  have S:=shapeB_is hS
  have XK:=W.k.keeps X.keeps
  have P0:Post Z w s σ w (mkS Z s c):=pushed2 X
  obtain ⟨dl,hdlr,hseq⟩:=dflB_ok (Z:=Z) (s:=mkS Z s c) W.k P0.sim.keeps P0.sim.base S.dfl
  obtain rfl:=eq_of_beq hnp
  have V:=args_vals has hv hdlr
  have h1:=V.le
  have h2:=V.ge
  have h3:dl.length ≤ qs.length:=hdlr.length.symm ▸ Nat.le_of_ble_eq_true hdn
  have hdrop:(Value.ref (s.heap.objs.size + 1) :: cs).length + dl.length - (self :: qs).length = cs.length + dl.length - qs.length:=by rw [List.length_cons,List.length_cons]; omega
  have hz:((self :: qs).map (·.arg)).zip (.ref (s.heap.objs.size + 1) :: cs ++ dl.drop ((Value.ref (s.heap.objs.size + 1) :: cs).length + dl.length - (self :: qs).length)) = (self.arg,.ref (s.heap.objs.size + 1)) :: (qs.map (·.arg)).zip (cs ++ dl.drop (cs.length + dl.length - qs.length)):=by rw [hdrop]; rfl
  rw [eq_of_beq haddr]
  refine wpAny_call (make_core (makes_of XK hmk) (looks_findIn XK hfi) (λself=>bind_fn XK self (eq_of_beq hty)) (.inl rfl) ?_)
  have ra:∀ env,Room ((A.under (.builtin "type.__call__" ⟨.ref (Z.I.cadr c) :: cs,[]⟩)).deeper env) d:=λenv=>room_of (k:=2) (u:=4) RM rfl (congrArg (A.depth + · + 1) (make_weight _ _ _)) (congrArg (A.units + · + 3) (make_units _ _ _)) (by decide) (by decide)
  have rb:∀ env,Room ((A.under (.builtin "type.__call__" ⟨.ref (Z.I.cadr c) :: cs,[]⟩)).deeper env).in1.in1 d:=λenv=>room_of (k:=2) (u:=6) RM rfl (congrArg (A.depth + · + 1) (make_weight _ _ _)) (congrArg (A.units + · + 3 + 1 + 1) (make_units _ _ _)) (by decide) (by decide)
  refine enter_fn (ρ:=none :: rho0 as ns) (s:=mkS Z s c) W.toBase ?_ ra rb F S hseq (Nat.succ_le_succ h1) (by rw [List.length_cons,List.length_cons]; omega) (Nat.le_succ_of_le h3) P0.sim (hz ▸ λi x hi sl e=>?_) (hz ▸ λenv m cv s1 En=>?_)
  · have:=RM.depth; show A.depth + _ < 1000; rw [make_weight]; omega
  · cases i with
    | zero=>exact nn e
    | succ i=>
     have q:=rho_in (List.all_eq_true.mp htab (i + 1,x) hi) (len_drop h1 h2 h3) V.vals e
     exact match sl,q with
      | .v _,⟨c,hm,hr⟩=>⟨c,.tail _ hm,hr⟩
  · exact wpT (sets_ok (Y:=⟨C,_,N⟩) ⟨W,En.R1,En.R2,hC⟩ (c:=⟨tb,scope.names,true,[]⟩) ⟨rfl,rfl,rfl⟩ En.K (λ_=>rfl) (clsOk_is hcl) (nodupB_is hfnd) (Nat.le_of_ble_eq_true hfl) hself hm (making0 X En.post En.er (En.look _ _ (.head _))) he) λfl s2 q=>
     q.casesOn λw2 M2 hlen=>⟨rfl,born M2 (Nat.ne_of_gt (Nat.lt_succ_self _)) hlen⟩)) F) hfi
theorem call_sound (W:Wld Z) (tb:Nat→Tab) (hP:∀ f D,Z.I.P f = some D→fnB Z.I (tb f) f D = true) (N:Nat):∀ d,CallOK Z (evCall Z.I.P N d) d
 | 0=>λf args σ v σ' e=>nn e
 | d + 1=>λf args σ v σ' e A w s cs RM X hv=>b1_is (e:b1 (Z.I.P f) (λdf=>evD (evCall Z.I.P N d) N df args σ) = some (v,σ')) λD hD e=>match D,hP f D hD,e with
  | .fn np ns dfl body,hB,e=>fn_sound W (call_sound W tb hP N d) hB e RM X hv
  | .cls c np ns dfl sets frozen,hB,e=>cls_sound W (call_sound W tb hP N d) hB e RM X hv
end
section
set_option autoImplicit true
noncomputable def addrs:List Nat:=[33,41,48,55,62,67,72,84,129,105,112,119,126,205,155,162,169,176,181,188,195,202,214,228,233,238,243,250,352,275,282,296,308,313,318,323,330,335,342,349,363,370,377,382,390,397,471,456,558,494,508,515,522,555,570,577,584,591,598,605,612,619,626,631,638,645,652,657,662,667,674,679]
noncomputable def cadrs:List Nat:=[129,205,352,471,558]
noncomputable def info (prm:Params):Info where
 K:=Head.KK prm
 P:=P
 name:=λi=>(names[i]?).getD ""
 addr:=λi=>(addrs[i]?).getD 0
 cadr:=λi=>(cadrs[i]?).getD 0
 flds:=λi=>(fldss[i]?).getD []
 gl:=λx=>glos.lookup x
 mcl:=λ_=>0
noncomputable def tabOf (i:Nat):Tab:=(tabs[i]?).getD []
noncomputable def okAt (prm:Params) (i:Nat):Bool:=match P i with
 | some D=>fnB (info prm) (tabOf i) i D
 | none=>true
end
noncomputable def globB (K:Frag):List (Str×V)→Bool
 | []=>true
 | p :: r=>(so (nsIn K mainGlobals p.1) λo=>so o λc=>vIn K p.2 c) && globB K r
theorem globB_ok {K:Frag}:∀ {l:List (Str×V)},globB K l = true→∀ x v,l.lookup x = some v→∃ c,nsIn K mainGlobals x = some (some c)∧vIn K v c = true
 | [],_,x,v,e=>nn e
 | p :: r,h,x,v,e=>an2 h λh1 h2=>by
  rw [List.lookup_cons] at e
  cases hx:x == p.1 with
  | true=>
   rw [hx] at e
   rw [eq_of_beq hx,← Option.some.inj e]
   exact so_eq h1 λo e h=>so_eq h λc e' h=>⟨c,e' ▸ e,h⟩
  | false=>rw [hx] at e; exact globB_ok h2 x v e
theorem glob_ok (prm:Params):globB (Head.KK prm) glos = true:=by kernel_rfl
theorem law_at (prm:Params):nsIn (Head.KK prm) mainGlobals "law" = some (some (.ref 679)):=by kernel_rfl
theorem imports_none:importsNone Head.qv = true:=by decide +kernel
theorem ok_0 (prm:Params):okAt prm 0 = true:=by kernel_rfl
theorem ok_1 (prm:Params):okAt prm 1 = true:=by kernel_rfl
theorem ok_2 (prm:Params):okAt prm 2 = true:=by kernel_rfl
theorem ok_3 (prm:Params):okAt prm 3 = true:=by kernel_rfl
theorem ok_4 (prm:Params):okAt prm 4 = true:=by kernel_rfl
theorem ok_5 (prm:Params):okAt prm 5 = true:=by kernel_rfl
theorem ok_6 (prm:Params):okAt prm 6 = true:=by kernel_rfl
theorem ok_7 (prm:Params):okAt prm 7 = true:=by kernel_rfl
theorem ok_8 (prm:Params):okAt prm 8 = true:=by kernel_rfl
theorem ok_9 (prm:Params):okAt prm 9 = true:=by kernel_rfl
theorem ok_10 (prm:Params):okAt prm 10 = true:=by kernel_rfl
theorem ok_11 (prm:Params):okAt prm 11 = true:=by kernel_rfl
theorem ok_12 (prm:Params):okAt prm 12 = true:=by kernel_rfl
theorem ok_13 (prm:Params):okAt prm 13 = true:=by kernel_rfl
theorem ok_14 (prm:Params):okAt prm 14 = true:=by kernel_rfl
theorem ok_15 (prm:Params):okAt prm 15 = true:=by kernel_rfl
theorem ok_16 (prm:Params):okAt prm 16 = true:=by kernel_rfl
theorem ok_17 (prm:Params):okAt prm 17 = true:=by kernel_rfl
theorem ok_18 (prm:Params):okAt prm 18 = true:=by kernel_rfl
theorem ok_19 (prm:Params):okAt prm 19 = true:=by kernel_rfl
theorem ok_20 (prm:Params):okAt prm 20 = true:=by kernel_rfl
theorem ok_21 (prm:Params):okAt prm 21 = true:=by kernel_rfl
theorem ok_22 (prm:Params):okAt prm 22 = true:=by kernel_rfl
theorem ok_23 (prm:Params):okAt prm 23 = true:=by kernel_rfl
theorem ok_24 (prm:Params):okAt prm 24 = true:=by kernel_rfl
theorem ok_25 (prm:Params):okAt prm 25 = true:=by kernel_rfl
theorem ok_26 (prm:Params):okAt prm 26 = true:=by kernel_rfl
theorem ok_27 (prm:Params):okAt prm 27 = true:=by kernel_rfl
theorem ok_28 (prm:Params):okAt prm 28 = true:=by kernel_rfl
theorem ok_29 (prm:Params):okAt prm 29 = true:=by kernel_rfl
theorem ok_30 (prm:Params):okAt prm 30 = true:=by kernel_rfl
theorem ok_31 (prm:Params):okAt prm 31 = true:=by kernel_rfl
theorem ok_32 (prm:Params):okAt prm 32 = true:=by kernel_rfl
theorem ok_33 (prm:Params):okAt prm 33 = true:=by kernel_rfl
theorem ok_34 (prm:Params):okAt prm 34 = true:=by kernel_rfl
theorem ok_35 (prm:Params):okAt prm 35 = true:=by kernel_rfl
theorem ok_36 (prm:Params):okAt prm 36 = true:=by kernel_rfl
theorem ok_37 (prm:Params):okAt prm 37 = true:=by kernel_rfl
theorem ok_38 (prm:Params):okAt prm 38 = true:=by kernel_rfl
theorem ok_39 (prm:Params):okAt prm 39 = true:=by kernel_rfl
theorem ok_40 (prm:Params):okAt prm 40 = true:=by kernel_rfl
theorem ok_41 (prm:Params):okAt prm 41 = true:=by kernel_rfl
theorem ok_42 (prm:Params):okAt prm 42 = true:=by kernel_rfl
theorem ok_43 (prm:Params):okAt prm 43 = true:=by kernel_rfl
theorem ok_44 (prm:Params):okAt prm 44 = true:=by kernel_rfl
theorem ok_45 (prm:Params):okAt prm 45 = true:=by kernel_rfl
theorem ok_46 (prm:Params):okAt prm 46 = true:=by kernel_rfl
theorem ok_47 (prm:Params):okAt prm 47 = true:=by kernel_rfl
theorem ok_48 (prm:Params):okAt prm 48 = true:=by kernel_rfl
theorem ok_49 (prm:Params):okAt prm 49 = true:=by kernel_rfl
theorem ok_50 (prm:Params):okAt prm 50 = true:=by kernel_rfl
theorem ok_51 (prm:Params):okAt prm 51 = true:=by kernel_rfl
theorem ok_52 (prm:Params):okAt prm 52 = true:=by kernel_rfl
theorem ok_53 (prm:Params):okAt prm 53 = true:=by kernel_rfl
theorem ok_54 (prm:Params):okAt prm 54 = true:=by kernel_rfl
theorem ok_55 (prm:Params):okAt prm 55 = true:=by kernel_rfl
theorem ok_56 (prm:Params):okAt prm 56 = true:=by kernel_rfl
theorem ok_57 (prm:Params):okAt prm 57 = true:=by kernel_rfl
theorem ok_58 (prm:Params):okAt prm 58 = true:=by kernel_rfl
theorem ok_59 (prm:Params):okAt prm 59 = true:=by kernel_rfl
theorem ok_60 (prm:Params):okAt prm 60 = true:=by kernel_rfl
theorem ok_61 (prm:Params):okAt prm 61 = true:=by kernel_rfl
theorem ok_62 (prm:Params):okAt prm 62 = true:=by kernel_rfl
theorem ok_63 (prm:Params):okAt prm 63 = true:=by kernel_rfl
theorem ok_64 (prm:Params):okAt prm 64 = true:=by kernel_rfl
theorem ok_65 (prm:Params):okAt prm 65 = true:=by kernel_rfl
theorem ok_66 (prm:Params):okAt prm 66 = true:=by kernel_rfl
theorem ok_67 (prm:Params):okAt prm 67 = true:=by kernel_rfl
theorem ok_68 (prm:Params):okAt prm 68 = true:=by kernel_rfl
theorem ok_69 (prm:Params):okAt prm 69 = true:=by kernel_rfl
theorem ok_70 (prm:Params):okAt prm 70 = true:=by kernel_rfl
theorem ok_71 (prm:Params):okAt prm 71 = true:=by kernel_rfl
def okL (prm:Params):Nat→Prop
 | 0=>True
 | n + 1=>okAt prm n = true∧okL prm n
theorem okL_at {prm:Params} {i:Nat}:∀ {n:Nat},okL prm n→i < n→okAt prm i = true
 | 0,_,h=>absurd h (Nat.not_lt_zero _)
 | n + 1,h,hi=>(Nat.lt_succ_iff_lt_or_eq.mp hi).elim (okL_at h.2) λe=>e ▸ h.1
theorem ok_all (prm:Params) (i:Nat) (h:i < 72):okAt prm i = true:=okL_at (n:=72) ⟨ok_71 prm,ok_70 prm,ok_69 prm,ok_68 prm,ok_67 prm,ok_66 prm,ok_65 prm,ok_64 prm,ok_63 prm,ok_62 prm,ok_61 prm,ok_60 prm,ok_59 prm,ok_58 prm,ok_57 prm,ok_56 prm,ok_55 prm,ok_54 prm,ok_53 prm,ok_52 prm,ok_51 prm,ok_50 prm,ok_49 prm,ok_48 prm,ok_47 prm,ok_46 prm,ok_45 prm,ok_44 prm,ok_43 prm,ok_42 prm,ok_41 prm,ok_40 prm,ok_39 prm,ok_38 prm,ok_37 prm,ok_36 prm,ok_35 prm,ok_34 prm,ok_33 prm,ok_32 prm,ok_31 prm,ok_30 prm,ok_29 prm,ok_28 prm,ok_27 prm,ok_26 prm,ok_25 prm,ok_24 prm,ok_23 prm,ok_22 prm,ok_21 prm,ok_20 prm,ok_19 prm,ok_18 prm,ok_17 prm,ok_16 prm,ok_15 prm,ok_14 prm,ok_13 prm,ok_12 prm,ok_11 prm,ok_10 prm,ok_9 prm,ok_8 prm,ok_7 prm,ok_6 prm,ok_5 prm,ok_4 prm,ok_3 prm,ok_2 prm,ok_1 prm,ok_0 prm,trivial⟩ h
theorem defs_len:defs.length = 72:=by rfl
theorem defs_ok (prm:Params) (f:Nat) (D:D) (h:(info prm).P f = some D):fnB (info prm) (tabOf f) f D = true:=by
 have h':defs[f]? = some D:=h
 have hl:f < 72:=by
  have:=(List.getElem?_eq_some_iff.mp h').1
  rwa [defs_len] at this
 have:=ok_all prm f hl
 unfold okAt at this
 have e:P f = some D:=h'
 rw [e] at this
 exact this
theorem ints_vals {P:Params} {h:Heap} {Z:Zt} {w:GW}:∀ {ns:List Int} {vs:List Value},WellAll P h vs (ns.map WData.int)→VRs Z w (ns.map V.int) vs
 | [],vs,h=>by cases h; exact .nil
 | n :: ns,vs,h=>by
  cases h with
  | cons h1 h2=>
   cases h1
   exact .cons ⟨_⟩ (ints_vals h2)
theorem has_int {R:WRecords}:∀ {x:WData},WShape.has R x .int = true→∃ n,x = .int n
 | .int n,_=>⟨n,rfl⟩
 | .none,h | .bool _,h | .str _,h | .float _,h | .bytes _,h | .bytearray _,h | .list _,h | .tuple _,h | .dict _,h | .set _,h | .frozenset _,h | .obj _ _,h=>ff h
theorem has_ints {R:WRecords}:∀ {xs:List WData},WShape.hasItems R xs .int = true→∃ ns:List Int,xs = ns.map .int
 | [],_=>⟨[],rfl⟩
 | x :: xs,h=>an2 h λh1 h2=>
  have ⟨n,e1⟩:=has_int h1
  have ⟨ns,e2⟩:=has_ints h2
  ⟨n :: ns,by rw [e1,e2]; rfl⟩
theorem has_list {R:WRecords}:∀ {x:WData},WShape.has R x (.list .int) = true→∃ ns:List Int,x = .list (ns.map .int)
 | .list xs,h=>bor_is (a:=WShape.hasItems R xs .int) (b:=false) h (λh=>(has_ints h).elim λns e=>⟨ns,congrArg _ e⟩) ff
 | .none,h | .bool _,h | .str _,h | .float _,h | .bytes _,h | .bytearray _,h | .int _,h | .tuple _,h | .dict _,h | .set _,h | .frozenset _,h | .obj _ _,h=>ff h
theorem args_ints {R:WRecords}:∀ {args:List WData},WShape.hasAll R args [.list .int] = true→∃ ns:List Int,args = [.list (ns.map .int)]
 | [],h=>ff h
 | [x],h=>an2 h λh _=>(has_list h).elim λns e=>⟨ns,congrArg (λx=>[x]) e⟩
 | _ :: _ :: _,h=>an2 h λ_ h=>ff h
theorem room_top (d:Nat) (hd:d ≤ 100):Room callerA d:=⟨rfl,by show 1 + 300 + 2 * d + 10 < 900; omega,by show 4 + 60 * d + 300 < 9000; omega⟩
theorem law_runs {Z:Zt} {s₁:Shared} {a:Addr} {vs:List Value} {ns:List Int} {N d:Nat} {σ':H} (hI:Z.I = info Z.wd.params) (hh:Z.h₀ = s₁.heap) (W:Wld Z) (hd:d ≤ 100)
 (ha:s₁.heap.get? a = some (lstO vs.toArray 0)) (hv:WellAll Z.wd.params s₁.heap vs (ns.map WData.int)) (e:evCall P N d 71 [.lst (ns.map .int)] [] = some (.bool true,σ')) :
 wpAny Z.M callerA (call (.ref 679) [.ref a]) (λv s'=>v = .bool true∧(∀ b o,s₁.heap.get? b = some o→s'.heap.get? b = some o)∧s'.os = s₁.os∧s'.gens = s₁.gens) NoE s₁:=by
 obtain ⟨I,pg,wd,h₀,mg,mb⟩:=Z
 obtain rfl:h₀ = s₁.heap:=hh
 obtain rfl:I = info wd.params:=hI
 have X:Sim ⟨info wd.params,pg,wd,s₁.heap,mg,mb⟩ { im:=s₁.heap.get?,ph:=[] } [] s₁.heap:=
  ⟨λ_ _ e=>e,W.sys,λ_ _ e=>e,rfl,λi o a e=>nn e,List.nodup_nil,λa h=>nomatch h⟩
 exact wpT (call_sound W tabOf (defs_ok wd.params) N d 71 _ [] _ σ' e callerA _ s₁ [.ref a] (room_top d hd) X (.cons (SeqR.mk a vs.toArray 0 ha (ints_vals hv)) .nil)) λc s' q=>q.casesOn λw' Pp hc=>⟨hc.symm,λb o e=>Pp.keep b o e nofun,Pp.os,Pp.gens⟩
theorem top (hlaw:∀ ns:List Int,∃ N d σ',d ≤ 100∧evCall P N d 71 [.lst (ns.map .int)] [] = some (.bool true,σ')):PySem.Challenge.rw_pc0216_01.Holds:=by
 refine holds_law Head.said λsd=>?_
 refine holds_open (q:=Head.qv) (loose:=Head.loose) (Xt:=Head.Xt) (XP:=XL Head.qv []) (Yf:=Hook.obs Head.hook) (Ya:=Hook.val Head.hook) (YP:=Hook.says Head.hook) (N:=8568) Head.left (Hook.of Head.hook) (Hook.keeps Head.hook) (λs e=>xl_of s (Bool.and_eq_true_iff.mp e).1) XL.keeps (by rfl) (by rfl) (by rfl) (λs e=>recFacts_of (Bool.and_eq_true_iff.mp e).2) (by rfl) sd (by decide +kernel) ⟨rfl,rfl,rfl,rfl,rfl,by decide +kernel⟩ ?hw ?hc
 case hw=>w_witness2
 intro w s₀ s₁ mg mb G Y fa o pm cd doc dV kV ho hd2 hcd hD hmg hg args vals as hpre hlay hrd hwl hlo
 have KX:(Head.KK w.params).In s₁.heap:=kIn_of Y
 have sys:∃ o,s₁.heap.get? sysModules = some o:=by
  obtain ⟨mm,⟨o,_,_,ho,_⟩,_⟩:=(G.T.seer imports_none).mods
  exact ⟨o,ho⟩
 have B:Base ⟨info w.params,PySem.Challenge.rw_pc0216_01.row.prog,w,s₁.heap,mg,mb⟩ s₁.heap:=⟨KX,G.T.g,G.T.b,G.T.nolimit,G.T.builtins,G.T.nodigits,sys⟩
 have W:Wld ⟨info w.params,PySem.Challenge.rw_pc0216_01.row.prog,w,s₁.heap,mg,mb⟩:=⟨B,λx v hx=>by
  obtain ⟨c,h1,h2⟩:=globB_ok (glob_ok w.params) x v hx
  exact ⟨c,h1,λw' hw=>vIn_ok KX hw h2⟩⟩
 have hfa:fa = 679:=by
  have h1:=mg_of KX G.T.g (law_at w.params)
  have h2:mg "law" = some (Value.ref fa):=hmg
  rw [h1] at h2
  cases h2; rfl
 subst hfa
 have hargs:∃ ns:List Int,args = [.list (ns.map .int)]:=by
  have h1:(WShape.hasAll [] args [.list .int] && _) = true:=hpre
  rw [Bool.and_eq_true] at h1
  exact args_ints h1.1
 obtain ⟨ns,rfl⟩:=hargs
 cases hwl with
 | cons h1 h2=>
  cases h2
  cases h1 with
  | list ha hv=>
   obtain ⟨N,d,σ',hd,e⟩:=hlaw ns
   refine wpAny_mono (law_runs rfl rfl W hd ha hv e) (λv s' ⟨hv',hk,hos,hgn⟩=>?_) λ_ _ e=>e.elim
   subst hv'
   refine GoodW.toG ⟨.inl ⟨_,.bool true,[],rfl,λ_=>rfl,.bool true,?_,λ_=>⟨List.nodup_nil,λa h=>by cases h⟩⟩,hk,hos,hgn.trans hg⟩
   show (WShape.has [] (.bool true) .bool && WTm.holds _ _ _) = true
   kernel_rfl
end Mine
theorem PySem.Challenge.cw_pc0216_01_holds : PySem.Challenge.rw_pc0216_01.Holds :=
  Mine.top Mine.Q.hlaw
