import PyProof.Rows.All
import Wide.All
import OpenK.AllK
import Wide.FinOn
import Lean
import PySem.Challenge.RW_pf0025_01
open PySem PySem.W PySem.Calls PyProof.Rows
set_option Elab.async false
set_option linter.unusedVariables false
set_option genSizeOf false
set_option bootstrap.genMatcherCode false
set_option tactic.hygienic false
set_option backward.match.sparseCases false
set_option maxRecDepth 100000
set_option maxHeartbeats 8000000
set_option rowWalk.seconds 0
namespace Mine
noncomputable def yfP (st:SharedT->Thread->Option (SharedT × Thread)) (ok:Thread->Bool):Nat->SharedT->Thread->Option SharedT
 | 0,_,_=>none
 | n+1,s,t=>match through t with
  | true=>some s
  | false=>match ok t with
   | false=>none
   | true=>match st s t with
    | some x=>yfP st ok n x.1 x.2
    | none=>none
theorem yhY {b c:Bool} {x:Option (SharedT × Thread)} {s s':SharedT} {F:SharedT->Thread->Option SharedT} {G:Option Shared} (k:∀y r,x=some y->F y.1 y.2=some r->G=some r.abs)
  (h:(match (generalizing:=false) b with|true=>some s|false=>match (generalizing:=false) c with|false=>none|true=>match (generalizing:=false) x with|some y=>F y.1 y.2|none=>none)=some s') :
  (match (generalizing:=false) b with|true=>some s.abs|false=>match (generalizing:=false) c with|false=>none|true=>G)=some s'.abs:=by
 rcases b with _|_
 ·rcases c with _|_
  ·exact nomatch h
  rcases x with _|y
  ·exact nomatch h
  exact k y _ rfl h
 ·exact congrArg (λz=>some (SharedT.abs z)) (Option.some.inj h)
theorem ye7 {tb:String->Option Builtin} {p:Program} {w:World} {n₀:Nat} {ann:Option Value} (n:Nat):∀{s s':SharedT} {t:Thread},
  yfP (stepT (denote tb) p w) (stepOk n₀ ann) n s t=some s'->topRun tb p w n₀ ann n s.abs t=some s'.abs:=by
 induction n with
 | zero=>exact λh=>nomatch h
 | succ n ih=>
  intro s s' t h
  refine yhY (b:=through t) (c:=stepOk n₀ ann t) (x:=stepT (denote tb) p w s t) (F:=yfP (stepT (denote tb) p w) (stepOk n₀ ann) n)
   (G:=match step (denote tb) p w s.abs t with | .go s' t'=>topRun tb p w n₀ ann n s' t' | .halt _ _=>none) (λy r e q=>?_) h
  rw [stepT_spec (t':=y.2) (s':=y.1) e]
  exact ih q
theorem ylS {K:Frag} {s:SharedT}:(K.map λp=>(Nat.blt p.1 s.n,s.tree.get p.1,alive p.2))=(K.map λp=>(true,some p.2,some p.2))->(K.map (·.1)).map s.abs.heap.get? = K.map λp=>some p.2:=by
 induction K with
 | nil=>exact λ_=>rfl
 | cons p K ih=>
  intro h
  simp only [List.map_cons,List.cons.injEq,Prod.mk.injEq] at h ⊢
  exact ⟨(abs_get (Nat.le_of_ble_eq_true h.1.1) h.1.2.1).trans h.1.2.2,ih h.2⟩
theorem yjT {p q:Program} {loose:List Str} {Xt:Shared->Bool} {K:Params->Frag} {as:List Addr} {N m₀ n₀:Nat} {life:Life} {ann:Option Value} {T₀:Params->BT}
  (e:opening p=plainProg p.main.scope.names) (hN:Nat.ble 600 N=true) (f:∀s,fenceModules? p s=some s)
  (size:∀w:World,((boot_heap w.params).isNs mainGlobals,(boot_heap w.params).objs.size,(boot_heap w.params).nsMap mainGlobals "__annotations__")=(true,m₀,ann))
  (tree:∀P,absHeap (T₀ P) n₀ life=boot_heap P) (has:∀P,as=(K P).map (·.1))
  (run:∀(w:World) (os:OsState),(yfP (stepT (denote treeTable) p w) (stepOk m₀ ann) N ⟨T₀ w.params,n₀,life,Array.mk [],boot_drawn,boot_toks,os⟩ (topStub p)).map (λs=>
   ((staticsOk (importedModules p.main.body) (boot_heap w.params) s.abs.heap && namesBound p s.abs.heap && gensDone s.abs && laidKept (boot_heap w.params) s.abs.heap),openSeen q loose (importedModules p.main.body) Xt true s.abs,
    (K w.params).map λp=>(Nat.blt p.1 s.n,s.tree.get p.1,alive p.2)))=some (true,openGood q loose,(K w.params).map λp=>(true,some p.2,some p.2))) :
  LeftO p q loose Xt (λs=>as.map s.heap.get?) (λw=>(K w.params).map λp=>some p.2) N true:=λw=>by
 obtain ⟨⟨h,gs,d,k,os⟩,e1,e2⟩:=Option.map_eq_some_iff.mp (boot_open e hN f w)
 obtain ⟨rfl,rfl,rfl,rfl⟩:h=boot_heap w.params/\gs=Array.mk []/\d=boot_drawn/\k=boot_toks:=by simpa using e2
 obtain ⟨s,hs,hv⟩:=Option.map_eq_some_iff.mp (run w os)
 obtain ⟨z1,z2,z3⟩:_/\_/\_:=by simpa only [Prod.mk.injEq] using size w
 obtain ⟨l1,hv⟩:=Prod.mk.inj hv
 obtain ⟨l2,l3⟩:=Prod.mk.inj hv
 have r:=ye7 N hs
 have r':topRun treeTable p w m₀ ann N ⟨boot_heap w.params,Array.mk [],boot_drawn,boot_toks,os⟩ (topStub p)=some s.abs:=by
  rw [<-r];show _=topRun treeTable p w m₀ ann N ⟨absHeap (T₀ w.params) n₀ life,_,_,_,_⟩ _;rw [tree]
 have t:topFrom treeTable p w N ⟨boot_heap w.params,Array.mk [],boot_drawn,boot_toks,os⟩=some s.abs:=by
  unfold topFrom
  dsimp only
  rw [z1,z2,z3,r']
  show (match staticsOk (importedModules p.main.body) (boot_heap w.params) s.abs.heap && namesBound p s.abs.heap && gensDone s.abs && laidKept (boot_heap w.params) s.abs.heap with|true=>_|false=>_)=_
  rw [l1]
 unfold openEnds
 rw [e1]
 show (topFrom treeTable p w N _).map _=_
 rw [t]
 exact congrArg some (Prod.ext l2 ((congrArg (λl=>l.map s.abs.heap.get?) (has w.params)).trans (ylS l3)))
noncomputable abbrev PW:Program:=PySem.Challenge.pw_pf0025_01
structure Fn where
 name:Str
 args:Arguments
 body:List Stmt
 scope:Scope
noncomputable def ypI:Fn:=⟨Str.ofString "",⟨[],[],none,[],[],none,[]⟩,[],⟨.module,[],false,false,[]⟩⟩
noncomputable def yjj:List Nat->List Stmt->Fn
 | [],_=>ypI
 | i::r,l=>match l.drop i with
  | .FunctionDef n a b _ _ _ sc _ _ _::_=>⟨n,a,b,sc⟩
  | .ClassDef _ _ _ b _ _ _ _ _ _ _::_=>yjj r b
  | _=>ypI
noncomputable def yaE (r:List Nat):Fn:=yjj r PW.main.body
noncomputable abbrev fO (d:Option Addr) (x:Fn) {n:Str} {a:Arguments} {b:List Stmt} {sc:Scope} (_:x=⟨n,a,b,sc⟩) (q:String) (g:Addr) (cl:List (Str × Addr)) (dV kV doc pm:Value) (an:Option Addr) (cd ct:Value) (bi:Addr) (sl:Array (Option Value):=#[]):Obj:=
 ⟨.type "function",d,.func ⟨n,Str.ofString q,a,.stmts b,sc,g,cl,dV,kV,doc,pm,an,cd,ct,bi⟩,sl⟩
noncomputable abbrev sO (c:Value) (d:Option Addr) (vs:List Value) (n:Nat):Obj:=⟨c,d,.seq vs.toArray n,#[]⟩
noncomputable abbrev cO (vs:List Value):Obj:=⟨.type "code",none,.fields vs.toArray,#[]⟩
noncomputable abbrev tO (c:Value) (d:Option Addr) (vs:List Value) (sl:Array (Option Value):=#[]):Obj:=⟨c,d,.fields vs.toArray,sl⟩
noncomputable abbrev de (P:Params) (x:String) (t:Nat) (v:Value):DictEntry:=⟨PyData.keyHash P (Str.ofString x),.str (Str.ofString x) t,v⟩
noncomputable abbrev dO (c:Value) (d:Option Addr) (es:List DictEntry) (n:Nat):Obj:=⟨c,d,.dict es.toArray n,#[]⟩
noncomputable abbrev ceO (c:Value) (d:Option Addr) (v:Option Value):Obj:=⟨c,d,.cell v,#[]⟩
noncomputable abbrev kO (c:Value) (d:Option Addr) (n:String) (bs mro:List Value) (ns:Addr) (q:String) (hd:Bool) (sn:List Str) (sub:List Value) (ab:Bool) (co:Option Bool) (del:Bool) (sl:Array (Option Value)):Obj:=
 ⟨c,d,.cls ⟨Str.ofString n,bs,mro,ns,Str.ofString q,hd,sn,sub,ab,co,del⟩,sl⟩
noncomputable def o2 (P:Params):Obj:=dO (.none) none [de P "type.__subclasses__.Exception.0" 230 (.int 41 0),de P "type.__subclasses__.Exception.n" 231 (.int 2 0),de P "type.__subclasses__.Exception.1" 699 (.int 378 0)] 3
noncomputable def o3 (P:Params):Obj:=dO (.type "dict") none [de P "__name__" 165 (.str "law_pf0025_01" 1464),de P "__doc__" 166 (.none),de P "__package__" 167 (.none),de P "__loader__" 168 (.builtin "__main__.__loader__#opaque"),de P "__spec__" 169 (.none),de P "__annotations__" 170 (.ref 6),de P "__builtins__" 171 (.ref 4),de P "__file__" 173 (.str "/claim/cut.py" 172),de P "__cached__" 174 (.none),de P "_wall" 193 (.ref 21),de P "MOST_TEXT" 197 (.int 255 196),de P "MOST_EXPONENT" 199 (.int 99 198),de P "BasicError" 233 (.ref 41),de P "error_codes" 240 (.ref 51),de P "number_of_error" 250 (.ref 58),de P "code_of_error" 258 (.ref 65),de P "kind_of" 265 (.ref 72),de P "kind_of_name" 274 (.ref 79),de P "first_value" 281 (.ref 86),de P "figures_of" 290 (.ref 93),de P "rounded_by" 301 (.ref 100),de P "made" 313 (.ref 107),de P "whole_near" 323 (.ref 114),de P "fits" 331 (.ref 121),de P "whole_of" 340 (.ref 128),de P "decimal_of" 348 (.ref 135),de P "text_of" 355 (.ref 142),de P "checked_text" 362 (.ref 149),de P "suited" 372 (.ref 156),de P "truth" 379 (.ref 163),de P "MOST_FIGURES" 383 (.int 5 382),de P "MOST_LINE" 385 (.int 65529 384),de P "NOT_THERE" 387 (.str "FF" 386),de P "NO_LINE" 389 (.str "UL" 388),de P "WRONG_ROW" 391 (.str "SN" 390),de P "numbered_row" 401 (.ref 170),de P "loaded_program" 413 (.ref 177),de P "program_named" 421 (.ref 184),de P "first_line" 429 (.ref 191),de P "MOST_NUMBER" 433 (.int 255 432),de P "Control" 464 (.ref 208),de P "set_handler" 472 (.ref 219),de P "error_caught" 483 (.ref 226),de P "check_resume" 491 (.ref 233),de P "resume" 500 (.ref 240),de P "raise_told" 507 (.ref 247),de P "error_number" 514 (.ref 254),de P "check_end" 521 (.ref 261),de P "Flat" 556 (.ref 278),de P "put_row_of" 565 (.ref 289),de P "put_if" 576 (.ref 296),de P "put_all" 586 (.ref 303),de P "gather" 602 (.ref 310),de P "join_rows" 612 (.ref 317),de P "end_loops" 623 (.ref 324),de P "flatten" 633 (.ref 331),de P "place_of" 641 (.ref 620),de P "place_of_flatten" 642 (.ref 338),de P "line_of" 650 (.ref 345),de P "next_line" 659 (.ref 352),de P "row_behind" 667 (.ref 359),de P "Chaining" 702 (.ref 378),de P "do_end" 717 (.ref 388),de P "error_row" 729 (.ref 395),de P "ONE" 734 (.ref 396),de P "MOST_POWER" 736 (.int 9999 735),de P "d_negated" 743 (.ref 403),de P "alike" 752 (.ref 410),de P "d_add" 764 (.ref 417),de P "d_sub" 773 (.ref 424),de P "d_mul" 782 (.ref 431),de P "with_rest" 791 (.ref 438),de P "d_div" 805 (.ref 445),de P "d_compare" 816 (.ref 452),de P "d_power" 828 (.ref 459),de P "square_or_end" 836 (.ref 466),de P "is_whole" 845 (.ref 473),de P "settled" 854 (.ref 480),de P "whole_reckoned" 865 (.ref 487),de P "cut_quotient" 874 (.ref 494),de P "cut_rest" 882 (.ref 501),de P "exponent_of" 889 (.ref 508),de P "whole_power" 899 (.ref 515),de P "raised" 910 (.ref 522),de P "reckoned" 926 (.ref 529),de P "negated" 935 (.ref 536),de P "order_of" 943 (.ref 543),de P "inverted" 951 (.ref 550),de P "logic" 963 (.ref 557),de P "USUAL_HIGH" 967 (.int 10 966),de P "Grid" 1002 (.ref 574),de P "count_of" 1012 (.ref 585),de P "kind_in" 1020 (.ref 592),de P "check_highs" 1029 (.ref 599),de P "dim" 1038 (.ref 606),de P "grid_of" 1047 (.ref 613),de P "place_of_arrays" 1059 (.ref 620),de P "get_item" 1069 (.ref 627),de P "field_text" 1082 (.ref 634),de P "no_field" 1090 (.ref 641),de P "hide_fields" 1100 (.ref 648),de P "lay_fields" 1110 (.ref 655),de P "World" 1177 (.ref 673),de P "kind_here" 1185 (.ref 684),de P "get_name" 1193 (.ref 691),de P "variable_value" 1204 (.ref 698),de P "fn_called" 1210 (.ref 703),de P "parts_of_tree" 1219 (.ref 710),de P "LOGIC" 1227 (.ref 711),de P "COMPARISONS" 1234 (.ref 712),de P "order_of_texts" 1242 (.ref 719),de P "compared" 1250 (.ref 726),de P "worth_of_texts" 1259 (.ref 733),de P "worth_of_two" 1265 (.ref 738),de P "worth_of_one" 1275 (.ref 745),de P "worth_of_leaf" 1286 (.ref 752),de P "worth_of_tree" 1296 (.ref 759),de P "worth" 1302 (.ref 764),de P "worth_worth" 1303 (.ref 764),de P "MOST_PILE" 1307 (.int 20 1306),de P "WorkRun" 1463 (.ref 877),de P "_law_next" 1475 (.ref 888),de P "_law_statement" 1485 (.ref 895),de P "_law_program" 1496 (.ref 902),de P "_law_done" 1506 (.ref 909),de P "_law_led" 1515 (.ref 916),de P "_law_gone" 1528 (.ref 923),de P "_law_walk" 1534 (.ref 928),de P "law" 1542 (.ref 935)] 129
noncomputable def o22 (_:Params):Obj:=sO (.type "tuple") none [.type "Exception"] 0
noncomputable def o25 (_:Params):Obj:=ceO (.type "cell") none (some (.ref 41))
noncomputable def o30 (_:Params):Obj:=sO (.type "tuple") none [.str "" 212] 0
noncomputable def o31 (_:Params):Obj:=sO (.type "tuple") none [.ref 25] 0
noncomputable def o37 (_:Params):Obj:=cO [.str "__init__" 213,.str "BasicError.__init__" 214,.str "/claim/cut.py" 215,.int 9 0,.int 3 0,.int 0 0,.int 0 0,.int 3 0,.ref 32,.bool true,.int 181 0,.ref 33,.none,.ref 34,.ref 35,.ref 36,.int 220 0,.int 9 0,.str "/claim/cut.py" 221]
noncomputable def o38 (_:Params):Obj:=fO none (yaE [4,0]) rfl "BasicError.__init__" 3 [("__class__",25)] (.ref 30) (.none) (.none) (.str "basicplus.values" 194) none (.ref 37) (.ref 31) 0
noncomputable def o40 (P:Params):Obj:=dO (.type "dict") none [de P "__module__" 207 (.str "basicplus.values" 194),de P "__firstlineno__" 211 (.int 7 210),de P "__init__" 222 (.ref 38),de P "__static_attributes__" 225 (.ref 39),de P "__weakref__" 228 (.ref 42),de P "__doc__" 229 (.none)] 4
noncomputable def o41 (_:Params):Obj:=kO (.type "type") none "BasicError" [.type "Exception"] [.ref 41,.type "Exception",.type "BaseException",.type "object"] 40 "BasicError" true [] [] false none false #[some (.ref 22),none,some (.str "BasicError" 200),some (.str "BasicError" 208),some (.builtin "Exception.__new__"),some (.bool true)]
noncomputable def o42 (_:Params):Obj:=tO (.type "getset_descriptor") none [.str "__weakref__" 227,.ref 41,.builtin "ExceptionGroup.__weakref__",.none]
noncomputable def o50 (_:Params):Obj:=cO [.str "error_codes" 234,.str "error_codes" 235,.str "/claim/cut.py" 236,.int 13 0,.int 0 0,.int 0 0,.int 0 0,.int 3 0,.ref 45,.bool true,.int 181 0,.ref 46,.none,.ref 47,.ref 48,.ref 49,.int 238 0,.int 13 0,.str "/claim/cut.py" 239]
noncomputable def o51 (_:Params):Obj:=fO none (yaE [5]) rfl "error_codes" 3 [] (.none) (.none) (.none) (.str "basicplus.values" 194) none (.ref 50) (.none) 0
noncomputable def o57 (_:Params):Obj:=cO [.str "number_of_error" 241,.str "number_of_error" 242,.str "/claim/cut.py" 243,.int 16 0,.int 1 0,.int 0 0,.int 0 0,.int 3 0,.ref 52,.bool true,.int 181 0,.ref 53,.none,.ref 54,.ref 55,.ref 56,.int 248 0,.int 16 0,.str "/claim/cut.py" 249]
noncomputable def o58 (_:Params):Obj:=fO none (yaE [6]) rfl "number_of_error" 3 [] (.none) (.none) (.none) (.str "basicplus.values" 194) none (.ref 57) (.none) 0
noncomputable def o64 (_:Params):Obj:=cO [.str "code_of_error" 251,.str "code_of_error" 252,.str "/claim/cut.py" 253,.int 24 0,.int 1 0,.int 0 0,.int 0 0,.int 3 0,.ref 59,.bool true,.int 181 0,.ref 60,.none,.ref 61,.ref 62,.ref 63,.int 256 0,.int 24 0,.str "/claim/cut.py" 257]
noncomputable def o65 (_:Params):Obj:=fO none (yaE [7]) rfl "code_of_error" 3 [] (.none) (.none) (.none) (.str "basicplus.values" 194) none (.ref 64) (.none) 0
noncomputable def yqF (_:Params):Obj:=cO [.str "fits" 324,.str "fits" 325,.str "/claim/cut.py" 326,.int 79 0,.int 2 0,.int 0 0,.int 0 0,.int 3 0,.ref 115,.bool true,.int 181 0,.ref 116,.none,.ref 117,.ref 118,.ref 119,.int 329 0,.int 79 0,.str "/claim/cut.py" 330]
noncomputable def yqG (_:Params):Obj:=fO none (yaE [15]) rfl "fits" 3 [] (.none) (.none) (.none) (.str "basicplus.values" 194) none (.ref 120) (.none) 0
noncomputable def yqH (_:Params):Obj:=cO [.str "whole_of" 332,.str "whole_of" 333,.str "/claim/cut.py" 334,.int 81 0,.int 2 0,.int 0 0,.int 0 0,.int 3 0,.ref 122,.bool true,.int 181 0,.ref 123,.none,.ref 124,.ref 125,.ref 126,.int 338 0,.int 81 0,.str "/claim/cut.py" 339]
noncomputable def yqI (_:Params):Obj:=fO none (yaE [16]) rfl "whole_of" 3 [] (.none) (.none) (.none) (.str "basicplus.values" 194) none (.ref 127) (.none) 0
noncomputable def yqJ (_:Params):Obj:=cO [.str "__init__" 446,.str "Control.__init__" 447,.str "/claim/cut.py" 448,.int 157 0,.int 2 0,.int 0 0,.int 0 0,.int 3 0,.ref 199,.bool true,.int 181 0,.ref 200,.none,.ref 201,.ref 202,.ref 203,.int 451 0,.int 157 0,.str "/claim/cut.py" 452]
noncomputable def yqK (_:Params):Obj:=fO none (yaE [34,0]) rfl "Control.__init__" 3 [] (.none) (.none) (.none) (.str "basicplus.control" 430) none (.ref 204) (.none) 0
noncomputable def yqL (P:Params):Obj:=dO (.type "dict") none [de P "__module__" 441 (.str "basicplus.control" 430),de P "__firstlineno__" 445 (.int 155 444),de P "__init__" 453 (.ref 205),de P "__static_attributes__" 457 (.ref 206),de P "__dict__" 459 (.ref 209),de P "__weakref__" 461 (.ref 210),de P "__doc__" 462 (.none)] 4
noncomputable def yqM (_:Params):Obj:=kO (.type "type") none "Control" [.type "object"] [.ref 208,.type "object"] 207 "Control" true [] [] false none false #[none,none,some (.str "Control" 434),some (.str "Control" 442),some (.builtin "object.__new__"),some (.bool true)]
noncomputable def yqN (_:Params):Obj:=tO (.type "getset_descriptor") none [.str "__dict__" 458,.ref 208,.builtin "function.__dict__",.builtin "function.__dict__#set"]
noncomputable def yqO (_:Params):Obj:=tO (.type "getset_descriptor") none [.str "__weakref__" 460,.ref 208,.builtin "ExceptionGroup.__weakref__",.none]
noncomputable def yqP (_:Params):Obj:=cO [.str "set_handler" 465,.str "set_handler" 466,.str "/claim/cut.py" 467,.int 161 0,.int 2 0,.int 0 0,.int 0 0,.int 3 0,.ref 213,.bool true,.int 181 0,.ref 214,.none,.ref 215,.ref 216,.ref 217,.int 470 0,.int 161 0,.str "/claim/cut.py" 471]
noncomputable def yqQ (_:Params):Obj:=fO none (yaE [35]) rfl "set_handler" 3 [] (.none) (.none) (.none) (.str "basicplus.control" 430) none (.ref 218) (.none) 0
noncomputable def yqR (_:Params):Obj:=cO [.str "error_caught" 473,.str "error_caught" 474,.str "/claim/cut.py" 475,.int 165 0,.int 5 0,.int 0 0,.int 0 0,.int 3 0,.ref 220,.bool true,.int 181 0,.ref 221,.none,.ref 222,.ref 223,.ref 224,.int 481 0,.int 165 0,.str "/claim/cut.py" 482]
noncomputable def yqS (_:Params):Obj:=fO none (yaE [36]) rfl "error_caught" 3 [] (.none) (.none) (.none) (.str "basicplus.control" 430) none (.ref 225) (.none) 0
noncomputable def yqT (_:Params):Obj:=cO [.str "check_resume" 484,.str "check_resume" 485,.str "/claim/cut.py" 486,.int 171 0,.int 2 0,.int 0 0,.int 0 0,.int 3 0,.ref 227,.bool true,.int 181 0,.ref 228,.none,.ref 229,.ref 230,.ref 231,.int 489 0,.int 171 0,.str "/claim/cut.py" 490]
noncomputable def yqU (_:Params):Obj:=fO none (yaE [37]) rfl "check_resume" 3 [] (.none) (.none) (.none) (.str "basicplus.control" 430) none (.ref 232) (.none) 0
noncomputable def yqV (_:Params):Obj:=cO [.str "resume" 492,.str "resume" 493,.str "/claim/cut.py" 494,.int 174 0,.int 3 0,.int 0 0,.int 0 0,.int 3 0,.ref 234,.bool true,.int 181 0,.ref 235,.none,.ref 236,.ref 237,.ref 238,.int 498 0,.int 174 0,.str "/claim/cut.py" 499]
noncomputable def yqW (_:Params):Obj:=fO none (yaE [38]) rfl "resume" 3 [] (.none) (.none) (.none) (.str "basicplus.control" 430) none (.ref 239) (.none) 0
noncomputable def yqX (_:Params):Obj:=cO [.str "raise_told" 501,.str "raise_told" 502,.str "/claim/cut.py" 503,.int 180 0,.int 1 0,.int 0 0,.int 0 0,.int 3 0,.ref 241,.bool true,.int 181 0,.ref 242,.none,.ref 243,.ref 244,.ref 245,.int 505 0,.int 180 0,.str "/claim/cut.py" 506]
noncomputable def yqY (_:Params):Obj:=fO none (yaE [39]) rfl "raise_told" 3 [] (.none) (.none) (.none) (.str "basicplus.control" 430) none (.ref 246) (.none) 0
noncomputable def yqZ (_:Params):Obj:=cO [.str "error_number" 508,.str "error_number" 509,.str "/claim/cut.py" 510,.int 184 0,.int 1 0,.int 0 0,.int 0 0,.int 3 0,.ref 248,.bool true,.int 181 0,.ref 249,.none,.ref 250,.ref 251,.ref 252,.int 512 0,.int 184 0,.str "/claim/cut.py" 513]
noncomputable def yq0 (_:Params):Obj:=fO none (yaE [40]) rfl "error_number" 3 [] (.none) (.none) (.none) (.str "basicplus.control" 430) none (.ref 253) (.none) 0
noncomputable def yq1 (_:Params):Obj:=cO [.str "check_end" 515,.str "check_end" 516,.str "/claim/cut.py" 517,.int 186 0,.int 1 0,.int 0 0,.int 0 0,.int 3 0,.ref 255,.bool true,.int 181 0,.ref 256,.none,.ref 257,.ref 258,.ref 259,.int 519 0,.int 186 0,.str "/claim/cut.py" 520]
noncomputable def yq2 (_:Params):Obj:=fO none (yaE [41]) rfl "check_end" 3 [] (.none) (.none) (.none) (.str "basicplus.control" 430) none (.ref 260) (.none) 0
noncomputable def yq3 (_:Params):Obj:=cO [.str "__init__" 536,.str "Flat.__init__" 537,.str "/claim/cut.py" 538,.int 192 0,.int 1 0,.int 0 0,.int 0 0,.int 3 0,.ref 269,.bool true,.int 181 0,.ref 270,.none,.ref 271,.ref 272,.ref 273,.int 540 0,.int 192 0,.str "/claim/cut.py" 541]
noncomputable def yq4 (_:Params):Obj:=fO none (yaE [43,0]) rfl "Flat.__init__" 3 [] (.none) (.none) (.none) (.str "basicplus.flatten" 522) none (.ref 274) (.none) 0
noncomputable def yq5 (P:Params):Obj:=dO (.type "dict") none [de P "__module__" 531 (.str "basicplus.flatten" 522),de P "__firstlineno__" 535 (.int 190 534),de P "__init__" 542 (.ref 275),de P "__static_attributes__" 549 (.ref 276),de P "__dict__" 551 (.ref 279),de P "__weakref__" 553 (.ref 280),de P "__doc__" 554 (.none)] 4
noncomputable def yq6 (_:Params):Obj:=kO (.type "type") none "Flat" [.type "object"] [.ref 278,.type "object"] 277 "Flat" true [] [] false none false #[none,none,some (.str "Flat" 524),some (.str "Flat" 532),some (.builtin "object.__new__"),some (.bool true)]
noncomputable def yq7 (_:Params):Obj:=tO (.type "getset_descriptor") none [.str "__dict__" 550,.ref 278,.builtin "function.__dict__",.builtin "function.__dict__#set"]
noncomputable def yq8 (_:Params):Obj:=tO (.type "getset_descriptor") none [.str "__weakref__" 552,.ref 278,.builtin "ExceptionGroup.__weakref__",.none]
noncomputable def yq9 (_:Params):Obj:=cO [.str "put_row_of" 557,.str "put_row_of" 558,.str "/claim/cut.py" 559,.int 199 0,.int 3 0,.int 0 0,.int 0 0,.int 3 0,.ref 283,.bool true,.int 181 0,.ref 284,.none,.ref 285,.ref 286,.ref 287,.int 563 0,.int 199 0,.str "/claim/cut.py" 564]
noncomputable def yra (_:Params):Obj:=fO none (yaE [44]) rfl "put_row_of" 3 [] (.none) (.none) (.none) (.str "basicplus.flatten" 522) none (.ref 288) (.none) 0
noncomputable def yrb (_:Params):Obj:=cO [.str "put_all" 577,.str "put_all" 578,.str "/claim/cut.py" 579,.int 212 0,.int 3 0,.int 0 0,.int 0 0,.int 3 0,.ref 297,.bool true,.int 181 0,.ref 298,.none,.ref 299,.ref 300,.ref 301,.int 584 0,.int 212 0,.str "/claim/cut.py" 585]
noncomputable def yrc (_:Params):Obj:=fO none (yaE [46]) rfl "put_all" 3 [] (.none) (.none) (.none) (.str "basicplus.flatten" 522) none (.ref 302) (.none) 0
noncomputable def yrd (_:Params):Obj:=cO [.str "gather" 587,.str "gather" 588,.str "/claim/cut.py" 589,.int 218 0,.int 1 0,.int 0 0,.int 0 0,.int 3 0,.ref 304,.bool true,.int 181 0,.ref 305,.none,.ref 306,.ref 307,.ref 308,.int 600 0,.int 218 0,.str "/claim/cut.py" 601]
noncomputable def yre (_:Params):Obj:=fO none (yaE [47]) rfl "gather" 3 [] (.none) (.none) (.none) (.str "basicplus.flatten" 522) none (.ref 309) (.none) 0
noncomputable def yrf (_:Params):Obj:=cO [.str "flatten" 624,.str "flatten" 625,.str "/claim/cut.py" 626,.int 249 0,.int 1 0,.int 0 0,.int 0 0,.int 3 0,.ref 325,.bool true,.int 181 0,.ref 326,.none,.ref 327,.ref 328,.ref 329,.int 631 0,.int 249 0,.str "/claim/cut.py" 632]
noncomputable def yrg (_:Params):Obj:=fO none (yaE [50]) rfl "flatten" 3 [] (.none) (.none) (.none) (.str "basicplus.flatten" 522) none (.ref 330) (.none) 0
noncomputable def yrh (_:Params):Obj:=cO [.str "place_of" 634,.str "place_of" 635,.str "/claim/cut.py" 636,.int 258 0,.int 2 0,.int 0 0,.int 0 0,.int 3 0,.ref 332,.bool true,.int 181 0,.ref 333,.none,.ref 334,.ref 335,.ref 336,.int 639 0,.int 258 0,.str "/claim/cut.py" 640]
noncomputable def yri (_:Params):Obj:=fO none (yaE [51]) rfl "place_of" 3 [] (.none) (.none) (.none) (.str "basicplus.flatten" 522) none (.ref 337) (.none) 0
noncomputable def yrj (_:Params):Obj:=cO [.str "line_of" 643,.str "line_of" 644,.str "/claim/cut.py" 645,.int 263 0,.int 2 0,.int 0 0,.int 0 0,.int 3 0,.ref 339,.bool true,.int 181 0,.ref 340,.none,.ref 341,.ref 342,.ref 343,.int 648 0,.int 263 0,.str "/claim/cut.py" 649]
noncomputable def yrk (_:Params):Obj:=fO none (yaE [53]) rfl "line_of" 3 [] (.none) (.none) (.none) (.str "basicplus.flatten" 522) none (.ref 344) (.none) 0
noncomputable def yrl (_:Params):Obj:=cO [.str "row_behind" 660,.str "row_behind" 661,.str "/claim/cut.py" 662,.int 270 0,.int 2 0,.int 0 0,.int 0 0,.int 3 0,.ref 353,.bool true,.int 181 0,.ref 354,.none,.ref 355,.ref 356,.ref 357,.int 665 0,.int 270 0,.str "/claim/cut.py" 666]
noncomputable def yrm (_:Params):Obj:=fO none (yaE [55]) rfl "row_behind" 3 [] (.none) (.none) (.none) (.str "basicplus.flatten" 522) none (.ref 358) (.none) 0
noncomputable def yrn (_:Params):Obj:=cO [.str "do_end" 703,.str "do_end" 704,.str "/claim/cut.py" 705,.int 279 0,.int 3 0,.int 0 0,.int 0 0,.int 3 0,.ref 382,.bool true,.int 181 0,.ref 383,.none,.ref 384,.ref 385,.ref 386,.int 715 0,.int 279 0,.str "/claim/cut.py" 716]
noncomputable def yro (_:Params):Obj:=fO none (yaE [58]) rfl "do_end" 3 [] (.none) (.none) (.none) (.str "basicplus.rundo" 668) none (.ref 387) (.none) 0
noncomputable def yrp (_:Params):Obj:=cO [.str "error_row" 720,.str "error_row" 721,.str "/claim/cut.py" 722,.int 302 0,.int 3 0,.int 0 0,.int 0 0,.int 3 0,.ref 389,.bool true,.int 181 0,.ref 390,.none,.ref 391,.ref 392,.ref 393,.int 727 0,.int 302 0,.str "/claim/cut.py" 728]
noncomputable def yrq (_:Params):Obj:=fO none (yaE [60]) rfl "error_row" 3 [] (.none) (.none) (.none) (.str "basicplus.run" 718) none (.ref 394) (.none) 0
noncomputable def yrr (_:Params):Obj:=sO (.type "tuple") none [.int 16 1125,.int 9 1126,.int 2000 1127,.int 20 1128,.int 2000 1129] 0
noncomputable def yrs (_:Params):Obj:=cO [.str "__init__" 1130,.str "World.__init__" 1131,.str "/claim/cut.py" 1132,.int 491 0,.int 6 0,.int 0 0,.int 0 0,.int 3 0,.ref 664,.bool true,.int 181 0,.ref 665,.none,.ref 666,.ref 667,.ref 668,.int 1139 0,.int 491 0,.str "/claim/cut.py" 1140]
noncomputable def yrt (_:Params):Obj:=fO none (yaE [105,0]) rfl "World.__init__" 3 [] (.ref 663) (.none) (.none) (.str "basicplus.world" 1111) none (.ref 669) (.none) 0
noncomputable def yru (P:Params):Obj:=dO (.type "dict") none [de P "__module__" 1120 (.str "basicplus.world" 1111),de P "__firstlineno__" 1124 (.int 489 1123),de P "__init__" 1141 (.ref 670),de P "__static_attributes__" 1170 (.ref 671),de P "__dict__" 1172 (.ref 674),de P "__weakref__" 1174 (.ref 675),de P "__doc__" 1175 (.none)] 4
noncomputable def yrv (_:Params):Obj:=kO (.type "type") none "World" [.type "object"] [.ref 673,.type "object"] 672 "World" true [] [] false none false #[none,none,some (.str "World" 1113),some (.str "World" 1121),some (.builtin "object.__new__"),some (.bool true)]
noncomputable def yrw (_:Params):Obj:=tO (.type "getset_descriptor") none [.str "__dict__" 1171,.ref 673,.builtin "function.__dict__",.builtin "function.__dict__#set"]
noncomputable def yrx (_:Params):Obj:=tO (.type "getset_descriptor") none [.str "__weakref__" 1173,.ref 673,.builtin "ExceptionGroup.__weakref__",.none]
noncomputable def yry (_:Params):Obj:=cO [.str "parts_of_tree" 1213,.str "parts_of_tree" 1214,.str "/claim/cut.py" 1215,.int 558 0,.int 1 0,.int 0 0,.int 0 0,.int 3 0,.ref 704,.bool true,.int 181 0,.ref 705,.none,.ref 706,.ref 707,.ref 708,.int 1217 0,.int 558 0,.str "/claim/cut.py" 1218]
noncomputable def yrz (_:Params):Obj:=fO none (yaE [112]) rfl "parts_of_tree" 3 [] (.none) (.none) (.none) (.str "basicplus.exprread" 1211) none (.ref 709) (.none) 0
noncomputable def yrA (_:Params):Obj:=cO [.str "worth_of_leaf" 1276,.str "worth_of_leaf" 1277,.str "/claim/cut.py" 1278,.int 596 0,.int 3 0,.int 0 0,.int 0 0,.int 3 0,.ref 746,.bool true,.int 181 0,.ref 747,.none,.ref 748,.ref 749,.ref 750,.int 1284 0,.int 596 0,.str "/claim/cut.py" 1285]
noncomputable def yrB (_:Params):Obj:=fO none (yaE [121]) rfl "worth_of_leaf" 3 [] (.none) (.none) (.none) (.str "basicplus.worth" 1220) none (.ref 751) (.none) 0
noncomputable def yrC (_:Params):Obj:=cO [.str "worth_of_tree" 1287,.str "worth_of_tree" 1288,.str "/claim/cut.py" 1289,.int 601 0,.int 3 0,.int 0 0,.int 0 0,.int 3 0,.ref 753,.bool true,.int 181 0,.ref 754,.none,.ref 755,.ref 756,.ref 757,.int 1294 0,.int 601 0,.str "/claim/cut.py" 1295]
noncomputable def yrD (_:Params):Obj:=fO none (yaE [122]) rfl "worth_of_tree" 3 [] (.none) (.none) (.none) (.str "basicplus.worth" 1220) none (.ref 758) (.none) 0
noncomputable def yrE (_:Params):Obj:=cO [.str "worth" 1297,.str "worth" 1298,.str "/claim/cut.py" 1299,.int 614 0,.int 2 0,.int 0 0,.int 0 0,.int 3 0,.ref 760,.bool true,.int 181 0,.ref 761,.none,.none,.none,.ref 762,.int 1300 0,.int 614 0,.str "/claim/cut.py" 1301]
noncomputable def yrF (_:Params):Obj:=fO none (yaE [123]) rfl "worth" 3 [] (.none) (.none) (.none) (.str "basicplus.worth" 1220) none (.ref 763) (.none) 0
noncomputable def yrG (_:Params):Obj:=cO [.str "__init__" 1320,.str "WorkRun.__init__" 1321,.str "/claim/cut.py" 1322,.int 632 0,.int 4 0,.int 0 0,.int 0 0,.int 3 0,.ref 772,.bool true,.int 181 0,.ref 773,.none,.ref 774,.ref 775,.ref 776,.int 1327 0,.int 632 0,.str "/claim/cut.py" 1328]
noncomputable def yrH (_:Params):Obj:=fO none (yaE [127,0]) rfl "WorkRun.__init__" 3 [] (.none) (.none) (.none) (.str "basicplus.workrun" 1304) none (.ref 777) (.none) 0
noncomputable def yrI (_:Params):Obj:=cO [.str "whole" 1338,.str "WorkRun.whole" 1339,.str "/claim/cut.py" 1340,.int 644 0,.int 2 0,.int 0 0,.int 0 0,.int 3 0,.ref 786,.bool true,.int 181 0,.ref 787,.none,.ref 788,.ref 789,.ref 790,.int 1343 0,.int 644 0,.str "/claim/cut.py" 1344]
noncomputable def yrJ (_:Params):Obj:=fO none (yaE [127,2]) rfl "WorkRun.whole" 3 [] (.none) (.none) (.none) (.str "basicplus.workrun" 1304) none (.ref 791) (.none) 0
noncomputable def yrK (P:Params):Obj:=dO (.type "dict") none [de P "__module__" 1315 (.str "basicplus.workrun" 1304),de P "__firstlineno__" 1319 (.int 630 1318),de P "__init__" 1329 (.ref 778),de P "worth" 1337 (.ref 785),de P "whole" 1345 (.ref 792),de P "value_of_name" 1353 (.ref 799),de P "item_of" 1359 (.ref 804),de P "call" 1368 (.ref 811),de P "fn" 1377 (.ref 818),de P "rows_worth" 1386 (.ref 825),de P "answered" 1395 (.ref 832),de P "assign" 1404 (.ref 839),de P "store" 1413 (.ref 846),de P "put" 1423 (.ref 853),de P "next_data" 1431 (.ref 860),de P "number_told" 1439 (.ref 867),de P "plus" 1448 (.ref 874),de P "__static_attributes__" 1456 (.ref 875),de P "__dict__" 1458 (.ref 878),de P "__weakref__" 1460 (.ref 879),de P "__doc__" 1461 (.none)] 4
noncomputable def yrL (_:Params):Obj:=kO (.type "type") none "WorkRun" [.type "object"] [.ref 877,.type "object"] 876 "WorkRun" true [] [] false none false #[none,none,some (.str "WorkRun" 1308),some (.str "WorkRun" 1316),some (.builtin "object.__new__"),some (.bool true)]
noncomputable def yrM (_:Params):Obj:=tO (.type "getset_descriptor") none [.str "__dict__" 1457,.ref 877,.builtin "function.__dict__",.builtin "function.__dict__#set"]
noncomputable def yrN (_:Params):Obj:=tO (.type "getset_descriptor") none [.str "__weakref__" 1459,.ref 877,.builtin "ExceptionGroup.__weakref__",.none]
noncomputable def yrO (_:Params):Obj:=cO [.str "_law_next" 1466,.str "_law_next" 1467,.str "/claim/cut.py" 1468,.int 691 0,.int 2 0,.int 0 0,.int 0 0,.int 3 0,.ref 882,.bool true,.int 181 0,.ref 883,.none,.ref 884,.ref 885,.ref 886,.int 1473 0,.int 691 0,.str "/claim/cut.py" 1474]
noncomputable def yrP (_:Params):Obj:=fO none (yaE [129]) rfl "_law_next" 3 [] (.none) (.none) (.none) (.str "law_pf0025_01" 1464) none (.ref 887) (.none) 0
noncomputable def yrQ (_:Params):Obj:=cO [.str "_law_statement" 1476,.str "_law_statement" 1477,.str "/claim/cut.py" 1478,.int 697 0,.int 2 0,.int 0 0,.int 0 0,.int 3 0,.ref 889,.bool true,.int 181 0,.ref 890,.none,.ref 891,.ref 892,.ref 893,.int 1483 0,.int 697 0,.str "/claim/cut.py" 1484]
noncomputable def yrR (_:Params):Obj:=fO none (yaE [130]) rfl "_law_statement" 3 [] (.none) (.none) (.none) (.str "law_pf0025_01" 1464) none (.ref 894) (.none) 0
noncomputable def yrS (_:Params):Obj:=cO [.str "_law_program" 1486,.str "_law_program" 1487,.str "/claim/cut.py" 1488,.int 709 0,.int 1 0,.int 0 0,.int 0 0,.int 3 0,.ref 896,.bool true,.int 181 0,.ref 897,.none,.ref 898,.ref 899,.ref 900,.int 1494 0,.int 709 0,.str "/claim/cut.py" 1495]
noncomputable def yrT (_:Params):Obj:=fO none (yaE [131]) rfl "_law_program" 3 [] (.none) (.none) (.none) (.str "law_pf0025_01" 1464) none (.ref 901) (.none) 0
noncomputable def yrU (_:Params):Obj:=cO [.str "_law_done" 1497,.str "_law_done" 1498,.str "/claim/cut.py" 1499,.int 718 0,.int 2 0,.int 0 0,.int 0 0,.int 3 0,.ref 903,.bool true,.int 181 0,.ref 904,.none,.ref 905,.ref 906,.ref 907,.int 1504 0,.int 718 0,.str "/claim/cut.py" 1505]
noncomputable def yrV (_:Params):Obj:=fO none (yaE [132]) rfl "_law_done" 3 [] (.none) (.none) (.none) (.str "law_pf0025_01" 1464) none (.ref 908) (.none) 0
noncomputable def yrW (_:Params):Obj:=cO [.str "_law_led" 1507,.str "_law_led" 1508,.str "/claim/cut.py" 1509,.int 730 0,.int 2 0,.int 0 0,.int 0 0,.int 3 0,.ref 910,.bool true,.int 181 0,.ref 911,.none,.ref 912,.ref 913,.ref 914,.int 1513 0,.int 730 0,.str "/claim/cut.py" 1514]
noncomputable def yrX (_:Params):Obj:=fO none (yaE [133]) rfl "_law_led" 3 [] (.none) (.none) (.none) (.str "law_pf0025_01" 1464) none (.ref 915) (.none) 0
noncomputable def yrY (_:Params):Obj:=cO [.str "_law_gone" 1516,.str "_law_gone" 1517,.str "/claim/cut.py" 1518,.int 735 0,.int 1 0,.int 0 0,.int 0 0,.int 3 0,.ref 917,.bool true,.int 181 0,.ref 918,.none,.ref 919,.ref 920,.ref 921,.int 1526 0,.int 735 0,.str "/claim/cut.py" 1527]
noncomputable def yrZ (_:Params):Obj:=fO none (yaE [134]) rfl "_law_gone" 3 [] (.none) (.none) (.none) (.str "law_pf0025_01" 1464) none (.ref 922) (.none) 0
noncomputable def yr0 (_:Params):Obj:=cO [.str "_law_walk" 1529,.str "_law_walk" 1530,.str "/claim/cut.py" 1531,.int 749 0,.int 1 0,.int 0 0,.int 0 0,.int 3 0,.ref 924,.bool true,.int 181 0,.ref 925,.none,.none,.none,.ref 926,.int 1532 0,.int 749 0,.str "/claim/cut.py" 1533]
noncomputable def yr1 (_:Params):Obj:=fO none (yaE [135]) rfl "_law_walk" 3 [] (.none) (.none) (.none) (.str "law_pf0025_01" 1464) none (.ref 927) (.none) 0
noncomputable def yr2 (_:Params):Obj:=cO [.str "law" 1535,.str "law" 1536,.str "/claim/cut.py" 1537,.int 777 0,.int 1 0,.int 0 0,.int 0 0,.int 3 0,.ref 929,.bool true,.int 181 0,.ref 930,.none,.ref 931,.ref 932,.ref 933,.int 1540 0,.int 777 0,.str "/claim/cut.py" 1541]
noncomputable def yr3 (_:Params):Obj:=fO none (yaE [136]) rfl "law" 3 [] (.none) (.none) (.none) (.str "law_pf0025_01" 1464) none (.ref 934) (.none) 0
noncomputable def KK (P:Params):Frag:=
 (nat_lit 2,o2 P)::(nat_lit 3,o3 P)::(nat_lit 22,o22 P)::(nat_lit 25,o25 P)::(nat_lit 30,o30 P)::(nat_lit 31,o31 P)::(nat_lit 37,o37 P)::(nat_lit 38,o38 P)::(nat_lit 40,o40 P)::(nat_lit 41,o41 P)::(nat_lit 42,o42 P)::(nat_lit 50,o50 P)::(nat_lit 51,o51 P)::(nat_lit 57,o57 P)::(nat_lit 58,o58 P)::(nat_lit 64,o64 P)::(nat_lit 65,o65 P)::(nat_lit 120,yqF P)::(nat_lit 121,yqG P)::(nat_lit 127,yqH P)::(nat_lit 128,yqI P)::(nat_lit 204,yqJ P)::(nat_lit 205,yqK P)::(nat_lit 207,yqL P)::(nat_lit 208,yqM P)::(nat_lit 209,yqN P)::(nat_lit 210,yqO P)::(nat_lit 218,yqP P)::(nat_lit 219,yqQ P)::(nat_lit 225,yqR P)::(nat_lit 226,yqS P)::(nat_lit 232,yqT P)::(nat_lit 233,yqU P)::(nat_lit 239,yqV P)::(nat_lit 240,yqW P)::(nat_lit 246,yqX P)::(nat_lit 247,yqY P)::(nat_lit 253,yqZ P)::(nat_lit 254,yq0 P)::(nat_lit 260,yq1 P)::(nat_lit 261,yq2 P)::(nat_lit 274,yq3 P)::(nat_lit 275,yq4 P)::(nat_lit 277,yq5 P)::(nat_lit 278,yq6 P)::(nat_lit 279,yq7 P)::(nat_lit 280,yq8 P)::(nat_lit 288,yq9 P)::(nat_lit 289,yra P)::(nat_lit 302,yrb P)::(nat_lit 303,yrc P)::(nat_lit 309,yrd P)::(nat_lit 310,yre P)::(nat_lit 330,yrf P)::(nat_lit 331,yrg P)::(nat_lit 337,yrh P)::(nat_lit 338,yri P)::(nat_lit 344,yrj P)::(nat_lit 345,yrk P)::(nat_lit 358,yrl P)::(nat_lit 359,yrm P)::(nat_lit 387,yrn P)::(nat_lit 388,yro P)::(nat_lit 394,yrp P)::(nat_lit 395,yrq P)::(nat_lit 663,yrr P)::(nat_lit 669,yrs P)::(nat_lit 670,yrt P)::(nat_lit 672,yru P)::(nat_lit 673,yrv P)::(nat_lit 674,yrw P)::(nat_lit 675,yrx P)::(nat_lit 709,yry P)::(nat_lit 710,yrz P)::(nat_lit 751,yrA P)::(nat_lit 752,yrB P)::(nat_lit 758,yrC P)::(nat_lit 759,yrD P)::(nat_lit 763,yrE P)::(nat_lit 764,yrF P)::(nat_lit 777,yrG P)::(nat_lit 778,yrH P)::(nat_lit 791,yrI P)::(nat_lit 792,yrJ P)::(nat_lit 876,yrK P)::(nat_lit 877,yrL P)::(nat_lit 878,yrM P)::(nat_lit 879,yrN P)::(nat_lit 887,yrO P)::(nat_lit 888,yrP P)::(nat_lit 894,yrQ P)::(nat_lit 895,yrR P)::(nat_lit 901,yrS P)::(nat_lit 902,yrT P)::(nat_lit 908,yrU P)::(nat_lit 909,yrV P)::(nat_lit 915,yrW P)::(nat_lit 916,yrX P)::(nat_lit 922,yrY P)::(nat_lit 923,yrZ P)::(nat_lit 927,yr0 P)::(nat_lit 928,yr1 P)::(nat_lit 934,yr2 P)::(nat_lit 935,yr3 P)::[]
noncomputable def KA:List Addr:=[2,3,22,25,30,31,37,38,40,41,42,50,51,57,58,64,65,120,121,127,128,204,205,207,208,209,210,218,219,225,226,232,233,239,240,246,247,253,254,260,261,274,275,277,278,279,280,288,289,302,303,309,310,330,331,337,338,344,345,358,359,387,388,394,395,663,669,670,672,673,674,675,709,710,751,752,758,759,763,764,777,778,791,792,876,877,878,879,887,888,894,895,901,902,908,909,915,916,922,923,927,928,934,935]
noncomputable def VV:Program:=view PW [136]
noncomputable def LL:List Str:=(PW.main.scope.names.map (·.1)).filter λx=>!(x==Str.ofString "law" || startupNames.contains x)
noncomputable def ylT (P:Params):BT:=((boot_heap P).objs.toList.foldl (λx o=>(x.1.ins x.2 o,x.2+1)) (BT.nil,0)).1
theorem yfQ (P:Params):absHeap (ylT P) 11 {} = boot_heap P:=by kernel_rfl
theorem yfR (w:World):((boot_heap w.params).isNs mainGlobals,(boot_heap w.params).objs.size,(boot_heap w.params).nsMap mainGlobals "__annotations__")=(true,11,some (Value.ref 6)):=by kernel_rfl
theorem yot:opening PW=plainProg PW.main.scope.names:=by kernel_rfl
theorem ylU (s:Shared):fenceModules? PW s=some s:=by kernel_rfl
theorem yd1 (P:Params):KA=(KK P).map (·.1):=by kernel_rfl
theorem yjU (w:World) (os:OsState):(yfP (stepT (denote treeTable) PW w) (stepOk 11 (some (Value.ref 6))) 11030 ⟨ylT w.params,11,{},Array.mk [],boot_drawn,boot_toks,os⟩ (topStub PW)).map (λs=>
   ((staticsOk (importedModules PW.main.body) (boot_heap w.params) s.abs.heap && namesBound PW s.abs.heap && gensDone s.abs && laidKept (boot_heap w.params) s.abs.heap),openSeen VV LL (importedModules PW.main.body) (λs=>xlAt VV [] s && recOk [] s) true s.abs,
    (KK w.params).map λp=>(Nat.blt p.1 s.n,s.tree.get p.1,alive p.2)))=some (true,openGood VV LL,(KK w.params).map λp=>(true,some p.2,some p.2)):=by
 rw [PySem.W.Fast.te10156331382660048174,PySem.W.Fast.te11892475500146522536,PySem.W.Fast.te14364793385576792824,PySem.W.Fast.te4187177175401517315,PySem.W.Fast.te5923862056798008813]
 kernel_rfl
theorem left:LeftO PW VV LL (λs=>xlAt VV [] s && recOk [] s) (λs=>KA.map s.heap.get?) (λw=>(KK w.params).map λp=>some p.2) 11030 true:=
 yjT yot (by decide) ylU yfR yfQ yd1 yjU
theorem yr4:PySem.Challenge.rw_pf0025_01.wellSaid=true:=by
 rw [PySem.W.Fast.te9446332074065402090]
 unfold PySem.W.Fast.tw9446332074065402090 PySem.W.Fast.tw17960256430627541270 PySem.W.Fast.tw2436336058641802641 PySem.W.Fast.tw12908688711261696721
 repeat' (with_reducible refine Bool.and_eq_true_iff.mpr ⟨?_,?_⟩)
 all_goals as_aux_lemma=>kernel_rfl
abbrev RW:OpenRow:=OpenLaw.row PySem.Challenge.rw_pf0025_01
theorem yjV:RW.toRowW.promised:=by w_witness2
theorem you {d:DefRec} {kwd:List (Str × PySem.Expr)} (hdef:defOf VV RW.name=some (d,kwd)) (hp:RW.prog.theDef RW.name=some (d.params,d.body,d.scope)) (hk:kwWritten? d.params.kwonlyargs d.params.kw_defaults=some kwd)
  (walk:WalkO VV LL (XL VV []) (Hook.says (kHook KK KA yd1)) RW.toRowW d kwd λf vs=>PySem.call f vs):PySem.Challenge.rw_pf0025_01.Holds:=
 holds_law yr4 λsaid'=>holds_open (q:=VV) (loose:=LL) (Xt:=λs=>xlAt VV [] s && recOk [] s) (XP:=XL VV []) (Yf:=Hook.obs (kHook KK KA yd1)) (Ya:=Hook.val (kHook KK KA yd1)) (YP:=Hook.says (kHook KK KA yd1)) (N:=11030)
  left (Hook.of (kHook KK KA yd1)) (Hook.keeps (kHook KK KA yd1)) (λs e=>xl_of s (Bool.and_eq_true_iff.mp e).1) XL.keeps hdef hp hk (λs e=>recFacts_of (Bool.and_eq_true_iff.mp e).2) (by rfl) said' (by decide +kernel) ⟨rfl,rfl,rfl,rfl,rfl,by decide +kernel⟩ yjV walk
theorem ylV:PySem.Challenge.rw_pf0025_01=PySem.Challenge.rw_pf0025_01/\KK=KK:=by k_fill;exact ⟨rfl,rfl⟩
set_option backward.match.sparseCases true
theorem fC {α:Type} {p:α->Prop} {a:α} {l:List α} (h:p a) (k:∀x∈l,p x):∀x∈a::l,p x:=λx hx=>(List.mem_cons.mp hx).elim (λe=>e▸h) (k x)
theorem fN {α:Type} {p:α->Prop}:∀x∈([]:List α),p x:=List.forall_mem_nil p
theorem yab {T:Prop} (h:∀G:Prop,(T->G)->G):T:=h T id
noncomputable abbrev LO:List Str:=looseW VV LL
noncomputable abbrev MM (w:World):Model:=model PySem.Challenge.rw_pf0025_01.row.prog w
noncomputable abbrev frs (l:List Env):List Addr:=l.filterMap (·.frame)
noncomputable abbrev AR (hdl:Option Value) (dp un:Nat) (gd:Option (List Code)) (l:List Env):Around:={handled:=hdl,depth:=dp,frames:=some l,guards:=gd,units:=un}
structure Std (w:World) (mean:ExcName->Option Value) (mg mb:Str->Option Value) (base:Heap) (l:List Env) (h:Heap):Prop where
 X:(KK w.params).In base
 T:Top VV LO mean mg mb base
 S:base.StaysIn h
 FF:h.FunFrames base l
noncomputable def ybZ (base:Heap) (l:List Env) (h:Heap) (ex:List (Addr × Obj)):Prop:=∀p∈ex,h.get? p.1=some p.2/\base.get? p.1=none/\p.1 ∉ frs l
noncomputable def ycO (ex:List Addr) (h h':Heap):Prop:=∀b o,h.get? b=some o->b ∉ ex->h'.get? b=some o
structure ybK (ex:List Addr) (h h':Heap) (post:List (Addr × Obj)):Prop where
 kept:ycO ex h h'
 get:∀p∈post,h'.get? p.1=some p.2
 new:∀p∈post,p.1 ∉ ex->h.get? p.1=none
theorem ybd {α:Type} {M:Model} {A:Around} {t:Sem α} {Q:α->Shared->Prop} {E:Value->Shared->Prop} {s:Shared} {l:List Env} {dp un:Nat}
  (h:wpAny M (AR A.handled dp un A.guards l) t Q E s) (hf:A.frames=some l) (hd:A.depth<=dp) (hu:A.units<=un):wpAny M A t Q E s:=
 λΓ p hΓ=>h Γ p ⟨hΓ.1,Nat.le_trans hΓ.2.1 hd,λl' e=>hΓ.2.2.1 l' (hf.trans e),hΓ.2.2.2.1,Nat.le_trans hΓ.2.2.2.2 hu⟩
section
variable {prog:Program} {w:World} {K:Frag} {A:Around} {s:Shared} {base:Heap} {env:Env} {outer:List Env} {ex:List (Addr × Obj)}
 {p:Program} {loose:List Str} {mean:ExcName->Option Value} {mg mb:Str->Option Value}
 {name qual:Str} {params:Arguments} {body:List Stmt} {scope:Scope} {dV kV doc pm cdv ct oc:Value} {an od:Option Addr} {osl:Array (Option Value)} {f:Addr} {args:Args} {binds:List (Str × Value)}
theorem ybe {R:Result->Shared->Prop}
  (X:K.In base) (T:Top p loose mean mg mb base) (S:base.StaysIn s.heap) (FF:s.heap.FunFrames base (env::outer)) (O:ybZ base (env::outer) s.heap ex) (hA:A.frames=some (env::outer))
  (ho:K.lookup f=some ⟨oc,od,.func (fnOf name qual params body scope dV kV doc pm an cdv ct),osl⟩) (hcd:codeIn K cdv qual=true) (hroom:A.depth<recursionLimit)
  (hbind:BindsTo s (fnOf name qual params body scope dV kV doc pm an cdv ct) args binds) (hloc:∀y∈binds,scope.names.lookup y.1=some .local)
  (h:∀g L' h₁,Fr g L' h₁ (λy=>binds.reverse.lookup y)->News g L' h₁ ex->Below A base (env::outer) g->K.In g->Top p loose mean mg mb g->(∀q∈ex,q.1<L')->ycO (ex.map (·.1)) s.heap g->(∀b o,g.get? b=some o->s.heap.get? b=some o) ->
   wpAny (model prog w) (A.deeper (envOf qual scope L' f cdv)) (execs body (envOf qual scope L' f cdv))
    (λfl s'=>R (.ok (.ret (match fl with | .ret v=>v|_=>.none))) s')
    (λe s'=>wpAny (model prog w) (A.deeper (envOf qual scope L' f cdv)) (leaving (envOf qual scope L' f cdv) e) (λ_ s''=>R (.error e) s'') (λe' s''=>R (.error e') s'') s')
    {s with heap:=h₁,toks:=s.toks+binds.length})
  (hco:scope.isCoroutine=false) (hgen:scope.isGenerator=false) (hk:scope.kind = .function)
  (hcell:∀x∈scope.names,x.2≠.cell):codeAny (model prog w) A (.call (.ref f) args) R s:=by
 have nm:∀b o,base.get? b=some o->b ∉ ex.map (·.1):=λb o e q=>by
  refine yab λGG hGG=>?_
  obtain ⟨p,hp,rfl⟩:=List.mem_map.mp q
  rw [(O p hp).2.1] at e;cases e
 have st:base.StaysIn (hideAll s.heap (ex.map (·.1))):=λb o e=>hideAll_get _ (S b o e) (nm b o e)
 have kp:ycO (ex.map (·.1)) s.heap (hideAll s.heap (ex.map (·.1))):=λb o e n=>hideAll_get _ e n
 refine codeAny_call_def (fd:=fnOf name qual params body scope dV kV doc pm an cdv ct) (body:=body) (binds:=binds) hroom ((X.keeps S) _ _ ho) rfl (T.nolimit.keeps S) (codeRec_of (X.keeps S) hcd) rfl hbind hcell hloc (λh₁ hns hk₁=>?_) hco hgen hk
 exact h (hideAll s.heap (ex.map (·.1))) s.heap.objs.size h₁ ⟨hns,λb o e=>hk₁ b o (of_hideAll _ e),Nat.le_of_eq (hideAll_size _ _)⟩
  (λp hp=>⟨hk₁ _ _ (O p hp).1,Nat.ne_of_lt (Heap.lt_size (O p hp).1),hideAll_none _ (List.mem_map_of_mem hp)⟩)
  ⟨hA,st,funFrames_hideAll FF λenv' he b hb hf=>by
   obtain ⟨p,hp,rfl⟩:=List.mem_map.mp hb
   exact (O p hp).2.2 (List.mem_filterMap.mpr ⟨env',he,hf⟩)⟩
  (X.keeps λb o e=>st b o e) (T.keeps λb o e=>st b o e) (λq hq=>Heap.lt_size (O q hq).1) kp (λb o e=>of_hideAll _ e)
end
section
variable {A₀:Around} {base h₀ g h h' hs:Heap} {l outer:List Env} {env:Env} {L:Addr} {m:Str->Option Value} {news rest post:List (Addr × Obj)} {ex:List Addr}
theorem yaN (kp:ycO ex hs g) (F:Fr g L h m) (N:News g L h news) (sub:∀p∈post,p∈news):ybK ex hs h post:=
 ⟨λb o e n=>F.keep b o (kp b o e n),λp hp=>(N p (sub p hp)).1,λp hp n=>by
  cases q:hs.get? p.1 with
  | none=>rfl
  | some o=>have:=kp _ o q n;rw [(N p (sub p hp)).2.2] at this;cases this⟩
end
section
variable {w:World} {mean:ExcName->Option Value} {mg mb:Str->Option Value} {base:Heap} {env:Env} {outer:List Env} {A:Around} {s:Shared} {Q E:Value->Shared->Prop}
theorem yjW {f c:Addr} {vs:List Value} {ns:List Int} {n n2:Nat} {t many:Int} {u u2:Tok}
  (St:Std w mean mg mb base (env::outer) s.heap) (hf:A.frames=some (env::outer)) (hh:A.handled=none) (hdp:A.depth<=600) (hun:A.units<=3000)
  (O:ybZ base (env::outer) s.heap [(f,listOf [.ref c,.int t u].toArray n)])
  (hc:s.heap.get? c=some (listOf vs.toArray n2)) (hcf:c≠f) (hi:IntsAre vs ns) (hlen:vs.length<=40) (h0:0<=t) (hm:0<many) (hm2:many<=100)
  (hret:∀r t2 u3 h' tk',0<=r->r<many->ybK [f] s.heap h' [(f,listOf [.ref c,.int (t+1) t2].toArray n)]->Q (.int r u3) {s with heap:=h',toks:=tk'}) :
  wpAny (MM w) A (call (.ref 888) [.ref f,.int many u2]) Q E s:=by
 refine ybd (dp:=600) (un:=3000) ?_ hf hdp hun
 rw [hh]
 refine wpAny_call ?_
 (refine' ybe ?X ?T ?S ?FF ?O ?A ?o ?cd ?room ?bind ?loc ?_ ?co ?gen ?k ?cell;(case A=>exact rfl);(case X=>exact Std.X (by assumption));(case T=>exact Std.T (by assumption));(case S=>exact Std.S (by assumption));(case FF=>exact Std.FF (by assumption));(case O=>assumption);(case o=>k_is);(case cd=>k_is);(case room=>exact Nat.le_of_ble_eq_true rfl);(case bind=>exact BindsTo.of_eq rfl);(case loc=>exact locs rfl);(case co=>exact rfl);(case gen=>exact rfl);(case k=>exact rfl);(case cell=>decide);k_whole)
 intro g' L' h' F' N' B' X' T' hl' kp' gs'
 (try dsimp only);(try k_fold)
 have hL:g'.IsList c vs.toArray:=⟨_,kp' _ _ hc (by simpa using hcf),rfl,_,rfl⟩
 have hsz:vs.toArray.size<=40:=by simpa using hlen
 k_steps
 all_goals (refine hret _ _ _ _ _ ?_ ?_ (yaN kp' (by assumption) (by assumption) (λ_ h=>h)))
 all_goals first|exact Int.fmod_nonneg_of_pos _ hm|exact Int.fmod_lt_of_pos _ hm
set_option backward.match.sparseCases false
end
inductive Del (d:Addr) (o:Obj):List (Addr × Obj)->List (Addr × Obj)->Prop
 | head {r:List (Addr × Obj)}:(∀p∈r,p.1≠d)->Del d o ((d,o)::r) r
 | tail {p:Addr × Obj} {r r':List (Addr × Obj)}:p.1≠d->Del d o r r'->Del d o (p::r) (p::r')
theorem Del.mem {d:Addr} {o:Obj} {l r:List (Addr × Obj)} (x:Del d o l r):(d,o)∈l:=by
 induction x with
 | head _=>exact .head _
 | tail _ _ ih=>exact .tail _ ih
theorem Del.sub {d:Addr} {o:Obj} {l r:List (Addr × Obj)} (x:Del d o l r):∀p∈r,p∈l/\p.1≠d:=by
 induction x with
 | head h=>exact λp hp=>⟨.tail _ hp,h p hp⟩
 | tail h _ ih=>
  intro p hp
  rcases List.mem_cons.mp hp with rfl|hp
  ·exact ⟨.head _,h⟩
  ·exact ⟨.tail _ (ih p hp).1,(ih p hp).2⟩
inductive Dels:List (Addr × Obj)->List (Addr × Obj)->List (Addr × Obj)->Prop
 | nil {l:List (Addr × Obj)}:Dels [] l l
 | cons {d:Addr} {o:Obj} {ex l r r':List (Addr × Obj)}:Del d o l r->Dels ex r r'->Dels ((d,o)::ex) l r'
theorem Dels.mem {ex l r:List (Addr × Obj)} (x:Dels ex l r):(∀p∈ex,p∈l)/\∀p∈r,p∈l/\p.1 ∉ ex.map (·.1):=by
 induction x with
 | nil=>exact ⟨λ_ h=>(nomatch h),λp hp=>⟨hp,by simp⟩⟩
 | cons d _ ih=>
  refine ⟨λp hp=>?_,λp hp=>?_⟩
  ·rcases List.mem_cons.mp hp with rfl|hp
   ·exact d.mem
   ·exact (d.sub _ (ih.1 p hp)).1
  ·have h1:=ih.2 p hp
   have h2:=d.sub p h1.1
   refine ⟨h2.1,?_⟩
   simp only [List.map_cons,List.mem_cons,not_or]
   exact ⟨h2.2,h1.2⟩
section
variable {w:World} {mean:ExcName->Option Value} {mg mb:Str->Option Value} {base h₀ h h':Heap} {outer:List Env} {A₀:Around} {L a:Addr} {m:Str->Option Value} {cn:Str} {cs:Scope} {ccd:Value} {news rest ex post:List (Addr × Obj)}
theorem ybL (B:Below A₀ base outer h₀) (F:Fr h₀ L h m) (XB:(KK w.params).In base) (TB:Top VV LO mean mg mb base) (hk:cs.kind = .function):Std w mean mg mb base (envOf cn cs L a ccd::outer) h:=
 ⟨XB,TB,(B.push (name:=cn) (scope:=cs) (a:=a) (cd:=ccd) F hk).stays,(B.push (name:=cn) (scope:=cs) (a:=a) (cd:=ccd) F hk).frames⟩
theorem ybH (B:Below A₀ base outer h₀) (N:News h₀ L h news) (sub:∀p∈ex,p∈news):ybZ base (envOf cn cs L a ccd::outer) h ex:=λp hp=>by
 obtain ⟨n1,n2,n3⟩:=N p (sub p hp)
 refine ⟨n1,?_,λhm=>?_⟩
 ·generalize q:(base.get? p.1)=x9
  rcases x9 with _|o
  ·rfl
  ·have:=B.stays _ _ q;rw [n3] at this;cases this
 ·obtain ⟨env,he,hf⟩:=List.mem_filterMap.mp hm
  rcases List.mem_cons.mp he with rfl|he
  ·exact n2 (Option.some.inj hf).symm
  ·obtain ⟨o,ho,_⟩:=(B.frames.mem (List.mem_filterMap.mpr ⟨env,he,hf⟩)).2
   rw [n3] at ho;cases ho
theorem yd2 (F:Fr h₀ L h m) (N:News h₀ L h news) (D:((∀p∈ex,p∈news)/\∀p∈rest,p∈news/\p.1 ∉ ex.map (·.1))) (P:ybK (ex.map (·.1)) h h' post):Fr h₀ L h' m/\News h₀ L h' (post++rest):=by
 have hex:∀b∈ex.map (·.1),h₀.get? b=none/\b≠L:=λb hb=>by
  refine yab λGG hGG=>?_
  obtain ⟨p,hp,rfl⟩:=List.mem_map.mp hb
  obtain ⟨_,n2,n3⟩:=N p (D.1 p hp)
  refine hGG ?_;clear hGG GG
  exact ⟨n3,n2⟩
 refine yab λGG hGG=>?_
 obtain ⟨oL,es,ep,hL,r⟩:=F.ns
 have nL:L ∉ ex.map (·.1):=λq=>(hex L q).2 rfl
 have hL':=P.kept L oL hL nL
 refine hGG ?_;clear hGG GG
 refine ⟨⟨⟨oL,es,ep,hL',r⟩,λb o e=>P.kept b o (F.keep b o e) λq=>?_,F.above⟩,λp hp=>?_⟩
 ·rw [(hex b q).1] at e;cases e
 ·rcases List.mem_append.mp hp with hp|hp
  ·refine ⟨P.get p hp,?_⟩
   by_cases q:p.1∈ex.map (·.1)
   ·exact ⟨(hex _ q).2,(hex _ q).1⟩
   ·have n:=P.new p hp q
    refine ⟨λe=>?_,?_⟩
    ·rw [e,hL] at n;cases n
    ·generalize z:(h₀.get? p.1)=x9
     rcases x9 with _|o
     ·rfl
     ·rw [F.keep _ _ z] at n;cases n
  ·have h1:=D.2 p hp
   obtain ⟨n1,n2,n3⟩:=N p h1.1
   exact ⟨P.kept _ _ n1 h1.2,n2,n3⟩
theorem back (F:Fr h₀ L h m) (N:News h₀ L h news) (D:Dels ex news rest) (P:ybK (ex.map (·.1)) h h' post):Fr h₀ L h' m/\News h₀ L h' (post++rest):=yd2 F N D.mem P
theorem ylW (N:News h₀ L h news) (D:Dels ex news rest) (P:ybK (ex.map (·.1)) h h' post):∀p∈post,p.1 ∉ ex.map (·.1)->∀q∈news,p.1≠q.1:=λp hp hn q hq e=>by
 have n:=P.new p hp hn
 rw [e,(N q hq).1] at n;cases n
end
section
variable {prog:Program} {w:World} {A:Around} {E:Value->Shared->Prop} {s:Shared} {h₀:Heap} {L l b:Addr} {m:Str->Option Value} {news:List (Addr × Obj)}
theorem yov {its its2:Array Value} {Q:Value->Shared->Prop} (F:Fr h₀ L s.heap m) (N:News h₀ L s.heap news) (hl:s.heap.IsList l its) (hb:s.heap.IsList b its2) (hsz:its.size+its2.size<=sizeLine)
  (h:∀D h',Fr h₀ L h' m->News h₀ L h' ((D,listOf (its.toList++its2.toList).toArray 0)::news)->(∀p∈news,p.1<D)->Q (.ref D) {s with heap:=h'}) :
  wpAny (model prog w) A (binaryOp .Add (.ref l) (.ref b)) Q E s:=
 add_arrays F N hl hb (λh' F' N'=>h _ h' F' N' λp hp=>Heap.lt_size (N p hp).1) hsz
end
section
variable {w:World} {mean:ExcName->Option Value} {mg mb:Str->Option Value} {base h₀:Heap} {outer:List Env} {A₀:Around} {L a:Addr} {m:Str->Option Value} {cn:Str} {cs:Scope} {ccd:Value} {news rest:List (Addr × Obj)} {s:Shared} {Q E:Value->Shared->Prop}
end
section
variable {w:World} {mean:ExcName->Option Value} {mg mb:Str->Option Value} {base:Heap} {env:Env} {outer:List Env} {A:Around} {s:Shared} {Q E:Value->Shared->Prop}
inductive How where
 | none
 | next
 | line (k:Int)
inductive St where
 | error (n:Int)
 | rem
 | onerr (k:Int)
 | resume (h:How)
 | inner (h:How)
 | fin
noncomputable def How.dat:How->Dat
 | .none=>.none
 | .next=>.str (Str.ofString "NEXT")
 | .line k=>.int k
noncomputable def St.dat:St->Dat
 | .error n=>.tuple [.str (Str.ofString "ERROR"),.tuple [.str (Str.ofString "whole"),.int n]]
 | .rem=>.tuple [.str (Str.ofString "REM"),.str (Str.ofString "x")]
 | .onerr k=>.tuple [.str (Str.ofString "ONERR"),.int k]
 | .resume h=>.tuple [.str (Str.ofString "RESUME"),h.dat]
 | .inner h=>.tuple [.str (Str.ofString "INNER"),h.dat]
 | .fin=>.tuple [.str (Str.ofString "END")]
noncomputable def How.Ok (ls:List Int):How->Prop
 | .line k=>k=5∨k∈ls
 | _=>True
noncomputable def St.Ok (ls:List Int):St->Prop
 | .error n=>n∈([5,1,16,21,30,200,255,0,256]:List Int)
 | .onerr k=>k=5∨k=0∨k∈ls
 | .resume h=>h.Ok ls
 | .inner h=>h.Ok ls
 | _=>True
noncomputable abbrev yal (vs:List Value) (n:Nat):Obj:={cls:=.type "tuple",data:=.seq vs.toArray n}
section
variable {tl:List (Addr × Obj)} {a b:Addr} {n1 n2:Nat} {t1 t2 t3:Tok} {k:Int} {v:Value}
end
end
noncomputable abbrev yow (l:Addr) (i:Nat):Obj:={cls:=.type "list_iterator",data:=.fields #[.ref l,.int i 0]}
noncomputable def yfS (M:Model) (A:Around) (env:Env) (target:PySem.Expr) (body:List Stmt) (Q:Flow->Shared->Prop) (E:Value->Shared->Prop) (xv:Value) (s₁:Shared):Prop:=
 wpAny M A (pyIter xv) (λit s₂=>codeAny M A (.forLoop target it body [] env) (λr s'=>match r with | .ok f=>Q f s' | .error e=>cameBackBy M A env E e s') s₂) E s₁
noncomputable def TurnEnd (h₀:Heap) (L:Addr) (s:Shared) (I:Addr) (oI:Obj) (J:Nat->(Str->Option Value)->List (Addr × Obj)->Prop) (i:Nat) (s₃:Shared):Prop:=
 ∃h tk m' nx,s₃ = {s with heap:=h,toks:=tk}/\Fr h₀ L h m'/\News h₀ L h nx/\(I,oI)∈nx/\∃nx',(∀p∈nx',p∈nx/\p.1≠I)/\J (i+1) m' nx'
noncomputable def TurnPost (h₀:Heap) (L:Addr) (s:Shared) (I:Addr) (oI:Obj) (J:Nat->(Str->Option Value)->List (Addr × Obj)->Prop) (i:Nat) (Q:Flow->Shared->Prop) (f:Flow) (s₃:Shared):Prop:=match f with
 | .ret v=>Q (.ret v) s₃
 | .brk=>Q .next s₃
 | _=>TurnEnd h₀ L s I oI J i s₃
section
variable {prog:Program} {w:World} {A:Around} {E:Value->Shared->Prop} {s:Shared} {env:Env} {h₀:Heap} {target iter:PySem.Expr} {body:List Stmt} {Q:Flow->Shared->Prop} {pos:Pos}
theorem ydx (h:wpAny (model prog w) A (eval iter env) (λxv s₁=>yfS (model prog w) A env target body Q E xv s₁) E s) (hs:∀x,foldedSetIterable iter env x=pure x) :
  wpAny (model prog w) A (exec (.For target iter body [] pos) env) Q E s:=wpAny_For h hs
inductive yjX (h₀:Heap) (L:Addr) (s:Shared) (J:Nat->(Str->Option Value)->List (Addr × Obj)->Prop) (I:Addr) (It:Heap->Nat->Prop) (n:Nat):Nat->Shared->Prop
 | mk {i h tk m nx} (j:J i m nx) (F:Fr h₀ L h m) (N:News h₀ L h nx) (o:∀p∈nx,p.1≠I) (t:It h i) (le:i<=n):yjX h₀ L s J I It n (n+1 - i) {s with heap:=h,toks:=tk}
theorem yfT {h₀ h h₁:Heap} {L I:Addr} {m:Str->Option Value} (F:Fr h₀ L h m) (h0:h₀.get? I=none) (hL:L≠I) (k:Heap.ExtBut I h h₁):Fr h₀ L h₁ m:=
 ⟨F.ns.elim λoL x=>x.elim λes x=>x.elim λep x=>⟨oL,es,ep,k _ _ hL x.1,x.2⟩,λb o e=>k b o (λq=>nomatch h0.symm.trans (q▸e:h₀.get? I=some o)) (F.keep b o e),F.above⟩
theorem ydy {h₀ h h₁:Heap} {L I:Addr} {nx:List (Addr × Obj)} (N:News h₀ L h nx) (o:∀p∈nx,p.1≠I) (k:Heap.ExtBut I h h₁):News h₀ L h₁ nx:=
 λp hp=>⟨k _ _ (o p hp) (N p hp).1,(N p hp).2⟩
section
variable {h₀:Heap} {L I:Addr} {s s₃:Shared} {oI:Obj} {J:Nat->(Str->Option Value)->List (Addr × Obj)->Prop} {i n:Nat}
theorem TurnEnd.go {It:Heap->Nat->Prop} (hIt:∀h,h.get? I=some oI->It h (i+1)) (hlt:i<n) (e:TurnEnd h₀ L s I oI J i s₃):∃m,m<n+1 - i/\yjX h₀ L s J I It n m s₃:=by
 refine yab λGG hGG=>?_
 obtain ⟨h₃,tk₃,m₃,nx₃,rfl,F₃,N₃,hm₃,nx',hsub,hJ'⟩:=e
 refine hGG ?_;clear hGG GG
 exact ⟨n+1 - (i+1),Nat.sub_lt_sub_left (Nat.lt_succ_of_lt hlt) (Nat.lt_succ_self i),.mk hJ' F₃ (λp hp=>N₃ p (hsub p hp).1) (λp hp=>(hsub p hp).2) (hIt _ (N₃ _ hm₃).1) hlt⟩
theorem TurnPost.go {X:Prop} {Q:Flow->Shared->Prop} {f:Flow} (h:TurnPost h₀ L s I oI J i Q f s₃) (k:TurnEnd h₀ L s I oI J i s₃->X) :
  match (generalizing:=false) f with | .next | .cont=>X | .brk=>Q .next s₃ | .ret v=>Q (.ret v) s₃:=by
 rcases f with _|_|_|v
 ·exact k h
 ·exact h
 ·exact k h
 ·exact h
end
theorem ydz {target:PySem.Expr} {m:Str->Option Value} {news:List (Addr × Obj)} (J:Nat->(Str->Option Value)->List (Addr × Obj)->Prop)
  (I:Addr) (It:Heap->Nat->Prop) (n:Nat) (val:Nat->Nat->Value) (tks:Nat->Nat) {h0:Heap} {tk0:Nat}
  (F:Fr h₀ env.locals h0 m) (N:News h₀ env.locals h0 news) (j0:J 0 m news) (hI0:h₀.get? I=none) (hIL:env.locals≠I) (nI:∀p∈news,p.1≠I) (t0:It h0 0)
  (tie:∀h i,It h i->∃oI,h.get? I=some oI/\∀h',h'.get? I=some oI->It h' i)
  (item:∀i m nx h tk Q' E',J i m nx->Fr h₀ env.locals h m->News h₀ env.locals h nx->It h i->i<n->(∀h',It h' (i+1)->Heap.SameBut I h h'->Q' (some (val i tk)) {s with heap:=h',toks:=tks tk}) ->
   wpAny (model prog w) A (pyNext (.ref I)) Q' E' {s with heap:=h,toks:=tk})
  (stop:∀m nx h tk Q' E',J n m nx->Fr h₀ env.locals h m->News h₀ env.locals h nx->It h n->(∀h',Heap.ExtBut I h h'->Q' none {s with heap:=h',toks:=tk}) ->
   wpAny (model prog w) A (pyNext (.ref I)) Q' E' {s with heap:=h,toks:=tk})
  (turn:∀i m₁ nx h tk tc oI,i<n->J i m₁ nx->Fr h₀ env.locals h m₁->News h₀ env.locals h ((I,oI)::nx)->(∀p∈nx,p.1≠I) ->
   wpAny (model prog w) A (assign target env (val i tc)) (λ_ s₂=>wpAny (model prog w) A (execs body env) (TurnPost h₀ env.locals s I oI J i Q) E s₂) E {s with heap:=h,toks:=tk})
  (done:∀m₁ nx h tk,J n m₁ nx->Fr h₀ env.locals h m₁->News h₀ env.locals h nx->Q .next {s with heap:=h,toks:=tk})
  (hgo:∀i tc (Q':Unit->Shared->Prop) (E':Value->Shared->Prop) s₁,i<n->It s₁.heap (i+1)->Q' () s₁->wpAny (model prog w) A (letOwnedTupleGo target (.ref I) (val i tc)) Q' E' s₁)
  (hE:PassesOwn (model prog w) A env E) :
  codeAny (model prog w) A (.forLoop target (.ref I) body [] env) (λr s'=>match r with | .ok f=>Q f s' | .error e=>cameBackBy (model prog w) A env E e s') {s with heap:=h0,toks:=tk0}:=by
 refine codeAny_forLoop_any (yjX h₀ env.locals s J I It n) (λk s' x=>?_) (n+1) (.mk j0 F N nI t0 (Nat.zero_le _))
 refine yab λGG hGG=>?_
 cases x with
 | mk hJ F' N' nI' hit hi=>
 refine hGG ?_;clear hGG GG
 rcases Nat.lt_or_eq_of_le hi with hlt|rfl
 ·refine item _ _ _ _ _ _ _ hJ F' N' hit hlt λh₁ hit₁ hs₁=>hgo _ _ _ _ _ hlt hit₁ ?_
  exact (tie _ _ hit₁).elim λoI x=>wpAny_passesOwn hE (wpAny_mono (turn _ _ _ h₁ _ _ oI hlt hJ (yfT F' hI0 hIL hs₁.extBut) (fC ⟨x.1,λq=>hIL q.symm,hI0⟩ (ydy N' nI' hs₁.extBut)) nI')
   (λ_ s₂ h₂=>wpAny_passesOwn hE (wpAny_mono h₂ (λf s₃ h9=>h9.go λe=>e.go x.2 hlt) λ_ _ e=>e)) λ_ _ e=>e)
 ·exact stop _ _ _ _ _ _ hJ F' N' hit λh₁ he₁=>wpAny_execs_nil (done _ _ h₁ _ hJ (yfT F' hI0 hIL he₁) (ydy N' nI' he₁))
theorem ydA {target:PySem.Expr} {l:Addr} {vs:List Value} {m:Str->Option Value} {news:List (Addr × Obj)} (J:Nat->(Str->Option Value)->List (Addr × Obj)->Prop)
  (hh:A.handled=none) (F:Fr h₀ env.locals s.heap m) (N:News h₀ env.locals s.heap news) (j0:J 0 m news)
  (hlst:∀i m nx h,J i m nx->Fr h₀ env.locals h m->News h₀ env.locals h nx->h.IsList l vs.toArray/\(h₀.get? l≠none∨∃o,(l,o)∈nx))
  (turn:∀i v m₁ nx h tk I oI,vs[i]? = some v->J i m₁ nx->Fr h₀ env.locals h m₁->News h₀ env.locals h ((I,oI)::nx)->(∀p∈nx,p.1≠I) ->
   wpAny (model prog w) A (assign target env v) (λ_ s₂=>wpAny (model prog w) A (execs body env) (TurnPost h₀ env.locals s I oI J i Q) E s₂) E {s with heap:=h,toks:=tk})
  (done:∀m₁ nx h tk,J vs.length m₁ nx->Fr h₀ env.locals h m₁->News h₀ env.locals h nx->Q .next {s with heap:=h,toks:=tk})
  (hgo:∀v∈vs,∀i (Q':Unit->Shared->Prop) (E':Value->Shared->Prop) s₁,s₁.heap.IsListIter s.heap.objs.size l i->Q' () s₁->wpAny (model prog w) A (letOwnedTupleGo target (.ref s.heap.objs.size) v) Q' E' s₁)
  (hE:PassesOwn (model prog w) A env E) :
  yfS (model prog w) A env target body Q E (.ref l) s:=by
 have hl0:=(hlst _ _ _ _ j0 F N).1
 refine wpAny_pyIter_list hl0 (ydz J s.heap.objs.size (λh i=>h.IsListIter s.heap.objs.size l i) vs.length (λi _=>vs.getD i .none) id (F.push _) (λp hp=>⟨Heap.get?_push_of_some _ (N p hp).1,(N p hp).2⟩) j0 (next_is_new F) (Nat.ne_of_lt F.ns.lt)
  (λp hp=>Nat.ne_of_lt (Heap.lt_size (N p hp).1)) ⟨_,Heap.get?_push_size _ rfl,rfl,rfl⟩ (λh i x=>x.elim λo x=>⟨o,x.1,λh' e=>⟨o,e,x.2⟩⟩) ?_ ?_ ?_ done ?_ hE)
 ·exact λi m nx h tk Q' E' j F N t hlt k=>wpAny_pyNext_list_item t (hlst _ _ _ _ j F N).1 (x:=vs.getD i .none) (by simp [hlt]) k
 ·exact λm nx h tk Q' E' j F N t k=>wpAny_pyNext_list_end hh t (hlst _ _ _ _ j F N).1 (by simp) k
 ·exact λi m nx h tk tc oI hlt j F N o=>turn i _ m nx h tk _ oI (by simp [hlt]) j F N o
 ·exact λi tc Q' E' s₁ hlt t q=>hgo _ (by simp [hlt]) _ Q' E' s₁ t q
theorem yex {l:Addr} {vs:List Value} {m:Str->Option Value} {news:List (Addr × Obj)} (J:Nat->(Str->Option Value)->List (Addr × Obj)->Prop)
  (hh:A.handled=none) (F:Fr h₀ env.locals s.heap m) (N:News h₀ env.locals s.heap news) (j0:J 0 m news)
  (hlst:∀i m nx h,J i m nx->Fr h₀ env.locals h m->News h₀ env.locals h nx->h.IsList l vs.toArray/\(h₀.get? l≠none∨∃o,(l,o)∈nx))
  (turn:∀i v m₁ nx h tk I oI,vs[i]? = some v->J i m₁ nx->Fr h₀ env.locals h m₁->News h₀ env.locals h ((I,oI)::nx)->(∀p∈nx,p.1≠I) ->
   wpAny (model prog w) A (assign target env v) (λ_ s₂=>wpAny (model prog w) A (execs body env) (TurnPost h₀ env.locals s I oI J i Q) E s₂) E {s with heap:=h,toks:=tk})
  (done:∀m₁ nx h tk,J vs.length m₁ nx->Fr h₀ env.locals h m₁->News h₀ env.locals h nx->Q .next {s with heap:=h,toks:=tk})
  (hown:∀v,letOwnedTupleGo target (.ref s.heap.objs.size) v=pure ())
  (hE:PassesOwn (model prog w) A env E) :
  yfS (model prog w) A env target body Q E (.ref l) s:=
 ydA J hh F N j0 hlst turn done (λv _ i Q' E' s₁ z q=>by rw [hown];exact wpAny_pure q) hE
theorem ydB {elts:List PySem.Expr} {tk0:Nat} {tp:Pos} {l:Addr} {vs:List Value} {m:Str->Option Value} {news:List (Addr × Obj)} (J:Nat->(Str->Option Value)->List (Addr × Obj)->Prop)
  (hh:A.handled=none) (F:Fr h₀ env.locals s.heap m) (N:News h₀ env.locals s.heap news) (j0:J 0 m news)
  (hlst:∀i m nx h,J i m nx->Fr h₀ env.locals h m->News h₀ env.locals h nx->h.IsList l vs.toArray/\(h₀.get? l≠none∨∃o,(l,o)∈nx))
  (turn:∀i v m₁ nx h tk I oI,vs[i]? = some v->J i m₁ nx->Fr h₀ env.locals h m₁->News h₀ env.locals h ((I,oI)::nx)->(∀p∈nx,p.1≠I) ->
   wpAny (model prog w) A (assign (.Tuple elts tk0 tp) env v) (λ_ s₂=>wpAny (model prog w) A (execs body env) (TurnPost h₀ env.locals s I oI J i Q) E s₂) E {s with heap:=h,toks:=tk})
  (done:∀m₁ nx h tk,J vs.length m₁ nx->Fr h₀ env.locals h m₁->News h₀ env.locals h nx->Q .next {s with heap:=h,toks:=tk})
  (hvs:∀v∈vs,∃T,v = .ref T)
  (hE:PassesOwn (model prog w) A env E) :
  yfS (model prog w) A env (.Tuple elts tk0 tp) body Q E (.ref l) s:=
 ydA J hh F N j0 hlst turn done (λv hv i Q' E' s₁ z q=>by obtain ⟨T,rfl⟩:=hvs v hv;exact wpAny_letOwnedTupleGo_listiter z q) hE
end
noncomputable abbrev ybM:=List (Int × List St)
noncomputable def yb0 (x:Int × List St):Dat:=.tuple [.int x.1,.list (x.2.map St.dat)]
noncomputable def ybj (p:ybM):Dat:=.list (p.map yb0)
structure Valid (p:ybM):Prop where
 lines:∃n,2<=n/\n<=5/\p.map (·.1)=([10,20,30,40,50]:List Int).take n
 ok:∀x∈p,1<=x.2.length/\x.2.length<=2/\∀t∈x.2,t.Ok (p.map (·.1))
section
variable {w:World} {mean:ExcName->Option Value} {mg mb:Str->Option Value} {base h₀:Heap} {outer:List Env} {A₀:Around} {L a:Addr} {m:Str->Option Value} {cn:Str} {cs:Scope} {ccd:Value} {news rest:List (Addr × Obj)} {s:Shared} {Q E:Value->Shared->Prop}
theorem yfU {h:Heap} (l:List (Str × Value)) (F:Fr h₀ L h m) (e:∀p∈l,m p.1=some p.2):Fr h₀ L h (l.foldr (λp k y=>if y=p.1 then some p.2 else k y) m):=by
 have:l.foldr (λp k y=>if y=p.1 then some p.2 else k y) m=m:=by
  induction l with
  | nil=>rfl
  | cons p l ih=>
   rw [List.foldr_cons,ih λq hq=>e q (.tail _ hq)]
   funext y
   by_cases q:y=p.1
   ·rw [if_pos q,q,e p (.head _)]
   ·rw [if_neg q]
 rw [this];exact F
end
theorem yox {l:List (Addr × Obj)}:OwnOff l []:=λ_ _ _ h=>(nomatch h)
theorem yn3 {l:List (Addr × Obj)} {b:Addr} {bs:List Addr} (h:∀p∈l,p.1≠b) (k:OwnOff l bs):OwnOff l (b::bs):=λp hp x hx=>by
 rcases List.mem_cons.mp hx with rfl|hx
 ·exact h p hp
 ·exact k p hp x hx
theorem ypJ {l l':List (Addr × Obj)} {I:Addr} (a:∀q∈l,q∈l') (b:∀q∈l,q.1≠I):∀q∈l,q∈l'/\q.1≠I:=λq hq=>⟨a q hq,b q hq⟩
theorem yhZ {vs:List Value} {ns:List Int} (h:IntsAre vs ns) {i:Nat} {v:Value} (e:vs[i]? = some v):∃k t,v = .int k t/\ns[i]? = some k:=by
 induction h generalizing i with
 | nil=>simp at e
 | cons x t _ ih=>
  rcases i with _|i
  ·simp at e;exact ⟨_,_,e.symm,rfl⟩
  ·exact ih (by simpa using e)
theorem yey {vs:List Value} {ns:List Int} (h:IntsAre vs ns):vs.length=ns.length:=by
 induction h with
 | nil=>rfl
 | cons x t _ ih=>rw [List.length_cons,List.length_cons,ih]
section
variable {w:World} {mean:ExcName->Option Value} {mg mb:Str->Option Value} {base:Heap} {env:Env} {outer:List Env} {A:Around} {s:Shared} {Q E:Value->Shared->Prop}
end
noncomputable def yjk (vs:Array Value) (a0:Value):Prop:=vs[0]? = some a0/\vs[2]? = some .none
noncomputable def Exc (B h:Heap) (e:Addr) (cls a0:Value) (od:Option Addr):Prop:=
 ∃oe vs,h.get? e=some oe/\oe.cls=cls/\oe.dict=od/\oe.data = .fields vs/\yjk vs a0 /\
  (vs[1]? = some .none∨∃T oT ts fl,vs[1]? = some (.ref T)/\B.get? T=none/\T≠e/\h.get? T=some oT/\oT.data = .fields ts/\ts[3]? = some fl)
structure Aloft (B:Heap) (l:List Env) (e:Addr) (cls a0:Value) (od:Option Addr) (h:Heap):Prop where
 stays:B.StaysIn h
 off:B.get? e=none
 frames:h.FunFrames B l
 exc:Exc B h e cls a0 od
theorem Aloft.tail {B h:Heap} {env:Env} {l:List Env} {e:Addr} {cls a0:Value} {od:Option Addr} (x:Aloft B (env::l) e cls a0 od h):Aloft B l e cls a0 od h:=
 ⟨x.stays,x.off,x.frames.2.2,x.exc⟩
theorem Aloft.there {B h:Heap} {l:List Env} {e:Addr} {cls a0:Value} {od:Option Addr} (x:Aloft B l e cls a0 od h):∃ob,h.get? e=some ob/\ob.cls=cls:=
 let ⟨_,_,_,oe,_,he,hc,_⟩:=x;⟨oe,he,hc⟩
noncomputable def yd3 (h:Heap) (e:Addr):Prop:=∃oe vs T,h.get? e=some oe/\oe.data = .fields vs/\vs[1]? = some (.ref T)
section
variable {M:Model} {A:Around} {E:Value->Shared->Prop} {s:Shared} {B:Heap} {env:Env} {outer l:List Env} {L e:Addr} {cls a0:Value} {od:Option Addr}
theorem yez {oe:Obj} {vs:Array Value} {head:Value} {hadNext:Bool} {Q:Unit->Shared->Prop}
  (hfr:A.frames=some (env::outer)) (hl:s.heap.FunFrames B (env::outer)) (hf:env.frame=some L)
  (he:s.heap.get? e=some oe) (hst:B.StaysIn s.heap) (hen:B.get? e=none) (hd:oe.data = .fields vs) (hsz:1<vs.size) (h0:yjk vs a0)
  (h:∀h',Aloft B (env::outer) e oe.cls a0 oe.dict h'->s.heap.UpToSlots h'->yd3 h' e->Q () {s with heap:=h'}) :
  wpAny M A (do let a <-frameOf env;let pl <-entryPlaceOf L hadNext;let b <-EntryCells.newEntry head a .none (rawInt L) .none pl;setField (.ref e) 1 b) Q E s:=by
 have part:∀b o,s.heap.get? b=some o->(∀vs,o.data≠.fields vs)->b≠e:=λb o hb hn q=>by
  rw [q,he] at hb;cases hb;exact hn vs hd
 have hne:e ∉ (env::outer).filterMap (·.frame):=λhm=>by
  refine yab λGG hGG=>?_
  obtain ⟨_,o,ho,hn⟩:=hl.mem hm
  refine hGG ?_;clear hGG GG
  exact part e o ho hn rfl
 refine wpAny_bind (wpAny_frameOf_fun hfr hl hf λh₁ hs=>?_)
 refine wpAny_bind (wpAny_entryPlaceOf λpl hpl=>?_)
 unfold EntryCells.newEntry newFields
 refine wpAny_bind (wpAny_newObj_type ?_ (hpl.sizeOk5 _ _ _ _ _))
 have e1:h₁.get? e=some oe:=(hs.2.1 e hne).trans he
 have st1:B.StaysIn h₁:=λb o q=>(hs.2.1 b λhm=>by rw [(hl.mem hm).1] at q;cases q).trans (hst b o q)
 generalize hob:({cls:=.type "traceback",dict:=none,data:=.fields ([head,.ref L,.none,rawInt L,.none]++(if pl.isEmpty then List.replicate 6 Value.none else pl)).toArray}:Obj)=ob
 have e2:(h₁.push ob).get? e=some oe:=Heap.get?_push_of_some _ e1
 have hTe:h₁.objs.size≠e:=Nat.ne_of_gt (Heap.lt_size e1)
 have d3:=Obj.data_mapFields hd (·.setIfInBounds 1 (Value.ref h₁.objs.size))
 have e3:=Heap.get?_update_self (Obj.mapFields (·.setIfInBounds 1 (Value.ref h₁.objs.size))) e2 (Obj.isFreed_of_fields d3)
 have keep:∀b o,b≠e->h₁.get? b=some o->((h₁.push ob).update e (Obj.mapFields (·.setIfInBounds 1 (Value.ref h₁.objs.size)))).get? b=some o:=λb o n q=>by
  rw [Heap.get?_update_other _ _ (Ne.symm n)]
  exact Heap.get?_push_of_some _ q
 refine wpAny_setField e2 hd hsz (h _ ?_ ?_ ⟨_,_,h₁.objs.size,e3,d3,by simp [hsz]⟩)
 ·refine ⟨λb o q=>keep b o (λz=>by rw [z,hen] at q;cases q) (st1 b o q),hen,hl.of_keeps λb o q n=>?_,_,_,e3,Obj.cls_mapFields _ _,?_,d3,?_,.inr ⟨h₁.objs.size,ob,_,_,by simp [hsz],st1.fresh,hTe,?_,(by rw [<-hob]),(by first|rfl|(simp;done)|(rcases hpl with rfl|⟨_,_,_,_,_,_,_,rfl⟩<;>simp))⟩⟩
  ·obtain ⟨sl,hq⟩:=hs.2.2 b o q
   exact ⟨_,keep b _ (part b o q n) hq,rfl⟩
  ·unfold Obj.mapFields;split<;>rfl
  ·exact ⟨by rw [Array.getElem?_setIfInBounds_ne (by decide)];exact h0.1,by rw [Array.getElem?_setIfInBounds_ne (by decide)];exact h0.2⟩
  ·rw [Heap.get?_update_other _ _ (Ne.symm hTe)]
   exact Heap.get?_push_size h₁ (by rw [<-hob];rfl)
 ·intro b o q n
  obtain ⟨sl,hq⟩:=hs.2.2 b o q
  exact ⟨sl,keep b _ (part b o q n) hq⟩
theorem ycn {Q:Unit->Shared->Prop} (hfr:A.frames=some (env::outer)) (hf:env.frame=some L) (x:Aloft B (env::outer) e cls a0 od s.heap)
  (h:∀h',Aloft B (env::outer) e cls a0 od h'->s.heap.UpToSlots h'->yd3 h' e->Q () {s with heap:=h'}):wpAny M A (noteFrame (.ref e) env) Q E s:=by
 refine yab λGG hGG=>?_
 obtain ⟨x1,x2,x3,oe,vs,he,rfl,rfl,hd,h0,h1⟩:=id x
 refine hGG ?_;clear hGG GG
 unfold noteFrame
 simp only [hf]
 rcases h1 with h1|⟨T,oT,ts,fl,h1,hnT,hTe,hT,hdT,h3⟩
 ·refine wpAny_bind (wpAny_field he hd h1 ?_)
  rw [if_neg (by decide)]
  exact yez hfr x3 hf he x1 x2 hd (Array.getElem?_eq_some_iff.mp h1).1 h0 h
 ·refine wpAny_bind (wpAny_field he hd h1 ?_)
  rw [if_pos (show (Value.ref T != Value.none)=true from by simp)]
  refine wpAny_bind (wpAny_field hT hdT h3 ?_)
  by_cases q:(fl==rawInt L)=true
  ·rw [if_pos q]
   exact wpAny_pure (h _ x (.refl _) ⟨oe,vs,T,he,hd,h1⟩)
  ·rw [if_neg q]
   refine wpAny_bind (wpAny_setField hT hdT (Array.getElem?_eq_some_iff.mp h3).1 ?_)
   have other:∀b,b≠T->(s.heap.update T (Obj.mapFields (·.setIfInBounds 3 Value.none))).get? b=s.heap.get? b:=λb hb=>Heap.get?_update_other _ _ (Ne.symm hb)
   have part:∀b o,s.heap.get? b=some o->(∀vs,o.data≠.fields vs)->b≠T:=λb o hb hn q=>by
    rw [q,hT] at hb;cases hb;exact hn ts hdT
   refine yez hfr (x3.of_keeps λb o hb hn=>⟨o,(other b (part b o hb hn)).trans hb,rfl⟩) hf ((other e (Ne.symm hTe)).trans he)
    (λb o hb=>(other b λq=>by rw [q,hnT] at hb;cases hb).trans (x1 b o hb)) x2 hd (Array.getElem?_eq_some_iff.mp h1).1 h0
    λh' y z tb=>h h' y (λb o hb hn=>z b o ((other b (part b o hb hn)).trans hb) hn) tb
theorem ybu {Q:Unit->Shared->Prop} (x:Aloft B l e cls a0 od s.heap) (h:∀h',Aloft B l e cls a0 od h'->s.heap.UpToSlots h'->(yd3 s.heap e->yd3 h' e)->Q () {s with heap:=h'}) :
  wpAny M A (setFlight (.ref e) none) Q E s:=by
 refine yab λGG hGG=>?_
 obtain ⟨x1,x2,x3,oe,vs,he,rfl,rfl,hd,h0,h1⟩:=id x
 refine hGG ?_;clear hGG GG
 unfold setFlight
 rcases h1 with h1|⟨T,oT,ts,fl,h1,hnT,hTe,hT,hdT,h3⟩
 ·refine wpAny_bind (wpAny_field he hd h1 ?_)
  rw [if_neg (by decide)]
  exact wpAny_pure (h _ x (.refl _) id)
 ·refine wpAny_bind (wpAny_field he hd h1 ?_)
  rw [if_pos (show (Value.ref T != Value.none)=true from by simp)]
  have hsz:3<ts.size:=(Array.getElem?_eq_some_iff.mp h3).1
  have other:∀b,b≠T->(s.heap.update T (Obj.mapFields (·.setIfInBounds 3 ((none:Option Addr).elim Value.none λf=>rawInt f)))).get? b=s.heap.get? b:=λb hb=>Heap.get?_update_other _ _ (Ne.symm hb)
  have part:∀b o,s.heap.get? b=some o->(∀vs,o.data≠.fields vs)->b≠T:=λb o hb hn q=>by
   rw [q,hT] at hb;cases hb;exact hn ts hdT
  refine wpAny_setField hT hdT hsz (h _ ⟨λb o hb=>(other b λq=>by rw [q,hnT] at hb;cases hb).trans (x1 b o hb),x2,x3.of_keeps λb o hb hn=>⟨o,(other b (part b o hb hn)).trans hb,rfl⟩,
   oe,vs,(other e (Ne.symm hTe)).trans he,rfl,rfl,hd,h0,.inr ⟨T,_,_,_,h1,hnT,hTe,Heap.get?_update_self _ hT (Obj.isFreed_of_fields (Obj.data_mapFields hdT _)),Obj.data_mapFields hdT _,by simp [hsz];rfl⟩⟩
   (λb o hb hn=>⟨o.slots,(other b (part b o hb hn)).trans hb⟩) λ_=>⟨oe,vs,T,(other e (Ne.symm hTe)).trans he,hd,h1⟩)
theorem yh0 {Q:Unit->Shared->Prop} (hfr:A.frames=some (env::outer)) (hf:env.frame=some L) (x:Aloft B (env::outer) e cls a0 od s.heap)
  (h:∀h',Aloft B outer e cls a0 od h'->s.heap.UpToSlots h'->Q () {s with heap:=h'}):wpAny M A (leaving env (.ref e)) Q E s:=by
 unfold leaving
 refine wpAny_bind (ycn hfr hf x λh₁ y z _=>?_)
 exact ybu y.tail λh₂ y₂ z₂ _=>h h₂ y₂ (z.trans z₂)
end
noncomputable def HOk (hdl:Option Value) (h:Heap):Prop:=hdl=none∨∃e oe vs,hdl=some (.ref e)/\h.get? e=some oe/\oe.data = .fields vs/\vs[2]? = some .none
theorem HOk.mono {hdl:Option Value} {h h':Heap} (H:HOk hdl h) (k:∀b o,h.get? b=some o->h'.get? b=some o):HOk hdl h':=by
 rcases H with H|⟨e,oe,vs,a,b,c,d⟩
 ·exact .inl H
 ·exact .inr ⟨e,oe,vs,a,k _ _ b,c,d⟩
theorem yc5:entryFor table "proto.unchain" = some Builtin.«proto.unchain»:=entryFor_of_fast (by kernel_rfl)
section
variable {prog:Program} {w:World} {A:Around} {E:Value->Shared->Prop} {s:Shared} {ty:String}
theorem ye8 {α:Type} {Q:α->Shared->Prop} {x:Addr} {ox:Obj} {vx:Array Value} (H:HOk A.handled s.heap) (hx:s.heap.get? x=some ox) (hd:ox.data = .fields vx) (h2:vx[2]? = some .none)
  (hn:∀e,A.handled=some (.ref e)->e≠x)
  (h:∀h',Heap.ExtBut x s.heap h'->Shared.TypeIs {s with heap:=h'} (.ref x) ty->E (.ref x) {s with heap:=h'}) (hc:ox.cls = .type ty) :
  wpAny (model prog w) A (raiseNew (.ref x):Sem α) Q E s:=by
 unfold raiseNew
 refine wpAny_bind (wpAny_handled ?_)
 rcases H with H|⟨e,oe,vs,H,he,hde,hc2⟩
 ·rw [H]
  exact wpAny_bind (wpAny_pure (wpAny_throw (h s.heap (λ_ _ _ e=>e) ⟨ox,hx,hc⟩)))
 ·rw [H]
  dsimp only
  have hne:=hn e H
  rw [if_pos (by simpa using hne)]
  refine wpAny_bind (wpAny_holding (wpAny_runValue (codeAny_builtin yc5 ?_)))
  show wpAny _ _ (field (.ref e) 2 >>= _) _ _ s
  refine wpAny_bind (wpAny_field he hde hc2 ?_)
  rw [if_pos (by rfl)]
  have hsz:2<vx.size:=(Array.getElem?_eq_some_iff.mp h2).1
  repeat wp_step
  rw [hd]
  dsimp only
  rw [if_pos hsz]
  refine wpAny_update hx (wpAny_throw (h _ (Heap.SameBut.update ..).extBut ⟨_,Heap.get?_update_self _ hx (Obj.isFreed_of_fields (Obj.data_mapFields hd _)),(Obj.cls_mapFields ..).trans hc⟩))
theorem ydC {α:Type} {Q:α->Shared->Prop} (H:HOk A.handled s.heap)
  (h:∀h' x,(∀b o,s.heap.get? b=some o->h'.get? b=some o)->Shared.TypeIs {s with heap:=h'} (.ref x) "StopIteration"->E (.ref x) {s with heap:=h'}) :
  wpAny (model prog w) A (newExc (.type "StopIteration") [] >>= λe=>(raiseNew e:Sem α)) Q E s:=by
 refine wpAny_bind ?_
 simp only [newExc,newTuple]
 refine wpAny_bind (wpAny_newObj_type ?_ (by size_fits))
 refine wpAny_bind (m:=firstArgMember _ _) (wpAny_of_eq (a:=Value.none) (by first|rfl|(simp only [firstArgMember];rfl)) ?_)
 refine wpAny_newObj_type ?_ (by size_fits)
 generalize ownMembersOf (Value.type "StopIteration") []=mem
 have k:∀(o1 o2:Obj) b o,s.heap.get? b=some o->((s.heap.push o1).push o2).get? b=some o:=λo1 o2 b o q=>Heap.get?_push_of_some _ (Heap.get?_push_of_some _ q)
 have ol0:Obj:={cls:=.type "tuple",data:=.seq #[]}
 have nl:∀(o1 o2:Obj) b o,s.heap.get? b=some o->b≠(s.heap.push o1).objs.size:=λo1 o2 b o q=>Nat.ne_of_lt (Heap.lt_size (Heap.get?_push_of_some _ q))
 refine ye8 (ty:="StopIteration") (H.mono (k _ _)) (Heap.get?_push_size _ rfl) rfl (by rw [Array.getElem?_append_left (by simp)];rfl) (λe q=>?_) (λh' x t=>h h' _ (λb o q=>x b o (nl _ ol0 b o q) (k _ _ b o q)) t) rfl
 refine yab λGG hGG=>?_
 rcases H with H|⟨e',oe,vs,H,he,_⟩
 ·rw [H] at q;cases q
 ·rw [H] at q;cases q
  refine hGG ?_;clear hGG GG
  exact nl _ ol0 _ _ he
theorem yjY {α:Type} {Q:α->Shared->Prop} (H:HOk A.handled s.heap)
  (h:∀h' x,(∀b o,s.heap.get? b=some o->h'.get? b=some o)->Shared.TypeIs {s with heap:=h'} (.ref x) "StopIteration"->E (.ref x) {s with heap:=h'}) :
  wpAny (model prog w) A (Builtin.SmallTypes.stopIteration:Sem α) Q E s:=ydC H h
theorem HOk.but {hdl:Option Value} {it:Addr} {h h':Heap} (H:HOk hdl h) (hne:∀e,hdl=some (.ref e)->e≠it) (k:Heap.ExtBut it h h'):HOk hdl h':=by
 rcases H with H|⟨e,oe,vs,a,b,c,d⟩
 ·exact .inl H
 ·exact .inr ⟨e,oe,vs,a,k _ _ (hne e a) b,c,d⟩
theorem ycH {it t:Addr} {i:Nat} {items:Array Value} {Q:Option Value->Shared->Prop} (H:HOk A.handled s.heap) (hne:∀e,A.handled=some (.ref e)->e≠it)
  (hit:s.heap.IsTupleIter it t i) (ht:s.heap.IsTuple t items) (hx:items[i]? = none) (hQ:∀h',Heap.ExtBut it s.heap h'->Q none {s with heap:=h'}):wpAny (model prog w) A (pyNext (.ref it)) Q E s:=by
 refine yab λGG hGG=>?_
 obtain ⟨o,ho,hc,hd⟩:=id hit
 obtain ⟨ol,hol,_,nl,hdl⟩:=ht
 refine hGG ?_;clear hGG GG
 unfold pyNext
 refine wpAny_bind (wpAny_attempt (wpAny_callSpecial?_slot (name:=Str.ofString "__next__") hit.typeIs F.slot_tuple_iterator_next (wpAny_call_entry F.slot_tuple_iterator_next hit.typeIs F.entry_tuple_iterator_next ?_ (F.args_tuple_iterator_next_1 _))))
 unfold Builtin.«tuple_iterator.__next__»
 repeat (first|(with_reducible refine wpAny_field ho hd (x:=.ref t) rfl ?_)|(with_reducible refine wpAny_field ho hd (x:=.int i 0) rfl ?_)|(with_reducible refine wpAny_seqItems hol hdl ?_)|wp_step)
 simp only [Int.toNat_natCast,hx]
 repeat (first|(with_reducible refine wpAny_setField ho hd (by simp) ?_)|(with_reducible refine yjY (A:=A.in1) (H.but hne (Heap.SameBut.update ..).extBut) λh' x k T=>?_)|(with_reducible refine wpAny_isInstance (T:="StopIteration") (b:=true) T isSubtype_stop ?_)|wp_step)
 exact hQ _ λb o n q=>k b o ((Heap.SameBut.update ..).extBut b o n q)
theorem ycI {it:Addr} {x:Str} {t:Tok} {i:Nat} {Q:Option Value->Shared->Prop} (H:HOk A.handled s.heap) (hne:∀e,A.handled=some (.ref e)->e≠it)
  (hit:s.heap.IsStrIter it "str_ascii_iterator" x t i) (hx:x.cps[i]? = none) (hQ:∀h',Heap.ExtBut it s.heap h'->Q none {s with heap:=h'}):wpAny (model prog w) A (pyNext (.ref it)) Q E s:=by
 refine yab λGG hGG=>?_
 obtain ⟨o,ho,hc,hd⟩:=id hit
 refine hGG ?_;clear hGG GG
 unfold pyNext
 refine wpAny_bind (wpAny_attempt (wpAny_callSpecial?_slot (name:=Str.ofString "__next__") hit.typeIs F.slot_str_ascii_iterator_next (wpAny_call_entry F.slot_str_ascii_iterator_next hit.typeIs F.entry_str_ascii_iterator_next ?_ (F.args_str_ascii_iterator_next_1 _))))
 unfold Builtin.«str_ascii_iterator.__next__»
 repeat (first|(with_reducible refine wpAny_field ho hd (x:=.str x t) rfl ?_)|(with_reducible refine wpAny_field ho hd (x:=.int i 0) rfl ?_)|wp_step)
 simp only [Int.toNat_natCast,hx]
 repeat (first|(with_reducible refine wpAny_setField ho hd (by simp) ?_)|(with_reducible refine ydC (A:=A.in1) (H.but hne (Heap.SameBut.update ..).extBut) λh' x k T=>?_)|(with_reducible refine wpAny_isInstance (T:="StopIteration") (b:=true) T isSubtype_stop ?_)|wp_step)
 exact hQ _ λb o n q=>k b o ((Heap.SameBut.update ..).extBut b o n q)
end
namespace SF
theorem own_exc_init:classOwn (.type "Exception") "__init__" = pure (some (.builtin "Exception.__init__")):=by
 show (pure (builtinOwn "Exception" "__init__"):Sem (Option Value))=_
 rw [builtinOwn_eq_fast];kernel_rfl
theorem type_exc_init:typeOf (.builtin "Exception.__init__")=pure (.type "wrapper_descriptor"):=by show builtinType _=_;rw [builtinType_eq_fast];kernel_rfl
theorem slot_wd_get:Slot "wrapper_descriptor" "__get__" "wrapper_descriptor.__get__":=.of (owner:="wrapper_descriptor") (n:="__get__") (by rw [typeLookup_type,builtinLookup_eq_fast];kernel_rfl) (by decide +kernel) (by decide +kernel) (by decide +kernel)
 (by first|exact .inl (by decide +kernel)|exact .inr (by decide +kernel)) (by rw [isSubtype_type];kernel_rfl)
theorem entry_wd_get:entryFor table "wrapper_descriptor.__get__" = some Builtin.«wrapper_descriptor.__get__»:=entryFor_of_tree (by kernel_rfl)
theorem args_wd_get (a b c:Value):argsOk "wrapper_descriptor.__get__" ⟨[a,b,c],[]⟩:=by unfold argsOk;kernel_rfl
end SF
section
section
variable {prog:Program} {w:World} {M:Model} {A:Around} {E:Value->Shared->Prop} {h:Heap} {g:Array GenState} {d:Drawn} {t:Nat} {os:OsState}
theorem ylX {x C:Addr} {ox:Obj} {Q:Fin->Shared->Prop} (hx:h.get? x=some ox) (hxc:ox.cls = .ref C) (hsub:Looks (model prog w) h (isSubtype (.ref C) (.type "Exception")) true)
  (hq:Q (.done (.ret (.ref h.objs.size))) ⟨h.push {cls:=.type "method-wrapper",data:=.fields #[.builtin "Exception.__init__",.ref x]},g,d,t,os⟩) :
  wpAny (model prog w) A (Builtin.«wrapper_descriptor.__get__» ⟨[.builtin "Exception.__init__",.ref x,.ref C],[]⟩) Q E ⟨h,g,d,t,os⟩:=by
 unfold Builtin.«wrapper_descriptor.__get__»
 repeat (first|(simp only [show ".".intercalate ("Exception.__init__".cutAt '.').dropLast = "Exception" by decide +kernel];with_reducible refine Looks.at hsub ?_)|(with_reducible refine wpAny_loadPart_at hx ?_;rw [hxc])|wp_step|dsimp only)
 all_goals exact hq
theorem yh1 {so D x C:Addr} {ox:Obj} {l₀ l:List Value} {tk:Tok} {Q:Fin->Shared->Prop}
  (hso:h.get? so=some {cls:=.type "super",dict:=none,data:=.fields #[.ref D,.ref x,.ref C],slots:=#[]}) (hno:Looks (model prog w) h (opaqueClassAbove (.ref C)) none)
  (hC:Looks (model prog w) h (mroOf (.ref C)) l₀) (hl:(l₀.dropWhile (· != .ref D)).drop 1 = .type "Exception"::l)
  (hx:h.get? x=some ox) (hxc:ox.cls = .ref C) (hsub:Looks (model prog w) h (isSubtype (.ref C) (.type "Exception")) true) (hxC:x≠C)
  (hq:Q (.done (.ret (.ref h.objs.size))) ⟨h.push {cls:=.type "method-wrapper",data:=.fields #[.builtin "Exception.__init__",.ref x]},g,d,t,os⟩) :
  wpAny (model prog w) A (Builtin.«super.__getattribute__» ⟨[.ref so,.str "__init__" tk],[]⟩) Q E ⟨h,g,d,t,os⟩:=by
 have hlk:=SF.slot_wd_get.lookup
 have hne:(Value.ref x==Value.ref C)=false:=by simp [hxC]
 have hTf:(⟨h,g,d,t,os⟩:Shared).TypeIs (.builtin "Exception.__init__") "wrapper_descriptor":=SF.type_exc_init
 have hdt:({cls:=.type "super",dict:=none,data:=.fields #[.ref D,.ref x,.ref C],slots:=#[]}:Obj).data = .fields #[.ref D,.ref x,.ref C]:=rfl
 have f0:(#[.ref D,.ref x,.ref C]:Array Value)[0]? = some (.ref D):=rfl
 have f1:(#[.ref D,.ref x,.ref C]:Array Value)[1]? = some (.ref x):=rfl
 have f2:(#[.ref D,.ref x,.ref C]:Array Value)[2]? = some (.ref C):=rfl
 unfold Builtin.«super.__getattribute__»
 repeat (first
  | (with_reducible refine wpAny_field hso hdt f0 ?_)|(with_reducible refine wpAny_field hso hdt f1 ?_)|(with_reducible refine wpAny_field hso hdt f2 ?_)
  | (with_reducible refine ks_wpAny_notOpaque hno ?_)
  | (with_reducible refine Looks.at hC ?_;rw [hl])
  | (rw [List.forIn_cons])
  | (with_reducible refine wpAny_of_eq SF.own_exc_init ?_)
  | (with_reducible refine wpAny_of_eq SF.type_exc_init ?_)
  | (with_reducible refine wpAny_of_eq hlk ?_)
  | (with_reducible refine wpAny_call_entry SF.slot_wd_get hTf SF.entry_wd_get ?_ (SF.args_wd_get _ _ _))
  | (with_reducible refine ylX hx hxc hsub ?_)
  | (with_reducible refine ⟨_,rfl,?_⟩)
  | (simp only [hne,Bool.or_false,Bool.false_eq_true,if_false])
  | wp_step
  | dsimp only)
 all_goals exact hq
theorem ye9 {so D x C:Addr} {ox:Obj} {l₀ l:List Value} {pl:Sem Bool} {Q:Value × List Value->Shared->Prop}
  (hso:h.get? so=some {cls:=.type "super",dict:=none,data:=.fields #[.ref D,.ref x,.ref C],slots:=#[]}) (hno:Looks (model prog w) h (opaqueClassAbove (.ref C)) none)
  (hC:Looks (model prog w) h (mroOf (.ref C)) l₀) (hl:(l₀.dropWhile (· != .ref D)).drop 1 = .type "Exception"::l)
  (hx:h.get? x=some ox) (hxc:ox.cls = .ref C) (hsub:Looks (model prog w) h (isSubtype (.ref C) (.type "Exception")) true) (hxC:x≠C)
  (hq:Q (.ref h.objs.size,[]) ⟨h.push {cls:=.type "method-wrapper",data:=.fields #[.builtin "Exception.__init__",.ref x]},g,d,t+1,os⟩) :
  wpAny (model prog w) A (getMethod (.ref so) "__init__" pl) Q E ⟨h,g,d,t,os⟩:=by
 have hlk:=F.ks_slot_super_ga.lookup
 have hcan:=F.ks_canon_super_ga
 have hT:∀t',(⟨h,g,d,t',os⟩:Shared).TypeIs (.ref so) "super":=λ_=>⟨_,hso,rfl⟩
 unfold getMethod
 refine wpAny_bind (wpAny_specialOf (hT _) hlk ?_)
 show wpAny _ _ (if (Manifest.canonical "super.__getattribute__" != "object.__getattribute__")=true then _ else _) _ _ _
 rw [if_pos hcan]
 unfold getAttr getAttrBy
 refine wpAny_bind (wpAny_bind (wpAny_mkText (wpAny_holding (wpAny_bind (wpAny_typeOf (hT _) (wpAny_bind (wpAny_of_eq hlk ?_)))))))
 show wpAny _ _ (getAttrByItsOwn (.ref so) (.str "__init__" t) (.type "super") (.builtin "super.__getattribute__") true false) _ _ _
 unfold getAttrByItsOwn hookBefore callGetattribute boundAndCalled
 refine wpAny_bind (wpAny_of_eq (show (if onTheHeap (.type "super") then typeLookup (.type "super") "__getattr__" else pure none)=pure none from rfl) ?_)
 refine wpAny_bind (wpAny_attempt (wpAny_holding ?_))
 show wpAny _ _ (bindSpecial (.builtin "super.__getattribute__") (.ref so) >>= _) _ _ _
 refine wpAny_bind (wpAny_of_eq (F.ks_slot_super_ga.bind _) ?_)
 refine wpAny_mono (Q:=λv s'=>v = .ref h.objs.size/\s'=⟨h.push {cls:=.type "method-wrapper",data:=.fields #[.builtin "Exception.__init__",.ref x]},g,d,t+1,os⟩) (E:=λ_ _=>False)
  (wpAny_call_entry F.ks_slot_super_ga (hT _) F.ks_entry_super_ga (yh1 hso hno hC hl hx hxc hsub hxC ⟨_,rfl,rfl,rfl⟩) (F.ks_gaArgs_super _ _)) (λv s' hv=>?_) λ_ _ z=>z.elim
 refine yab λGG hGG=>?_
 obtain ⟨rfl,rfl⟩:=hv
 refine hGG ?_;clear hGG GG
 exact wpAny_pure (wpAny_pure hq)
theorem yjZ {mw e C:Addr} {oC:Obj} {cd:ClassData} {oe:Obj} {vs:Array Value} {rest:List Value} {Q:Value->Shared->Prop}
  (hm:h.get? mw=some {cls:=.type "method-wrapper",dict:=none,data:=.fields #[.builtin "Exception.__init__",.ref e],slots:=#[]}) (he:h.get? e=some oe) (hd:oe.data = .fields vs) {t0:Addr} {o0:Obj} (h0:vs[0]? = some (.ref t0)) (ht0:h.get? t0=some o0) (hec:oe.cls = .ref C) (hC:h.get? C=some oC) (hCd:oC.data = .cls cd)
  (hq:∀h',h'.get? h.objs.size=some {cls:=.type "tuple",data:=.seq rest.toArray}->h'.get? e=some (Obj.mapFields (·.setIfInBounds 0 (.ref h.objs.size)) oe)->(∀b o,b≠e->h.get? b=some o->h'.get? b=some o)->Q .none ⟨h',g,d,t,os⟩) (hrest:rest.length<=sizeLine) :
  wpAny (model prog w) A (call (.ref mw) rest) Q E ⟨h,g,d,t,os⟩:=by
 refine wpAny_call (codeAny_of_tree ?_)
 show wpAny _ _ (callAny (.ref mw) _) _ _ _
 unfold callAny
 refine wpAny_bind (wpAny_load hm ?_)
 dsimp only
 repeat wp_step
 rw [hec]
 unfold classData
 repeat (first|(with_reducible refine wpAny_load hC ?_;rw [hCd])|(with_reducible refine wpAny_loadPart_at hC ?_;rw [hCd])|wp_step)
 refine wpAny_onRaise ?_
 refine wpAny_of_eq (check_star_args _ _ _ _ _ _) ?_
 refine wpAny_pure ⟨Code.quiet_builtin _ (by decide +kernel),codeAny_builtin F.excBase_Exception.initEntry ?_⟩
 unfold Builtin.«BaseException.__init__» Builtin.BaseException.bexcPut newTuple
 have he1:=Heap.get?_push_of_some {cls:=.type "tuple",data:=.seq rest.toArray} he
 have hsz:0<vs.size:=(Array.getElem?_eq_some_iff.mp h0).1
 simp only [List.getElem_toArray,List.getElem_cons_succ,List.getElem_cons_zero]
 repeat (first|(with_reducible refine wpAny_newObj_type ?_ ?_)|(with_reducible refine wpAny_field he1 hd h0 ?_)|(with_reducible refine wpAny_setField he1 hd hsz ?_)|wp_step)
 ·refine hq _ ?_ ?_ λb o hb hbo=>?_
  ·rw [Heap.get?_update_other _ _ (Nat.ne_of_lt (Heap.lt_size he))]
   exact Heap.get?_push_size _ rfl
  ·exact Heap.get?_update_self _ he1 (Obj.isFreed_of_fields (Obj.data_mapFields hd _))
  ·rw [Heap.get?_update_other _ _ (Ne.symm hb)]
   exact Heap.get?_push_of_some _ hbo
 ·simpa [sizeOk] using hrest
end
end
section
variable {M:Model} {A:Around} {E:Value->Shared->Prop} {env:Env}
variable {nm q:Str} {C N:Addr} {bs bm:List Value} {hdct:Bool} {sn:List Str} {sub:List Value} {ab:Bool} {col:Option Bool} {dd:Option Addr} {k0 k1 k2 k3 k5:Option Value} {newId:String}
theorem yfa {e:Addr} {α:Type} {Q:α->Shared->Prop} {s:Shared} (hh:A.handled=none∨A.handled=some (.ref e)) (h:E (.ref e) s):wpAny M A (raiseNew (.ref e):Sem α) Q E s:=by
 unfold raiseNew
 refine wpAny_bind (wpAny_handled ?_)
 rcases hh with hh|hh
 ·rw [hh]
  first|exact wpAny_throw h|exact wpAny_bind (wpAny_pure (wpAny_throw h))
 ·rw [hh]
  dsimp only
  rw [if_neg (by simp)]
  first|exact wpAny_throw h|exact wpAny_bind (wpAny_pure (wpAny_throw h))
theorem yfV {s:Shared} {x:Sem Value} {Q:Flow->Shared->Prop} (hbase:bm.contains (.type "BaseException")=true)
  (h:wpAny M A x (λv s₁=>∃e B l a0 od,v = .ref e/\(A.handled=none∨A.handled=some (.ref e))/\s₁.heap.get? C=some (excClassObj nm q C N bs bm hdct sn sub ab col dd k0 k1 k2 k3 k5 newId) /\
   Aloft B l e (.ref C) a0 od s₁.heap/\∀h',Aloft B l e (.ref C) a0 od h'->s₁.heap.UpToSlots h'->E (.ref e) {s₁ with heap:=h'}) E s) :
  wpAny M A (raiseStmt env (some x) none) Q E s:=by
 have hcB:(Value.ref C::bm).contains (.type "BaseException")=true:=by rw [List.contains_cons,hbase,Bool.or_true]
 unfold raiseStmt
 refine wpAny_bind (wpAny_mono h (λv s₁ h₁=>?_) λ_ _ x=>x)
 refine yab λGG hGG=>?_
 obtain ⟨e,B,l,a0,od,rfl,hh,hC,y,hE⟩:=h₁
 obtain ⟨hp,g,d,tk,os⟩:=s₁
 obtain ⟨_,_,_,oe,vs,he,hcls,hod,hd,h0,h1⟩:=id y
 have hnc:∀c,oe.data≠.cls c:=λc q=>by rw [hd] at q;cases q
 refine hGG ?_;clear hGG GG
 repeat (first|(with_reducible refine wpAny_bind (ybu y λh' y' z' _=>?_))|(with_reducible refine yfa hh ?_)|(with_reducible refine ks_wpAny_isType_inst he hnc ?_)|(with_reducible refine wpAny_loadPart_at he ?_;rw [hcls])|with_reducible refine wpAny_loadPart_at hC ?_|(with_reducible refine wpAny_isSubtype_exc hC ?_;rw [hcB])|wp_step)
 all_goals exact hE _ y' z'
end
structure RaisedX (base G:Heap) (l:List Env) (e:Addr) (cls a0:Value) (od:Option Addr) (rest:List (Addr × Obj)) (h:Heap):Prop where
 all:∃B,base.StaysIn B/\(∀b o,G.get? b=some o->b ∉ frs l->B.get? b=some o)/\(∀q∈rest,B.get? q.1=some q.2/\G.get? q.1=none/\base.get? q.1=none)/\Aloft B l e cls a0 od h
 up:G.UpToSlots h
section
variable {M:Model} {A₀:Around} {E:Value->Shared->Prop} {s:Shared} {base g G h:Heap} {outer:List Env} {L a e:Addr} {m:Str->Option Value} {name:Str} {scope:Scope} {cd:Value} {Q:Unit->Shared->Prop} {news rest:List (Addr × Obj)} {cls a0:Value} {od:Option Addr}
theorem yfW {t:Addr} {sl:Array (Option Value)} (K:Below A₀ base outer g) (F:Fr g L h m) (N:News g L h news) (D:Del e ⟨cls,od,.fields #[.ref t,.none,.none,.none,.bool false,.none],sl⟩ news rest) (hk:scope.kind = .function) :
  RaisedX base g (envOf name scope L a cd::outer) e cls (.ref t) od rest h:=by
 have K':=K.push (name:=name) (a:=a) (cd:=cd) F hk
 obtain ⟨n1,n2,n3⟩:=N _ D.mem
 have fs:∀b,b∈frs (envOf name scope L a cd::outer)->base.get? b=none/\∃o,h.get? b=some o/\∀vs,o.data≠.fields vs:=λb hb=>K'.frames.mem hb
 have hin:∀env∈(envOf name scope L a cd::outer),∀b,env.frame=some b->b∈e::frs (envOf name scope L a cd::outer):=λenv he b hb=>.tail _ (List.mem_filterMap.mpr ⟨env,he,hb⟩)
 have nb:base.get? e=none:=fresh_of_stays K.stays n3
 have at_:∀b o,h.get? b=some o->b≠e->b ∉ frs (envOf name scope L a cd::outer)->(hideAll h (e::frs (envOf name scope L a cd::outer))).get? b=some o:=λb o q n1 n2=>hideAll_get _ q λhm=>(List.mem_cons.mp hm).elim n1 n2
 refine ⟨⟨hideAll h (e::frs (envOf name scope L a cd::outer)),λb o q=>?_,λb o q nm=>?_,λq hq=>?_,λb o q=>of_hideAll _ q,hideAll_none _ (.head _),funFrames_hide K'.frames hin,_,_,n1,rfl,rfl,rfl,⟨rfl,rfl⟩,.inl rfl⟩,Heap.UpToSlots.of_keeps F.keep⟩
 ·exact at_ b o (K'.stays b o q) (λz=>by rw [z,nb] at q;cases q) λhm=>by rw [(fs b hm).1] at q;cases q
 ·exact at_ b o (F.keep b o q) (λz=>by rw [z,n3] at q;cases q) nm
 ·have hs:=D.sub q hq
  obtain ⟨m1,m2,m3⟩:=N q hs.1
  refine ⟨at_ _ _ m1 hs.2 λhm=>?_,m3,fresh_of_stays K.stays m3⟩
  refine yab λGG hGG=>?_
  rcases kts_mem hm with z|z
  ·refine hGG ?_;clear hGG GG
   exact m2 z
  ·obtain ⟨_,o,ho,_⟩:=K.frames.mem z
   rw [m3] at ho;cases ho
theorem ya7 (K:Below A₀ base outer g) (R:RaisedX base g (envOf name scope L a cd::outer) e cls a0 od rest s.heap) (hL:g.get? L=none)
  (hQ:∀h',RaisedX base g outer e cls a0 od rest h'->Q () {s with heap:=h'}):wpAny M (A₀.deeper (envOf name scope L a cd)) (leaving (envOf name scope L a cd) (.ref e)) Q E s:=by
 refine yab λGG hGG=>?_
 obtain ⟨⟨B,b1,b2,b3,b4⟩,up⟩:=R
 refine hGG ?_;clear hGG GG
 refine yh0 (Around.frames_deeper K.stack) rfl b4 λh' x u=>hQ h' ⟨⟨B,b1,λb o q nm=>b2 b o q λhm=>?_,b3,x⟩,up.trans u⟩
 rcases kts_mem hm with z|z
 ·rw [z,hL] at q;cases q
 ·exact nm z
theorem ycP (F:Fr g L G m) (R:RaisedX base G (envOf name scope L a cd::outer) e cls a0 od rest h):RaisedX base g (envOf name scope L a cd::outer) e cls a0 od rest h:=by
 refine yab λGG hGG=>?_
 obtain ⟨⟨B,b1,b2,b3,b4⟩,up⟩:=R
 refine hGG ?_;clear hGG GG
 exact ⟨⟨B,b1,λb o q nm=>b2 b o (F.keep b o q) nm,λq hq=>⟨(b3 q hq).1,kts_none F.keep (b3 q hq).2.1,(b3 q hq).2.2⟩,b4⟩,(Heap.UpToSlots.of_keeps F.keep).trans up⟩
end
section
variable {prog:Program} {w:World} {A₀:Around} {E:Value->Shared->Prop} {s':Shared} {base g G:Heap} {outer:List Env} {L a e C:Addr} {m:Str->Option Value} {name:Str} {scope:Scope} {cd a0:Value} {od:Option Addr}
 {n:Str} {b₀:Stmt} {suite:List Stmt} {pos np:Pos} {more:List ExceptHandler} {Q:Flow->Shared->Prop} {rest:List (Addr × Obj)} {KF:Frag}
 {p:Program} {loose:List Str} {mean:ExcName->Option Value} {mg mb:Str->Option Value} {x:Str}
theorem yfX (R:RaisedX base G (envOf name scope L a cd::outer) e (.ref C) a0 od rest s'.heap) (F:Fr g L G m) (K:Below A₀ base outer g) (XB:KF.In base) (TB:Top p loose mean mg mb base)
  (ex:nsIn KF mainGlobals x=some (some (.ref C))) (q:ktsIn KF C "BaseException" = true)
  (k:∀h' g' oe T oT vs ts fl tk,KtsTurn (frs outer) g g'->Fr g' L h' (λy=>if y=n then some (.ref e) else m y)->News g' L h' ((e,oe)::(T,oT)::rest)->e≠T->(∀q∈rest,q.1≠e)->(∀q∈rest,q.1≠T) ->
   oe.cls = .ref C->oe.dict=od->oe.data = .fields vs->yjk vs a0->vs[1]? = some (.ref T)->oT.data = .fields ts->ts[3]? = some fl->Below A₀ base outer g'->KF.In g'->Top p loose mean mg mb g' ->
   wpAny (model prog w) ((A₀.deeper (envOf name scope L a cd)).mark (some (.ref e))) (execs (b₀::suite) (envOf name scope L a cd))
    (λf s₄=>wpAny (model prog w) (A₀.deeper (envOf name scope L a cd)) (do bindName (envOf name scope L a cd) n .none;unbindBehindTheSuite (envOf name scope L a cd) n pos) (λ_ s₅=>Q f s₅) E s₄)
    (AsSuiteRaised (model prog w) ((A₀.deeper (envOf name scope L a cd)).mark (some (.ref e))) (envOf name scope L a cd) n pos (notedBy (model prog w) ((A₀.deeper (envOf name scope L a cd)).mark (some (.ref e))) (envOf name scope L a cd) (cameBackBy (model prog w) (A₀.deeper (envOf name scope L a cd)) (envOf name scope L a cd) E)))
    {s' with heap:=h',toks:=tk})
  (hk:scope.kind = .function) (hlo:(envOf name scope L a cd).kindOf n=some .local) (hx:(envOf name scope L a cd).kindOf x=some .globalImplicit) (hd:(x==("__debug__" : Str))=false) :
  wpAny (model prog w) (A₀.deeper (envOf name scope L a cd)) (noteFrame (.ref e) (envOf name scope L a cd))
   (λ_ s₂=>wpAny (model prog w) (A₀.deeper (envOf name scope L a cd)) (setFlight (.ref e) none) (λ_ s₃=>
    wpAny (model prog w) (A₀.deeper (envOf name scope L a cd)) (handleBy (.ref e) (envOf name scope L a cd) (.ExceptHandler (some (.Name x np)) (some n) (b₀::suite) pos::more)) Q E s₃) E s₂) E s':=by
 refine yab λGG hGG=>?_
 obtain ⟨⟨B,hB,hBG,hl,hfl⟩,hsm⟩:=R
 have hL:B.get? L=none:=by
  refine yab λGG hGG=>?_
  obtain ⟨_,⟨L',_,hf,hn',_⟩,_⟩:=hfl.frames
  obtain rfl:L=L':=Option.some.inj hf
  refine hGG ?_;clear hGG GG
  exact hn'
 refine hGG ?_;clear hGG GG
 refine ycn (Around.frames_deeper K.stack) rfl hfl λh₄ x₄ u₄ tb₄=>?_
 refine ybu x₄ λh₅ x₅ u₅ tb₅=>?_
 have u₅:=u₄.trans u₅
 refine yab λGG hGG=>?_
 obtain ⟨g₅,T₅,F₅,K₅⟩:=kts_ground K F hBG x₅.stays (hsm.trans u₅)
 have X₅:KF.In g₅:=XB.keeps K₅.stays
 have P₅:TopRead p loose mg mb g₅:=topRead_of (TB.keeps K₅.stays)
 obtain ⟨ob,hob,hobc⟩:=x₅.there
 obtain ⟨nm,q',N,bs,bm,hdct,sn,sub,ab,col,dd,k0,k1,k2,k3,k5,newId,hC,hbase,hbT⟩:=kts_cls X₅ q
 have hC₅:=F₅.keep _ _ hC
 refine hGG ?_;clear hGG GG
 refine wpAny_handleBy_cons (codeAny_handlers_test (name_K F₅ X₅ P₅ ex ?_ hk hx hd)) (by intro q;cases q)
 refine wpAny_excMatches_sub_self hC₅ hob hobc hbase (codeAny_handlers_suite_as ?_)
 refine ybu x₅ λh₆ x₆ u₆ tb₆=>?_
 have u₆:=(hsm.trans u₅).trans u₆
 refine yab λGG hGG=>?_
 obtain ⟨g₆,T₆,F₆,K₆⟩:=kts_ground K F hBG x₆.stays u₆
 obtain ⟨oe,vs,T,he₀,hd₀,h1₀⟩:=tb₆ (tb₅ tb₄)
 obtain ⟨oe₁,vs₁,hoe,hoec,hoeo,hoed,hoe0,hoe1⟩:=x₆.exc
 rw [hoe] at he₀;cases he₀
 rw [hoed] at hd₀;cases hd₀
 rcases hoe1 with hoe1|⟨T',oT,ts,fl,hoe1,hnT,hTe,hT,hTd,hT3⟩
 ·rw [hoe1] at h1₀;cases h1₀
 rw [hoe1] at h1₀;cases h1₀
 have fresh:∀b o vs,B.get? b=none->h₆.get? b=some o->o.data = .fields vs->g₆.get? b=none:=λb o vs hb ho hdt=>T₆.none_ _ (kts_fresh F hBG hb λo₁ ho₁ m=>by
  refine yab λGG hGG=>?_
  obtain ⟨_,o',ho',hd⟩:=K.frames.mem m
  rw [ho₁] at ho'
  cases ho'
  obtain ⟨sl,hs⟩:=u₆ _ _ (F.keep _ _ ho₁) hd
  rw [ho] at hs
  cases hs
  refine hGG ?_;clear hGG GG
  exact hd _ hdt)
 have ne₆:=fresh _ _ _ x₆.off hoe hoed
 have nT₆:=fresh _ _ _ hnT hT hTd
 have hLd:∀b o vs,h₆.get? b=some o->o.data = .fields vs->b≠L:=λb o vs ho hdt z=>by
  refine yab λGG hGG=>?_
  obtain ⟨oL,es,ep,hL',hLd,_⟩:=F₆.ns
  rw [z,hL'] at ho
  cases ho
  rw [hLd] at hdt
  cases hdt
 have N₆:News g₆ L h₆ ((e,oe)::(T,oT)::rest):=λq hq=>by
  rcases List.mem_cons.mp hq with rfl|hq
  ·exact ⟨hoe,hLd _ _ _ hoe hoed,ne₆⟩
  rcases List.mem_cons.mp hq with rfl|hq
  ·exact ⟨hT,hLd _ _ _ hT hTd,nT₆⟩
  exact ⟨x₆.stays _ _ (hl q hq).1,(λz=>by have:=(hl q hq).1;rw [z,hL] at this;cases this),T₆.none_ _ (kts_none F.keep (hl q hq).2.1)⟩
 refine hGG ?_;clear hGG GG
 refine stN F₆ N₆ (λh₇ F₇ N₇=>?_) hk hlo
 exact k h₇ g₆ oe T oT vs ts fl _ T₆ F₇ N₇ (Ne.symm hTe) (λq hq z=>by have:=(hl q hq).1;rw [z,x₆.off] at this;cases this) (λq hq z=>by have:=(hl q hq).1;rw [z,hnT] at this;cases this)
  hoec hoeo hoed hoe0 hoe1 hTd hT3 K₆ (XB.keeps K₆.stays) (TB.keeps K₆.stays)
end
noncomputable abbrev BM:List Value:=[.type "Exception",.type "BaseException",.type "object"]
noncomputable def yax:List Str:=["__setattr__", "__getattribute__", "__getattr__", "code", "told"]
inductive yfY (K:Frag) (C fI:Addr):Prop
 | mk (N nm q bs sn sub ab col dd k0 k1 k2 k3 k5) (a:K.lookup C=some (excClassObj nm q C N bs BM true sn sub ab col dd k0 k1 k2 k3 k5 "Exception.__new__")) (b:nsOkIn K N=true) (c:nsIn K N "__init__" = some (some (.ref fI))) (d:∀y∈yax,nsIn K N y=some none)
inductive Xc (h:Heap) (C fI:Addr):Prop
 | mk (N mN nm q bs sn sub ab col dd k0 k1 k2 k3 k5) (a:h.get? C=some (excClassObj nm q C N bs BM true sn sub ab col dd k0 k1 k2 k3 k5 "Exception.__new__")) (b:h.Ns N mN) (c:mN "__init__" = some (.ref fI)) (d:∀y∈yax,mN y=none)
set_option tactic.hygienic true in
theorem yfb {K:Frag} {h:Heap} {N:Addr} {mg:Str->Option Value} {n:Str} {v:Value} (X:K.In h) (G:h.Ns N mg) (e:nsIn K N n=some (some v)):mg n=some v:=by
 refine yab λGG hGG=>?_
 obtain ⟨o,es,ep,ho,hd,_,hf⟩:=G
 unfold nsIn at e
 refine hGG ?_;clear hGG GG
 split at e
 ·rename_i c d es' n' sl q
  have:=X _ _ q
  rw [ho] at this
  refine yab λGG hGG=>?_
  cases this
  cases hd
  refine hGG ?_;clear hGG GG
  split at e
  ·rename_i en he
   cases e
   rw [<-hf]
   unfold nsFind findBy
   rw [<-Array.find?_toList,he]
   rfl
  ·split at e<;>cases e
 ·cases e
theorem yfc {K:Frag} {h:Heap} {C fI:Addr} (X:K.In h) (q:yfY K C fI):Xc h C fI:=by
 refine yab λGG hGG=>?_
 obtain ⟨N,nm,q,bs,sn,sub,ab,col,dd,k0,k1,k2,k3,k5,ho,hok,hi,hn⟩:=q
 have n:h.Ns N (h.nsMap N):=.of_isNs (isNs_of_in X hok)
 refine hGG ?_;clear hGG GG
 exact .mk N _ nm q bs sn sub ab col dd k0 k1 k2 k3 k5 (X _ _ ho) n (yfb X n hi) λy hy=>ns_none_of X n (hn y hy)
noncomputable def NsObj (o:Obj) (mA:Str->Option Value):Prop:=∃es ep,o.data = .dict es ep/\StrKeys es/\UniqKeys es/\∀name,nsFind es name=mA name
theorem NsObj.ns {h:Heap} {d:Addr} {o:Obj} {mA:Str->Option Value} (x:NsObj o mA) (e:h.get? d=some o):h.Ns1 d mA:=let ⟨es,ep,r⟩:=x;⟨o,es,ep,e,r⟩
noncomputable abbrev yau (C:Addr) (od:Option Addr) (t:Addr):Obj:={cls:=.ref C,dict:=od,data:=.fields #[.ref t,.none,.none,.none,.bool false,.none],slots:=#[]}
noncomputable abbrev yd4 (e:Addr):Obj:={cls:=.type "method-wrapper",dict:=none,data:=.fields #[.builtin "Exception.__init__",.ref e],slots:=#[]}
section
variable {prog:Program} {w:World} {A:Around} {E:Value->Shared->Prop} {s:Shared} {h₀:Heap} {L C fI e so:Addr} {m:Str->Option Value} {news:List (Addr × Obj)} {K:Frag}
theorem yh2 {rest:List Value} {oI:Obj} {Q:Value->Shared->Prop} (F:Fr h₀ L s.heap m) (N:News h₀ L s.heap news) (X:K.In h₀) (hx:yfY K C fI) (hfI:K.lookup fI=some oI) (hfc:oI.cls = .type "function")
  (h:∀e t h',Fr h₀ L h' m->News h₀ L h' ((e,yau C none t)::(t,yal rest 0)::news)->(∀p∈(t,yal rest 0)::news,p.1≠e)->(∀p∈news,p.1≠t) ->
   wpAny (model prog w) (A.under (.builtin "type.__call__" ⟨.ref C::rest,[]⟩)) (call (.ref fI) (.ref e::rest)) (λr s'=>r = .none/\Q (.ref e) s') E {s with heap:=h'}) (hrest:rest.length<=sizeLine) :
  wpAny (model prog w) A (call (.ref C) rest) Q E s:=by
 refine yab λGG hGG=>?_
 obtain ⟨Nn,mN,nm,q,bs,sn,sub,ab,col,dd,k0,k1,k2,k3,k5,hC,hn,hi,_⟩:=yfc (X.keeps F.keep) hx
 obtain ⟨hp,g,d,tk,os⟩:=s
 refine hGG ?_;clear hGG GG
 refine wpAny_call_exc_init PySem.F.excBase_Exception hC hn hi ((X.keeps F.keep) _ _ hfI) hfc (λh' e hm=>?_) hrest
 refine yab λGG hGG=>?_
 obtain ⟨t,he,htn,ht⟩:=hm.there
 have ng:∀b,hp.get? b=none->h₀.get? b=none:=λb q=>kts_none F.keep q
 have nL:∀b,hp.get? b=none->b≠L:=λb q z=>by
  refine yab λGG hGG=>?_
  obtain ⟨oL,es,ep,hL,_⟩:=F.ns
  rw [z,hL] at q;cases q
 have nn:∀b,hp.get? b=none->∀p∈news,p.1≠b:=λb q p hp z=>by
  rw [<-z,(N p hp).1] at q;cases q
 have net:t≠e:=λz=>by
  rw [z,he] at ht;cases ht
 refine hGG ?_;clear hGG GG
 refine h e t h' ?_ (λp hp=>?_) (λp hp=>?_) (nn t htn)
 ·refine yab λGG hGG=>?_
  obtain ⟨oL,es,ep,hL,r⟩:=F.ns
  refine hGG ?_;clear hGG GG
  exact ⟨⟨oL,es,ep,hm.keeps _ _ hL,r⟩,λb o q=>hm.keeps _ _ (F.keep b o q),F.above⟩
 ·rcases List.mem_cons.mp hp with rfl|hp
  ·exact ⟨he,nL _ hm.new,ng _ hm.new⟩
  rcases List.mem_cons.mp hp with rfl|hp
  ·exact ⟨ht,nL _ htn,ng _ htn⟩
  ·exact ⟨hm.keeps _ _ (N p hp).1,(N p hp).2⟩
 ·rcases List.mem_cons.mp hp with rfl|hp
  ·exact net
  ·exact nn e hm.new p hp
theorem yc6 {h h':Heap} {d:Addr} {o o':Obj} {news':List (Addr × Obj)} (F:Fr h₀ L h m) (N:News h₀ L h news) (U:Upd d o o' news news') (hd:h'.get? d=some o') (k:∀b o,b≠d->h.get? b=some o->h'.get? b=some o):Fr h₀ L h' m/\News h₀ L h' news':=by
 refine yab λGG hGG=>?_
 obtain ⟨pre,post,rfl,rfl,a,b⟩:=U.split
 have z:=N (d,o) (List.mem_append.mpr (.inr (.head _)))
 obtain ⟨oL,es,ep,hL,r⟩:=F.ns
 refine hGG ?_;clear hGG GG
 refine ⟨⟨⟨oL,es,ep,k _ _ (Ne.symm z.2.1) hL,r⟩,λb o q=>k b o (λw=>by rw [w,z.2.2] at q;cases q) (F.keep b o q),F.above⟩,λp hp=>?_⟩
 rcases List.mem_append.mp hp with hp|hp
 ·have y:=N p (List.mem_append.mpr (.inl hp))
  exact ⟨k _ _ (a p hp) y.1,y.2⟩
 ·rcases List.mem_cons.mp hp with rfl|hp
  ·exact ⟨hd,z.2⟩
  ·have y:=N p (List.mem_append.mpr (.inr (.tail _ hp)))
   exact ⟨k _ _ (b p hp) y.1,y.2⟩
theorem yj0 {od:Option Addr} {t:Addr} {pl:Sem Bool} {Q:Value × List Value->Shared->Prop} (F:Fr h₀ L s.heap m) (N:News h₀ L s.heap news) (X:K.In h₀) (hx:yfY K C fI) (ho:nsIn K cStatics "thirdparty.any" = some none)
  (hso:(so,ks_superObj C e C)∈news) (he:(e,yau C od t)∈news)
  (h:∀q h',Fr h₀ L h' m->News h₀ L h' ((q,yd4 e)::news)->(∀p∈news,p.1<q)->Q (.ref q,[]) {s with heap:=h',toks:=s.toks+1}):wpAny (model prog w) A (getMethod (.ref so) "__init__" pl) Q E s:=by
 have XX:=X.keeps F.keep
 refine yab λGG hGG=>?_
 obtain ⟨Nn,mN,nm,q,bs,sn,sub,ab,col,dd,k0,k1,k2,k3,k5,hC,hn,hi,_⟩:=yfc XX hx
 obtain ⟨hp,g,d,tk,os⟩:=s
 refine hGG ?_;clear hGG GG
 refine ye9 (ox:=yau C od t) (C:=C) (D:=C) (l:=[.type "BaseException",.type "object"]) (N _ hso).1 (looks_opaque XX ho) (l₀:=.ref C::BM) (λA Q E s k q=>?_) (by simp [List.dropWhile]) (N _ he).1 rfl (λA Q E s k q=>?_) (λz=>?_) ?_
 ·refine yab λGG hGG=>?_
  obtain ⟨h1,g1,d1,t1,o1⟩:=s
  refine hGG ?_;clear hGG GG
  exact wpAny_mroOf_exc (k _ _ hC) q
 ·refine yab λGG hGG=>?_
  obtain ⟨h1,g1,d1,t1,o1⟩:=s
  refine hGG ?_;clear hGG GG
  exact wpAny_isSubtype_exc (k _ _ hC) (by rw [show (Value.ref C::BM).contains (.type "Exception")=true from by simp];exact q)
 ·have:=(N _ he).1
  rw [z] at this
  exact absurd (hC.symm.trans this) (by intro q;cases q)
 ·obtain ⟨F',N',l'⟩:=ks_newsPush (s:=⟨hp,g,d,tk,os⟩) (o:=yd4 e) F N rfl (Heap.get?_push_at rfl rfl) (λb o e=>Heap.get?_push_of_some _ e)
  exact h _ _ F' N' l'
theorem yr5 {od:Option Addr} {t mw:Addr} {o0:Obj} {rest:List Value} {news':List (Addr × Obj)} {Q:Value->Shared->Prop} (F:Fr h₀ L s.heap m) (N:News h₀ L s.heap news) (X:K.In h₀) (hx:yfY K C fI)
  (hm:(mw,yd4 e)∈news) (ht:(t,o0)∈news)
  (U:Upd e (yau C od t) (yau C od s.heap.objs.size) news news')
  (h:∀t' h',t'=s.heap.objs.size->Fr h₀ L h' m->News h₀ L h' ((t',yal rest 0)::news')->(∀p∈news,p.1<t')->Q .none {s with heap:=h'}) (hrest:rest.length<=sizeLine):wpAny (model prog w) A (call (.ref mw) rest) Q E s:=by
 have XX:=X.keeps F.keep
 refine yab λGG hGG=>?_
 obtain ⟨Nn,mN,nm,q,bs,sn,sub,ab,col,dd,k0,k1,k2,k3,k5,hC,hn,hi,_⟩:=yfc XX hx
 have he:s.heap.get? e=some (yau C od t):=by
  refine yab λGG hGG=>?_
  obtain ⟨pre,post,rfl,rfl,a,b⟩:=U.split
  refine hGG ?_;clear hGG GG
  exact (N _ (List.mem_append.mpr (.inr (.head _)))).1
 obtain ⟨hp,g,d,tk,os⟩:=s
 refine hGG ?_;clear hGG GG
 refine yjZ (N _ hm).1 he rfl rfl (N _ ht).1 rfl hC rfl (λh' x1 x2 x3=>?_) hrest
 obtain ⟨F',N'⟩:=yc6 F N U x2 x3
 have ls:L<hp.objs.size:=F.ns.lt
 refine h _ h' rfl F' (λp hp'=>?_) λp hp'=>Heap.lt_size (N p hp').1
 rcases List.mem_cons.mp hp' with rfl|hp'
 ·exact ⟨x1,Nat.ne_of_gt ls,kts_none F.keep (Heap.get?_none_of_le (Nat.le_refl _))⟩
 ·exact N' p hp'
end
section
open Builtin Builtin.ObjectAttr
variable {prog:Program} {w:World} {A:Around} {E:Value->Shared->Prop} {h:Heap} {g:Array GenState} {d:Drawn} {t:Nat} {os:OsState}
variable {nm q:Str} {C N x:Addr} {bs:List Value} {sn:List Str} {sub:List Value} {ab:Bool} {col:Option Bool} {dd:Option Addr} {k0 k1 k2 k3 k5:Option Value} {newId:String}
 {mN mA:Str->Option Value} {name:Str} {v:Value} {o:Obj}
theorem yfZ {tk:Tok} {Q:Fin->Shared->Prop} (hC:h.get? C=some (excClassObj nm q C N bs BM true sn sub ab col dd k0 k1 k2 k3 k5 newId)) (hn:h.Ns N mN) (hna:mN name=none)
  (hB:typeLookup (.type "Exception") name=pure none) (hx:h.get? x=some o) (hc:o.cls = .ref C) {vs:Array Value} (hdd:o.data = .fields vs/\o.dict=none)
  (hq:∀h' tk' oD,h'.get? h.objs.size=some oD->NsObj oD (λy=>if y=name then some v else none)->h'.get? x=some {o with dict:=some h.objs.size}->(∀b o,b≠x->h.get? b=some o->h'.get? b=some o)->Q (.done (.ret .none)) ⟨h',g,d,tk',os⟩) :
  wpAny (model prog w) A (Builtin.«object.__setattr__» ⟨[.ref x,.str name tk,v],[]⟩) Q E ⟨h,g,d,t,os⟩:=by
 have hpass:=F.store_Exception.passes (.ref x)
 unfold Builtin.«object.__setattr__»
 repeat (first|rw [refuse_eq]|(rw [refuseLoop_ref,hpass])|(with_reducible refine wpAny_loadPart_at hx ?_;rw [hc])|with_reducible refine wpAny_mroOf_exc hC ?_|(with_reducible refine wpAny_typeLookup_exc hC hn F.store_Exception.mro hB ?_;rw [hna])|wp_step)
 obtain ⟨hd,hdn⟩:=hdd
 rw [hdn,if_neg (by simp [typeHasDict])]
 split
 ·rename_i hcd
  cases hcd
 split
 ·rename_i c hcd
  rw [hd] at hcd;cases hcd
 have hx₁:(h.push {cls:=.type "dict",data:=.dict #[]}).get? x=some o:=Heap.get?_push_of_some _ hx
 have hxs:x≠h.objs.size:=Nat.ne_of_lt (Heap.lt_size hx)
 refine wpAny_bind (wpAny_alloc' ?_)
 refine wpAny_bind (wpAny_update' hx₁ ?_)
 refine wpAny_pure ?_
 have hgd:((h.push {cls:=.type "dict",data:=.dict #[]}).update x λo=>{cls:=o.cls,dict:=some h.objs.size,data:=o.data,slots:=o.slots}).get? h.objs.size
   = some {cls:=.type "dict",data:=.dict #[]}:=
  (Heap.get?_update_ne _ _ _ _ hxs.symm).trans (Heap.get?_push_at rfl rfl)
 have hnd:((h.push {cls:=.type "dict",data:=.dict #[]}).update x λo=>{cls:=o.cls,dict:=some h.objs.size,data:=o.data,slots:=o.slots}).Ns h.objs.size (λ_=>none):=
  ⟨_,#[],_,hgd,rfl,λe he=>absurd he (by simp),λ_=>rfl⟩
 show wpAny _ _ (storeInDict h.objs.size (.str name tk) name v) _ _ _
 unfold storeInDict newKeyGuard
 refine wpAny_bind (wpAny_pure (wpAny_bind (wpAny_nsSet1 (Heap.Ns1.of_empty hnd) λh' hn' hs=>?_)))
 refine yab λGG hGG=>?_
 obtain ⟨oD,esD,epD,hoD,hdD,hcD⟩:=hn'.count (Within.cons name v Within.nil)
 refine hGG ?_;clear hGG GG
 refine wpAny_bind (wpAny_lookBehind hoD (by rw [hdD];exact pastItsLine_dict (Nat.le_trans hcD (by rw [List.length_cons,List.length_nil,sizeLine_eq];omega))) ?_)
 wp_walk
 have hx':h'.get? x=some {cls:=o.cls,dict:=some h.objs.size,data:=o.data,slots:=o.slots}:=by
  refine (hs.2 x hxs).trans (Heap.get?_update_self _ hx₁ ?_)
  refine yab λGG hGG=>?_
  obtain ⟨oc,od,odt,osl⟩:=o
  dsimp only at hd
  subst hd
  refine hGG ?_;clear hGG GG
  rfl
 refine yab λGG hGG=>?_
 obtain ⟨o',es,ep,e1,e2,e3,eu,e4⟩:=hn'
 refine hGG ?_;clear hGG GG
 refine hq h' _ o' e1 ⟨es,ep,e2,e3,eu,λy=>by rw [e4 y]⟩ hx' λb ob hbx hb=>?_
 exact (hs.2 b (Nat.ne_of_lt (Heap.lt_size hb))).trans ((Heap.get?_update_ne _ _ _ _ hbx).trans (Heap.get?_push_of_some _ hb))
theorem yf0 {tk:Tok} {D:Addr} {oD:Obj} {ns:List Str} {Q:Fin->Shared->Prop} (hC:h.get? C=some (excClassObj nm q C N bs BM true sn sub ab col dd k0 k1 k2 k3 k5 newId)) (hn:h.Ns N mN) (hna:mN name=none)
  (hB:typeLookup (.type "Exception") name=pure none) (hx:h.get? x=some o) (hc:o.cls = .ref C) (hdd:o.dict=some D/\h.get? D=some oD/\NsObj oD mA)
  (hq:∀h' tk' oD',h'.get? D=some oD'->NsObj oD' (λy=>if y=name then some v else mA y)->(∀b o,b≠D->h.get? b=some o->h'.get? b=some o)->Q (.done (.ret .none)) ⟨h',g,d,tk',os⟩) (hw:Within mA ns) (hsz:ns.length<=1000) :
  wpAny (model prog w) A (Builtin.«object.__setattr__» ⟨[.ref x,.str name tk,v],[]⟩) Q E ⟨h,g,d,t,os⟩:=by
 have hpass:=F.store_Exception.passes (.ref x)
 unfold Builtin.«object.__setattr__»
 repeat (first|rw [refuse_eq]|(rw [refuseLoop_ref,hpass])|(with_reducible refine wpAny_loadPart_at hx ?_;rw [hc])|with_reducible refine wpAny_mroOf_exc hC ?_|(with_reducible refine wpAny_typeLookup_exc hC hn F.store_Exception.mro hB ?_;rw [hna])|wp_step)
 obtain ⟨hdn,hD,hND⟩:=hdd
 have hns:=hND.ns hD
 rw [hdn]
 refine wpAny_pure ?_
 show wpAny _ _ (storeInDict D (.str name tk) name v) _ _ _
 unfold storeInDict newKeyGuard
 refine wpAny_bind (wpAny_pure (wpAny_bind (wpAny_nsSet1 hns λh' hn' hs=>?_)))
 refine yab λGG hGG=>?_
 obtain ⟨oD',esD,epD,hoD,hdD,hcD⟩:=hn'.count (Within.cons name v hw)
 refine hGG ?_;clear hGG GG
 refine wpAny_bind (wpAny_lookBehind hoD (by rw [hdD];exact pastItsLine_dict (Nat.le_trans hcD (by rw [List.length_cons,sizeLine_eq];omega))) ?_)
 wp_walk
 refine yab λGG hGG=>?_
 obtain ⟨o',es,ep,e1,e2,e3,eu,e4⟩:=hn'
 refine hGG ?_;clear hGG GG
 exact hq h' _ o' e1 ⟨es,ep,e2,e3,eu,λy=>by rw [e4 y]⟩ λb ob hbD hb=>(hs.2 b hbD).trans hb
theorem yeA {Q:Unit->Shared->Prop} (hC:h.get? C=some (excClassObj nm q C N bs BM true sn sub ab col dd k0 k1 k2 k3 k5 newId)) (hn:h.Ns N mN) (hns:mN "__setattr__" = none) (hx:h.get? x=some o) (hc:o.cls = .ref C)
  (hq:∀(A:Around) (tk:Tok) (t':Nat),wpAny (model prog w) A (Builtin.«object.__setattr__» ⟨[.ref x,.str name tk,v],[]⟩) (λf s'=>f = .done (.ret .none)/\Q () s') (λe s'=>E e s') ⟨h,g,d,t',os⟩) :
  wpAny (model prog w) A (setAttr (.ref x) name v) Q E ⟨h,g,d,t,os⟩:=by
 have f3:=F.store_Exception.slot.bind (.ref x)
 unfold setAttr callSpecial? specialOf
 repeat (any_goals (first|assumption|(with_reducible refine wpAny_loadPart_at hx ?_;rw [hc])|(with_reducible refine wpAny_typeLookup_exc hC hn F.store_Exception.mro F.store_Exception.slot.lookup ?_;rw [hns])|wp_step))
 show codeAny _ _ (.call (.builtin "object.__setattr__") ⟨[.ref x,.str name t,v],[]⟩) _ _
 refine codeAny_mono (R:=λr s'=>r = .ok (.ret .none)/\Q () s'∨∃e,r = .error e/\E e s') ?_ λr s' hr=>?_
 ·refine codeAny_call_builtin F.store_Exception.slot.plain F.store_Exception.entry ?_
  have hC':h.get? C=some (excClassObj nm q C N bs [.type "Exception",.type "BaseException",.type "object"] true sn sub ab col dd k0 k1 k2 k3 k5 newId):=hC
  have h1:=λA E Q M k=>@wpAny_check_sa A E h g d (t+1) os nm q C N x bs [.type "Exception",.type "BaseException",.type "object"] sn sub ab col dd k0 k1 k2 k3 k5 "Exception" newId "object.__setattr__" "object" v M o (.str name t) Q F.store_Exception hC' hx hc k
  refine h1 _ _ _ _ ?_
  refine wpAny_mono (hq _ _ _) ?_ ?_
  ·rintro f s' ⟨rfl,hQ⟩
   exact .inl ⟨rfl,hQ⟩
  ·intro e s' z
   exact .inr ⟨e,rfl,z⟩
 ·rcases hr with ⟨rfl,hQ⟩|⟨e,rfl,z⟩
  ·exact wpAny_pure (wpAny_pure hQ)
  ·exact z
end
section
variable {prog:Program} {w:World} {A:Around} {E:Value->Shared->Prop} {s:Shared} {h₀:Heap} {L C fI e t:Addr} {m:Str->Option Value} {news:List (Addr × Obj)} {K:Frag} {name:Str} {v:Value} {gN:Obj->List (Addr × Obj)}
theorem ybN {d:Addr} {o:Obj} {l:List (Addr × Obj)} {g:Obj->List (Addr × Obj)} (U:UpdF d o l g) (o':Obj):Upd d o o' l (g o'):=by
 induction U with
 | head h=>exact .head h
 | tail h _ ih=>exact .tail h ih
theorem UpdF.mem_ {d:Addr} {o:Obj} {l:List (Addr × Obj)} {g:Obj->List (Addr × Obj)} (U:UpdF d o l g):(d,o)∈l:=by
 induction U with
 | head h=>exact .head _
 | tail h _ ih=>exact .tail _ ih
theorem yr6 {od:Option Addr} {mw:Addr} {o0:Obj} {rest:List Value} {Q:Value->Shared->Prop} (F:Fr h₀ L s.heap m) (N:News h₀ L s.heap news) (X:K.In h₀) (hx:yfY K C fI)
  (hm:(mw,yd4 e)∈news) (U:UpdF e (yau C od t) news gN) (ht:(t,o0)∈news)
  (h:∀t' h',Fr h₀ L h' m->News h₀ L h' ((t',yal rest 0)::gN (yau C od t'))->(∀p∈news,p.1<t')->Q .none {s with heap:=h'}) (hrest:rest.length<=sizeLine):wpAny (model prog w) A (call (.ref mw) rest) Q E s:=
 yr5 F N X hx hm ht (ybN U _) (λt' h' e F' N' l=>by subst e;exact h _ h' F' N' l) hrest
theorem yh3 {Q:Unit->Shared->Prop} (F:Fr h₀ L s.heap m) (N:News h₀ L s.heap news) (X:K.In h₀) (hx:yfY K C fI) (hn:name∈yax) (hB:typeLookup (.type "Exception") name=pure none)
  (U:UpdF e (yau C none t) news gN)
  (h:∀D oD h' tk',Fr h₀ L h' m->News h₀ L h' ((D,oD)::gN (yau C (some D) t))->NsObj oD (λy=>if y=name then some v else none)->(∀p∈news,p.1<D)->Q () {s with heap:=h',toks:=tk'}) :
  wpAny (model prog w) A (setAttr (.ref e) name v) Q E s:=by
 refine yab λGG hGG=>?_
 obtain ⟨Nn,mN,nm,q,bs,sn,sub,ab,col,dd,k0,k1,k2,k3,k5,hC,hns,hi,hpl⟩:=yfc (X.keeps F.keep) hx
 have he:=(N _ (UpdF.mem_ U)).1
 obtain ⟨hp,g,d,tk,os⟩:=s
 refine hGG ?_;clear hGG GG
 refine yeA hC hns (hpl _ (.head _)) he rfl λA tk t'=>?_
 refine yfZ hC hns (hpl _ hn) hB he rfl ⟨rfl,rfl⟩ λh' tk' oD x1 x2 x3 x4=>⟨rfl,?_⟩
 obtain ⟨F',N'⟩:=yc6 F N (ybN U _) x3 x4
 have ls:L<hp.objs.size:=F.ns.lt
 refine h _ oD h' tk' F' (λp hp'=>?_) x2 λp hp'=>Heap.lt_size (N p hp').1
 rcases List.mem_cons.mp hp' with rfl|hp'
 ·exact ⟨x1,Nat.ne_of_gt ls,kts_none F.keep (Heap.get?_none_of_le (Nat.le_refl _))⟩
 ·exact N' p hp'
theorem yh4 {D:Addr} {oD:Obj} {mA:Str->Option Value} {ns:List Str} {Q:Unit->Shared->Prop} (F:Fr h₀ L s.heap m) (N:News h₀ L s.heap news) (X:K.In h₀) (hx:yfY K C fI) (hn:name∈yax) (hB:typeLookup (.type "Exception") name=pure none)
  (he:(e,yau C (some D) t)∈news) (hND:NsObj oD mA) (U:UpdF D oD news gN)
  (h:∀oD' h' tk',Fr h₀ L h' m->News h₀ L h' (gN oD')->NsObj oD' (λy=>if y=name then some v else mA y)->Q () {s with heap:=h',toks:=tk'}) (hw:Within mA ns) (hsz:ns.length<=1000) :
  wpAny (model prog w) A (setAttr (.ref e) name v) Q E s:=by
 refine yab λGG hGG=>?_
 obtain ⟨Nn,mN,nm,q,bs,sn,sub,ab,col,dd,k0,k1,k2,k3,k5,hC,hns,hi,hpl⟩:=yfc (X.keeps F.keep) hx
 have hD:=(N _ (UpdF.mem_ U)).1
 have he:=(N _ he).1
 obtain ⟨hp,g,d,tk,os⟩:=s
 refine hGG ?_;clear hGG GG
 refine yeA hC hns (hpl _ (.head _)) he rfl λA tk t'=>?_
 refine yf0 hC hns (hpl _ hn) hB he rfl ⟨rfl,hD,hND⟩ (λh' tk' oD' x1 x2 x3=>⟨rfl,?_⟩) hw hsz
 obtain ⟨F',N'⟩:=yc6 F N (ybN U _) x1 x3
 exact h oD' h' tk' F' N' x2
end
namespace SF
theorem no_code:typeLookup (.type "Exception") "code" = pure none:=by rw [typeLookup_type,builtinLookup_eq_fast];kernel_rfl
theorem no_told:typeLookup (.type "Exception") "told" = pure none:=by rw [typeLookup_type,builtinLookup_eq_fast];kernel_rfl
end SF
theorem yj1 {w:World}:yfY (KK w.params) 41 38:=
 .mk 40 "BasicError" "BasicError" [.type "Exception"] [] [] false none none (some (.ref 22)) none _ _ (some (.bool true)) (show (KK w.params).lookup 41=some (o41 w.params) by kernel_rfl) (by kernel_rfl) (by kernel_rfl)
  (fC (by kernel_rfl)<|fC (by kernel_rfl)<|fC (by kernel_rfl)<|fC (by kernel_rfl)<|fC (by kernel_rfl) fN)
noncomputable def ylY (q e:Addr) (h:Heap):Prop:=h.get? q=some (yd4 e)
section
variable {M:Model} {A:Around} {E:Value->Shared->Prop} {s:Shared} {env:Env} {pos:Pos} {first:List Value} {Q:Value->Shared->Prop} {q x:Addr}
theorem yh5 (h:Heap) (X:ylY q x h):∃k,(k=Keeper.frame∨k=Keeper.machine∨k=Keeper.boundFrame)/\Looks M h (keeperOf (.ref q)) k:=
 ⟨.machine,.inr (.inl rfl),(Looks.ld (part:=none) X).andThen .now⟩
theorem yoy {h₀ h:Heap} {L:Addr} {news:List (Addr × Obj)} (N:News h₀ L h news) (m:(q,yd4 x)∈news):ylY q x h:=(N _ m).1
theorem yd5 {h₀:Heap} {L:Addr} {news:List (Addr × Obj)} {e:PySem.Expr} {rest:List PySem.Expr} (_N:News h₀ L s.heap news) (_q:(q,yd4 x)∈news) (h:wpAny M A (spliced (backTo pos (starEach (e::rest) env))) (λvs s₁=>ylY q x s₁.heap/\wpAny M A (call (.ref q) (first++vs)) Q E s₁) E s)
  (he:starEach (e::rest) env=(false,eval e env)::starEach rest env) (hplain:(backTo pos (starEach rest env)).any (·.1)=false) :
  wpAny M A (callWith pos (.ref q) first (backTo pos (starEach (e::rest) env)) []) Q E s:=by
 rw [he] at h ⊢
 exact callWith_of (by show ((false || (backTo pos (starEach rest env)).any (·.1)) || false)=false;rw [hplain];rfl) yh5 (evalArgs_plain h)
end
section
variable {w:World} {mean:ExcName->Option Value} {mg mb:Str->Option Value} {base h₀:Heap} {outer:List Env} {A₀:Around} {L a:Addr} {m:Str->Option Value} {cn:Str} {cs:Scope} {ccd:Value} {news rest:List (Addr × Obj)} {s:Shared} {Q E:Value->Shared->Prop}
theorem yf1 {d:Nat}:∀{l:List (Addr × Obj)},AllLt d l->∀p∈l,p.1<d
 | [],_,_,hp=>nomatch hp
 | q::r,h,p,hp=>(List.mem_cons.mp hp).elim (λe=>e▸h.1) (yf1 h.2 p)
theorem yf2 {c:Str} {tc:Tok} {v:Value} {r:List Value} (hr:r = [v]∨(r = []/\v = .str (Str.ofString "") 212))
  (B:Below A₀ base outer h₀) (F:Fr h₀ L s.heap m) (N:News h₀ L s.heap news) (X:(KK w.params).In h₀) (T:Top VV LO mean mg mb h₀) (hk:cs.kind = .function)
  (hf:(A₀.deeper (envOf cn cs L a ccd)).frames=some (envOf cn cs L a ccd::outer)) (hdp:(A₀.deeper (envOf cn cs L a ccd)).depth<=600) (hun:(A₀.deeper (envOf cn cs L a ccd)).units<=3000)
  (hret:∀e t D oD h' tk' tc',Fr h₀ L h' m->News h₀ L h' ((e,yau 41 (some D) t)::(D,oD)::news)->NsObj oD (λy=>if y=Str.ofString "told" then some v else if y=Str.ofString "code" then some (.str c tc') else none)->(∀p∈(D,oD)::news,p.1≠e)->(∀p∈news,p.1<D)->Q (.ref e) {s with heap:=h',toks:=tk'}) :
  wpAny (MM w) (A₀.deeper (envOf cn cs L a ccd)) (call (.ref 41) (.str c tc::r)) Q E s:=by
 have hsz:(Value.str c tc::r).length<=sizeLine:=by rcases hr with rfl|⟨rfl,_⟩<;>size_fits
 refine ybd (dp:=600) (un:=3000) ?_ hf hdp hun
 generalize (A₀.deeper (envOf cn cs L a ccd)).handled=hh
 generalize (A₀.deeper (envOf cn cs L a ccd)).guards=gg
 refine yh2 (fI:=38) F N X yj1 (by k_is) rfl ?_ hsz
 intro e t h' F' N' n1 n2
 clear F N
 refine wpAny_call ?_
 refine' ks_code_super (binds:=[(Str.ofString "self",.ref e),(Str.ofString "code",.str c tc),(Str.ofString "told",v)]) ?k1 ?k2 ?k3 ?k4 ?k5 ?kA ?kF ?kK ?k6 ?k7 ?k8 ?k9 ?kB ?_ ?c1 ?c2 ?c3 ?c4
 case kA=>exact rfl
 case kF=>exact rfl
 case kK=>exact hk
 case k1=>k_asm
 case k2=>k_asm
 case k3=>k_asm
 case k4=>k_asm
 case k5=>k_asm
 case k6=>k_is
 case k7=>k_is
 case k8=>k_room
 case k9=>rcases hr with rfl|⟨rfl,rfl⟩<;>exact binds_K (by k_in) rfl (by k_is) rfl rfl rfl
 case kB=>exact locs rfl
 case c1=>decide
 case c2=>exact rfl
 case c3=>exact rfl
 case c4=>exact rfl
 intro g' L' h' FG' F' N' B' X' T' l1
 k_lt l1
 (try dsimp only)
 (try k_lift B')
 refine ks_wpAt_execs_cons ?_
 refine ks_wpAt_Expr_any ?_
 refine ks_wpAt_MethodCall ?_
 refine ks_node (C:=41) (D:=41) (x:=e) (ox:=yau 41 none t) (odx:=none) (by k_asm) (by k_asm) (by k_asm) (by k_asm) (by k_is) (by rfl) (by rfl) ⟨(N' _ (.head _)).1,rfl,rfl,trivial⟩ (by k_is) (by rfl) (by first|rfl|decide +kernel) (by k_is) (by k_is) (by k_is) (by k_is) (by decide) (by rfl) (by rfl) (by rfl) (by rfl) (by decide +kernel) (by first|boot_by_name|rfl|kernel_rfl) ?_
 intro so' h' F' N' l2
 k_lt l2
 repeat' ((fail_if_success (with_reducible show wpAny _ _ (getMethod (Value.ref _) _ _) _ _ _));(fail_if_success (with_reducible show wpAny _ _ (callWith _ (Value.ref _) _ _ _) _ _ _));(fail_if_success (with_reducible show ylY _ _ _));(fail_if_success (with_reducible show wpAny _ _ (call (Value.ref _) [_]) _ _ _));(fail_if_success (with_reducible show wpAny _ _ (setAttr (Value.ref _) _ _) _ _ _));first|(k_unfold;(try dsimp only))|walk1|(dsimp only;walk1)|(leave1;(try dsimp only)))
 refine' yj0 (C:=41) (fI:=38) ?F ?N ?X ?x ?o ?so ?e ?_
 case F=>k_asm
 case N=>k_asm
 case X=>k_asm
 case x=>exact yj1
 case o=>k_is
 case so=>k_mem
 case e=>k_mem
 intro q' h' F' N' l1
 (try k_lt l1)
 (try k_sweep)
 (try dsimp only)
 refine' yd5 N' (.head _) ?_ (by rfl) (by rfl)
 repeat' ((fail_if_success (with_reducible show ylY _ _ _/\_));first|(k_unfold;(try dsimp only))|walk1|(dsimp only;walk1)|(leave1;(try dsimp only)))
 refine' ⟨yoy N' (.head _),?_⟩
 refine' yr6 (C:=41) (fI:=38) (od:=none) F' N' X' yj1 (.head _) (UpdF.tail (by k_ne) (UpdF.tail (by k_ne) (UpdF.head n1))) (.tail _ (.tail _ (.tail _ (.head _)))) ?_ ?z
 case z=>size_fits
 intro t' h' F' N' l1
 (try k_lt l1)
 (try dsimp only at N')
 (try k_sweep)
 repeat' ((fail_if_success (with_reducible show wpAny _ _ (setAttr (Value.ref _) _ _) _ _ _));first|(k_unfold;(try dsimp only))|walk1|(dsimp only;walk1)|(leave1;(try dsimp only)))
 refine' yh3 (C:=41) (fI:=38) F' N' X' yj1 (by simp [yax]) SF.no_code (UpdF.tail (by k_ne) (UpdF.tail (by k_ne) (UpdF.tail (by k_ne) (UpdF.head n1)))) ?_
 intro D' oD' h' tk' F' N' nd' l1
 (try k_lt l1)
 (try dsimp only at N')
 (try k_sweep)
 (try dsimp only)
 repeat' ((fail_if_success (with_reducible show wpAny _ _ (setAttr (Value.ref _) _ _) _ _ _));first|(k_unfold;(try dsimp only))|walk1|(dsimp only;walk1)|(leave1;(try dsimp only)))
 refine' yh4 (C:=41) (fI:=38) F' N' X' yj1 (by simp [yax]) SF.no_told (.tail _ (.tail _ (.tail _ (.tail _ (.head _))))) nd' (UpdF.head λp hp=>Nat.ne_of_lt (yf1 (by exact l1) p hp)) ?_ (Within.cons _ _ Within.nil) (by decide)
 intro oD2 h2 tk2 F2 N2 nd2
 (try dsimp only at N2)
 k_steps
 rename Fr h₀ L _ m=>kF
 rename News h₀ L _ _=>kN
 exact hret e _ D' oD2 _ _ _ kF (fC (kN _ (.tail _ (.tail _ (.tail _ (.tail _ (.head _)))))) (fC (kN _ (.head _)) (λp hp=>kN p (.tail _ (.tail _ (.tail _ (.tail _ (.tail _ (.tail _ hp))))))))) nd2 (fC (Nat.ne_of_gt l1.2.2.2.1) (λp hp=>n1 p (.tail _ hp))) (yf1 l1.2.2.2.2.2)
theorem yoz {c:Str} {tc:Tok}
  (B:Below A₀ base outer h₀) (F:Fr h₀ L s.heap m) (N:News h₀ L s.heap news) (X:(KK w.params).In h₀) (T:Top VV LO mean mg mb h₀) (hk:cs.kind = .function)
  (hf:(A₀.deeper (envOf cn cs L a ccd)).frames=some (envOf cn cs L a ccd::outer)) (hdp:(A₀.deeper (envOf cn cs L a ccd)).depth<=600) (hun:(A₀.deeper (envOf cn cs L a ccd)).units<=3000)
  (hret:∀e t D oD h' tk' tc' tt,Fr h₀ L h' m->News h₀ L h' ((e,yau 41 (some D) t)::(D,oD)::news)->NsObj oD (λy=>if y=Str.ofString "told" then some (.str (Str.ofString "") tt) else if y=Str.ofString "code" then some (.str c tc') else none)->(∀p∈(D,oD)::news,p.1≠e)->(∀p∈news,p.1<D)->Q (.ref e) {s with heap:=h',toks:=tk'}) :
  wpAny (MM w) (A₀.deeper (envOf cn cs L a ccd)) (call (.ref 41) [.str c tc]) Q E s:=by
 exact yf2 (.inr ⟨rfl,rfl⟩) B F N X T hk hf hdp hun λe t D oD h' tk' tc'=>hret e t D oD h' tk' tc' 212
theorem ylZ {c:Str} {tc:Tok} {v:Value}
  (B:Below A₀ base outer h₀) (F:Fr h₀ L s.heap m) (N:News h₀ L s.heap news) (X:(KK w.params).In h₀) (T:Top VV LO mean mg mb h₀) (hk:cs.kind = .function)
  (hf:(A₀.deeper (envOf cn cs L a ccd)).frames=some (envOf cn cs L a ccd::outer)) (hdp:(A₀.deeper (envOf cn cs L a ccd)).depth<=600) (hun:(A₀.deeper (envOf cn cs L a ccd)).units<=3000)
  (hret:∀e t D oD h' tk' tc',Fr h₀ L h' m->News h₀ L h' ((e,yau 41 (some D) t)::(D,oD)::news)->NsObj oD (λy=>if y=Str.ofString "told" then some v else if y=Str.ofString "code" then some (.str c tc') else none)->(∀p∈(D,oD)::news,p.1≠e)->(∀p∈news,p.1<D)->Q (.ref e) {s with heap:=h',toks:=tk'}) :
  wpAny (MM w) (A₀.deeper (envOf cn cs L a ccd)) (call (.ref 41) [.str c tc,v]) Q E s:=by
 exact yf2 (.inl rfl) B F N X T hk hf hdp hun hret
end
theorem yr7 {w:World}:ktsIn (KK w.params) 41 "BaseException" = true:=by kernel_rfl
noncomputable def ybv (KF:Frag) (A:Around) (C:Addr) (E:Value->Shared->Prop) (v:Value) (s:Shared):Prop:=
 ∃e B l a0 od,v = .ref e/\(A.handled=none∨A.handled=some (.ref e))/\KF.In s.heap/\Aloft B l e (.ref C) a0 od s.heap/\∀h',Aloft B l e (.ref C) a0 od h'->s.heap.UpToSlots h'->E (.ref e) {s with heap:=h'}
section
variable {prog:Program} {w:World} {A A₀:Around} {E:Value->Shared->Prop} {s:Shared} {env:Env} {base g:Heap} {outer:List Env} {L a e t C fI:Addr} {m:Str->Option Value} {name:Str} {scope:Scope} {cd:Value} {od:Option Addr} {news rest:List (Addr × Obj)} {KF:Frag}
theorem yfd {ex:PySem.Expr} {pos:Pos} {Q:Flow->Shared->Prop} (hx:yfY KF C fI) (h:wpAny (model prog w) A (eval ex env) (ybv KF A C E) E s) :
  wpAny (model prog w) A (exec (.Raise (some ex) none pos) env) Q E s:=by
 refine yab λGG hGG=>?_
 obtain ⟨N,nm,q,bs,sn,sub,ab,col,dd,k0,k1,k2,k3,k5,hC,_,_,_⟩:=hx
 refine hGG ?_;clear hGG GG
 rw [arm_exec_Raise]
 refine wpAny_bind (wpAny_standAt (yfV (C:=C) (nm:=nm) (q:=q) (N:=N) (bs:=bs) (bm:=BM) (hdct:=true) (sn:=sn) (sub:=sub) (ab:=ab) (col:=col) (dd:=dd) (k0:=k0) (k1:=k1) (k2:=k2) (k3:=k3) (k5:=k5) (newId:="Exception.__new__") (by simp) ?_))
 refine wpAny_bind (wpAny_mono h (λv s₁ h₁=>?_) λ_ _ z=>z)
 refine yab λGG hGG=>?_
 obtain ⟨e,B,l,a0,od,rfl,hh,hX,x,hE⟩:=h₁
 refine hGG ?_;clear hGG GG
 exact wpAny_bind (wpAny_standAt (wpAny_pure ⟨e,B,l,a0,od,rfl,hh,hX _ _ hC,x,hE⟩))
end
namespace SF
theorem slot_exc_ga:Slot "Exception" "__getattribute__" "BaseException.__getattribute__":=.of (owner:="BaseException") (n:="__getattribute__") (by rw [typeLookup_type,builtinLookup_eq_fast];kernel_rfl) (by decide +kernel) (by decide +kernel) (by decide +kernel)
  (by first|exact .inl (by decide +kernel)|exact .inr (by decide +kernel)) (by rw [isSubtype_type];kernel_rfl)
theorem lk_exc_g:typeLookup (.type "Exception") "__getattr__" = pure none:=by rw [typeLookup_type,builtinLookup_eq_fast];kernel_rfl
theorem lk_exc_ga:typeLookup (.type "Exception") "__getattribute__" = pure (some (.builtin "BaseException.__getattribute__")):=by rw [typeLookup_type,builtinLookup_eq_fast];kernel_rfl
end SF
section
open Builtin Builtin.ObjectAttr
section
variable {prog:Program} {w:World} {A:Around} {E:Value->Shared->Prop} {h:Heap} {g:Array GenState} {d:Drawn} {t:Nat} {os:OsState}
variable {nm q:Str} {C N x D:Addr} {bs:List Value} {sn:List Str} {sub:List Value} {ab:Bool} {col:Option Bool} {dd:Option Addr} {k0 k1 k2 k3 k5:Option Value} {newId:String}
 {mN mA:Str->Option Value} {name:Str} {v:Value} {o:Obj}
theorem yf3 {M:Model} {nameV:Value} {Q:Unit->Shared->Prop} (hC:h.get? C=some (excClassObj nm q C N bs BM true sn sub ab col dd k0 k1 k2 k3 k5 newId))
  (hx:h.get? x=some o) (hc:o.cls = .ref C) (hq:Q () ⟨h,g,d,t,os⟩):wpAny M A (checkBuiltinCall "BaseException.__getattribute__" ⟨[.ref x,nameV],[]⟩) Q E ⟨h,g,d,t,os⟩:=by
 have hk:builtinKind "BaseException.__getattribute__" = some .slot:=by decide +kernel
 have hsplit:splitId "BaseException.__getattribute__" = some ("BaseException", "__getattribute__"):=by decide +kernel
 have hcB:(Value.ref C::BM).contains (.type "BaseException")=true:=by simp
 have ha:=F.args_bexc_ga (.ref x) nameV
 simp only [checkBuiltinCall,hk,hsplit]
 refine wpAny_bind ?_
 ·unfold isInstance
  repeat (first|(with_reducible refine wpAny_loadPart_at hx ?_;rw [hc])|(with_reducible refine wpAny_isSubtype_exc hC ?_;rw [hcB])|wp_step)
  exact hq
set_option tactic.hygienic true in
theorem yh6 {tk:Tok} {Q:Fin->Shared->Prop} (hC:h.get? C=some (excClassObj nm q C N bs BM true sn sub ab col dd k0 k1 k2 k3 k5 newId)) (hn:h.Ns N mN) (hna:mN name=none)
  (hB:typeLookup (.type "Exception") name=pure none) (hx:h.get? x=some o) (hc:o.cls = .ref C) (hdd:o.dict=some D/\(∀c,o.data≠.cls c)/\h.Ns1 D mA/\mA name=some v) (hq:Q (.done (.ret v)) ⟨h,g,d,t,os⟩) :
  wpAny (model prog w) A (Builtin.«object.__getattribute__» ⟨[.ref x,.str name tk],[]⟩) Q E ⟨h,g,d,t,os⟩:=by
 unfold Builtin.«object.__getattribute__»
 repeat (first|(with_reducible refine wpAny_loadPart_at hx ?_;rw [hc])|(with_reducible refine wpAny_typeLookup_exc hC hn F.store_Exception.mro hB ?_;rw [hna])|wp_step)
 refine yab λGG hGG=>?_
 obtain ⟨hdx,hnc,hns,hv⟩:=hdd
 refine hGG ?_;clear hGG GG
 split
 ·rename_i c hcd
  exact absurd hcd (hnc c)
 unfold instanceDict
 repeat (first|(with_reducible refine wpAny_loadPart_at hx ?_;rw [hc])|with_reducible refine wpAny_loadPart_at hC ?_|wp_step)
 rw [hdx]
 repeat (first|(with_reducible refine wpAny_nsGet hns.ns ?_;rw [hv])|wp_step)
 exact hq
theorem yl0 {tk:Tok} {fill expr:Bool} {Q:Value->Shared->Prop} (hC:h.get? C=some (excClassObj nm q C N bs BM true sn sub ab col dd k0 k1 k2 k3 k5 newId)) (hn:h.Ns N mN) (hng:mN "__getattribute__" = none) (hng2:mN "__getattr__" = none) (hna:mN name=none)
  (hB:typeLookup (.type "Exception") name=pure none) (hx:h.get? x=some o) (hc:o.cls = .ref C) (hdd:o.dict=some D/\(∀c,o.data≠.cls c)/\h.Ns1 D mA/\mA name=some v) (hh:handedOut v=pure v) (hq:Q v ⟨h,g,d,t,os⟩) :
  wpAny (model prog w) A (getAttrBy (.ref x) (.str name tk) fill expr) Q E ⟨h,g,d,t,os⟩:=by
 have f3:=SF.slot_exc_ga.bind (.ref x)
 have hx0:(expr && onTheHeap (Value.builtin "BaseException.__getattribute__"))=false:=by cases expr<;>rfl
 have hx2:(Value.builtin "BaseException.__getattribute__" == Value.builtin "object.__getattribute__")=false:=by decide +kernel
 have hx1:(onTheHeap (Value.ref C) && Value.builtin "BaseException.__getattribute__" == Value.builtin "object.__getattribute__")=false:=by rw [hx2];rfl
 repeat (any_goals (first|assumption|(with_reducible refine wpAny_loadPart_at hx ?_;rw [hc])|(with_reducible refine wpAny_typeLookup_exc hC hn F.store_Exception.mro SF.lk_exc_ga ?_;rw [hng])|(with_reducible refine wpAny_typeLookup_exc hC hn F.store_Exception.mro SF.lk_exc_g ?_;rw [hng2])|wp_step))
 show codeAny _ _ (.call (.builtin "BaseException.__getattribute__") ⟨[.ref x,.str name tk],[]⟩) _ _
 refine codeAny_call_builtin SF.slot_exc_ga.plain F.entry_bexc_ga ?_
 refine yf3 hC hx hc ?_
 refine yh6 hC hn hna hB hx hc hdd ?_
 show wpAny _ _ (handedOut v) _ _ _
 rw [hh]
 exact wpAny_pure hq
theorem yj2 {expr:Bool} {Q:Value->Shared->Prop} (hC:h.get? C=some (excClassObj nm q C N bs BM true sn sub ab col dd k0 k1 k2 k3 k5 newId)) (hn:h.Ns N mN) (hng:mN "__getattribute__" = none) (hng2:mN "__getattr__" = none) (hna:mN name=none)
  (hB:typeLookup (.type "Exception") name=pure none) (hx:h.get? x=some o) (hc:o.cls = .ref C) (hdd:o.dict=some D/\(∀c,o.data≠.cls c)/\h.Ns1 D mA/\mA name=some v) (hh:handedOut v=pure v) (hq:Q v ⟨h,g,d,t+1,os⟩) :
  wpAny (model prog w) A (getAttr (.ref x) name expr) Q E ⟨h,g,d,t,os⟩:=by
 unfold getAttr
 repeat (any_goals (first|assumption|with_reducible apply yl0 hC hn hng hng2 hna hB hx hc hdd hh|wp_step))
end
section
variable {prog:Program} {w:World} {A:Around} {E:Value->Shared->Prop} {s:Shared} {h₀:Heap} {L C fI e D:Addr} {m:Str->Option Value} {news:List (Addr × Obj)} {K:Frag} {name:Str} {v:Value} {mA:Str->Option Value} {oe oD:Obj} {vs:Array Value}
theorem yoA {expr:Bool} {Q:Value->Shared->Prop} (F:Fr h₀ L s.heap m) (N:News h₀ L s.heap news) (X:K.In h₀) (hx:yfY K C fI) (hn:name∈yax) (hB:typeLookup (.type "Exception") name=pure none)
  (he:(e,oe)∈news) (hc:oe.cls = .ref C) (hd:oe.dict=some D) (hdt:oe.data = .fields vs) (hD:(D,oD)∈news) (nd:NsObj oD mA) (hv:mA name=some v) (hh:handedIn v=true) (hq:Q v {s with toks:=s.toks+1}) :
  wpAny (model prog w) A (getAttr (.ref e) name expr) Q E s:=by
 refine yab λGG hGG=>?_
 obtain ⟨Nn,mN,nm,q,bs,sn,sub,ab,col,dd,k0,k1,k2,k3,k5,hC,hns,hi,hpl⟩:=yfc (X.keeps F.keep) hx
 have he:=(N _ he).1
 have hD:=(N _ hD).1
 obtain ⟨hp,g,d,tk,os⟩:=s
 refine hGG ?_;clear hGG GG
 exact yj2 hC hns (hpl _ (by simp [yax])) (hpl _ (by simp [yax])) (hpl _ hn) hB he hc ⟨hd,λc q=>(by rw [hdt] at q;cases q),nd.ns hD,hv⟩ (handedOut_of hh) hq
end
end
structure Has (es:List DictEntry) (l:List (Str × Value)):Prop where
 len:es.length<=60
 no:∀e∈es,e.key.isStr (Str.ofString "whole")=false/\e.refKey=false
 all:∀p∈l,getL p.1 es=some (some p.2)
inductive HPut (name:Str) (v:Value):List (Str × Value)->List (Str × Value)->Prop
 | head {o:Value} {r:List (Str × Value)}:(∀p∈r,p.1≠name)->HPut name v ((name,o)::r) ((name,v)::r)
 | tail {p:Str × Value} {r r':List (Str × Value)}:p.1≠name->HPut name v r r'->HPut name v (p::r) (p::r')
theorem HPut.old {name:Str} {v:Value} {l l':List (Str × Value)} (x:HPut name v l l'):∃o,(name,o)∈l:=by
 induction x with
 | head _=>exact ⟨_,.head _⟩
 | tail _ _ ih=>exact ⟨ih.choose,.tail _ ih.choose_spec⟩
theorem HPut.new {name:Str} {v:Value} {l l':List (Str × Value)} (x:HPut name v l l'):∀p∈l',p=(name,v)∨(p∈l/\p.1≠name):=by
 induction x with
 | head h=>
  intro p hp
  rcases List.mem_cons.mp hp with rfl|hp
  ·exact .inl rfl
  ·exact .inr ⟨.tail _ hp,h p hp⟩
 | tail h _ ih=>
  intro p hp
  rcases List.mem_cons.mp hp with rfl|hp
  ·exact .inr ⟨.head _,h⟩
  ·exact (ih p hp).imp id λy=>⟨.tail _ y.1,y.2⟩
set_option tactic.hygienic true in
theorem ydD {k:Value} {x:Str} (h:k.isStr x=true):∃t,k = .str x t:=by
 unfold Value.isStr at h
 split at h
 ·rename_i y t
  exact ⟨t,by rw [beq_iff_eq.mp h]⟩
 ·cases h
set_option tactic.hygienic true in
theorem yb8 {name:Str} {es:List DictEntry} {v:Value} (h:getL name es=some (some v)):∃e,es.find? (·.key.isStr name)=some e/\e.val=v:=by
 unfold getL at h
 split at h
 ·rename_i e he
  cases h
  exact ⟨e,he,rfl⟩
 ·split at h<;>cases h
inductive Fnd (p:DictEntry->Bool) (e:DictEntry):List DictEntry->Prop
 | head {r:List DictEntry}:p e=true->Fnd p e (e::r)
 | tail {a:DictEntry} {r:List DictEntry}:p a=false->Fnd p e r->Fnd p e (a::r)
theorem yf4 {p:DictEntry->Bool} {a:DictEntry} {r:List DictEntry} (q:p a=false):(a::r).find? p=r.find? p:=by rw [List.find?_cons,q]
theorem yh7 {p:DictEntry->Bool} {a:DictEntry} {r:List DictEntry} (q:p a=true):(a::r).find? p=some a:=by rw [List.find?_cons,q]
theorem yf5 {p:DictEntry->Bool} {e:DictEntry} {es:List DictEntry} (h:es.find? p=some e):Fnd p e es:=by
 induction es with
 | nil=>exact nomatch h
 | cons a r ih=>
  generalize q:p a=b
  rcases b with _|_
  ·exact .tail q (ih ((yf4 q).symm.trans h))
  ·exact Option.some.inj ((yh7 q).symm.trans h)▸.head q
theorem Fnd.eq {p:DictEntry->Bool} {e:DictEntry} {es:List DictEntry} (h:Fnd p e es):es.find? p=some e:=by
 induction h with
 | head q=>exact yh7 q
 | tail q _ ih=>exact (yf4 q).trans ih
theorem yeB {name:Str} {hsh:Int} {key v:Value} {a:DictEntry} {r:List DictEntry} (q:a.key.isStr name=false):putL name hsh key v (a::r)=a::putL name hsh key v r:=by simp [putL,q]
theorem yf6 {name:Str} {hsh:Int} {key v:Value} {a:DictEntry} {r:List DictEntry} (q:a.key.isStr name=true):putL name hsh key v (a::r)=⟨a.hash,a.key,v⟩::r:=by simp [putL,q]
theorem yh8 {name:Str} {hsh:Int} {key v:Value} {es:List DictEntry} {e:DictEntry} (h:es.find? (·.key.isStr name)=some e):(putL name hsh key v es).find? (·.key.isStr name)=some ⟨e.hash,e.key,v⟩/\(putL name hsh key v es).length=es.length:=by
 replace h:=yf5 h
 induction h with
 | head q=>rw [yf6 q];exact ⟨yh7 q,rfl⟩
 | tail q _ ih=>rw [yeB q];exact ⟨(yf4 q).trans ih.1,congrArg Nat.succ ih.2⟩
theorem ydE {k:Value} {n n':Str} (hn:n'≠n) (q:k.isStr n=true):k.isStr n'=false:=by
 generalize z:k.isStr n'=b
 refine yab λGG hGG=>?_
 rcases b with _|_
 ·refine hGG ?_;clear hGG GG
  rfl
 ·obtain ⟨t,hk⟩:=ydD q
  obtain ⟨t',hk'⟩:=ydD z
  exact absurd (Value.str.inj (hk'.symm.trans hk)).1 hn
theorem yf7 {name name':Str} {hsh:Int} {key v:Value} (hn:name'≠name) {es:List DictEntry} {e:DictEntry} (h:es.find? (·.key.isStr name')=some e):(putL name hsh key v es).find? (·.key.isStr name')=some e:=by
 replace h:=yf5 h
 induction h with
 | head q=>rw [yeB (ydE (Ne.symm hn) q)];exact yh7 q
 | @tail a r q h ih=>
  generalize z:a.key.isStr name=b
  rcases b with _|_
  ·rw [yeB z];exact (yf4 q).trans ih
  ·rw [yf6 z];exact (yf4 (ydE hn z)).trans h.eq
theorem yh9 {name:Str} {hsh:Int} {key v:Value} {es:List DictEntry} {e:DictEntry} (h:es.find? (·.key.isStr name)=some e):∀x∈putL name hsh key v es,∃y∈es,x.key=y.key:=by
 replace h:=yf5 h
 induction h with
 | head q=>rw [yf6 q];exact fC ⟨_,.head _,rfl⟩ λx hx=>⟨x,.tail _ hx,rfl⟩
 | tail q _ ih=>rw [yeB q];exact fC ⟨_,.head _,rfl⟩ λx hx=>(ih x hx).elim λy h=>⟨y,.tail _ h.1,h.2⟩
theorem Has.whole {es:List DictEntry} {l:List (Str × Value)} (h:Has es l):getL (Str.ofString "whole") es=some none:=by
 unfold getL
 rw [List.find?_eq_none.mpr λe he=>by rw [(h.no e he).1];simp]
 have:es.any (·.refKey)=false:=List.any_eq_false.mpr λe he=>by rw [(h.no e he).2];simp
 simp [this]
theorem Has.put {es:List DictEntry} {l l':List (Str × Value)} {name:Str} {v:Value} (h:Has es l) (x:HPut name v l l') (hsh:Int) (key:Value):Has (putL name hsh key v es) l':=by
 refine yab λGG hGG=>?_
 obtain ⟨o,ho⟩:=x.old
 obtain ⟨e,he,_⟩:=yb8 (h.all _ ho)
 obtain ⟨a,b⟩:=yh8 (hsh:=hsh) (key:=key) (v:=v) he
 refine hGG ?_;clear hGG GG
 refine ⟨b▸h.len,λy hy=>?_,λp hp=>?_⟩
 ·obtain ⟨z,hz,ek⟩:=yh9 he y hy
  have:=h.no z hz
  unfold DictEntry.refKey at this ⊢
  rw [ek];exact this
 rcases x.new p hp with rfl|⟨hp,hn⟩
 ·unfold getL
  rw [a]
 ·obtain ⟨e',he',hv⟩:=yb8 (h.all p hp)
  unfold getL
  rw [yf7 hn he']
  rw [<-hv]
theorem Has.get {es:List DictEntry} {l:List (Str × Value)} {name:Str} {v:Value} (h:Has es l) (m:(name,v)∈l):getL name es=some (some v):=h.all _ m
section
variable {prog:Program} {w:World} {A:Around} {E:Value->Shared->Prop} {s:Shared} {K:Frag} {x C dx L:Addr} {h₀:Heap} {m:Str->Option Value} {news:List (Addr × Obj)} {es:List DictEntry} {n:Nat} {name:Str} {v:Value} {l l':List (Str × Value)} {gN:Obj->List (Addr × Obj)} {sl:Array (Option Value)}
end
theorem yd6 {prog:Program} {w:World} {A:Around} {E:Value->Shared->Prop} {s:Shared} {env:Env} {g:Heap} {KF:Frag} {C fI:Addr} {ex:PySem.Expr} {pos:Pos} {Q:Flow->Shared->Prop} (_X:KF.In g) (hx:yfY KF C fI) (h:wpAny (model prog w) A (eval ex env) (ybv KF A C E) E s) :
  wpAny (model prog w) A (exec (.Raise (some ex) none pos) env) Q E s:=yfd hx h
noncomputable def ybE (d:Nat):List (Addr × Obj)->Prop
 | []=>True
 | p::r=>@Ne Nat p.1 d/\ybE d r
theorem yia {d:Addr}:∀{l:List (Addr × Obj)},(∀p∈l,p.1≠d)->ybE d l
 | [],_=>trivial
 | p::_,h=>⟨h p (.head _),yia λq hq=>h q (.tail _ hq)⟩
theorem ya8 {d:Nat}:∀{l:List (Addr × Obj)},ybE d l->∀p∈l,p.1≠d
 | [],_,_,hp=>nomatch hp
 | q::r,h,p,hp=>(List.mem_cons.mp hp).elim (λe=>e▸h.1) (ya8 h.2 p)
noncomputable def ApN (a:Nat):List Nat->Prop
 | []=>True
 | b::r=>@Ne Nat a b/\ApN a r
noncomputable def yoB:List Nat->Prop
 | []=>True
 | a::r=>ApN a r/\yoB r
noncomputable abbrev yaf (C dx:Addr):Obj:=⟨.ref C,some dx,.plain,#[]⟩
set_option backward.match.sparseCases true
section
variable {M:Model} {A₀ A:Around} {E:Value->Shared->Prop} {s:Shared} {base g G h:Heap} {outer l:List Env} {L a e T C:Addr} {m:Str->Option Value} {name:Str} {scope:Scope} {cd a0 cls:Value} {news r1 rest:List (Addr × Obj)} {od:Option Addr} {oe oT:Obj} {vs ts:Array Value} {fl:Value} {B:Heap}
theorem ycQ (K:Below A₀ base outer g) (F:Fr g L h m) (N:News g L h news) (D:Del e oe news r1) (D2:Del T oT r1 rest) (hd:oe.data = .fields vs) (h0:yjk vs a0) (h1:vs[1]? = some (.ref T)) (hT:oT.data = .fields ts) (h3:ts[3]? = some fl) (hk:scope.kind = .function) :
  RaisedX base g (envOf name scope L a cd::outer) e oe.cls a0 oe.dict rest h:=by
 have K':=K.push (name:=name) (a:=a) (cd:=cd) F hk
 refine yab λGG hGG=>?_
 obtain ⟨n1,n2,n3⟩:=N _ D.mem
 have hTm:=D.sub _ D2.mem
 obtain ⟨t1,t2,t3⟩:=N _ hTm.1
 have fs:∀b,b∈frs (envOf name scope L a cd::outer)->base.get? b=none/\∃o,h.get? b=some o/\∀vs,o.data≠.fields vs:=λb hb=>K'.frames.mem hb
 have hin:∀env∈(envOf name scope L a cd::outer),∀b,env.frame=some b->b∈e::T::frs (envOf name scope L a cd::outer):=λenv he b hb=>.tail _ (.tail _ (List.mem_filterMap.mpr ⟨env,he,hb⟩))
 have nb:base.get? e=none:=fresh_of_stays K.stays n3
 have tb:base.get? T=none:=fresh_of_stays K.stays t3
 have at_:∀b o,h.get? b=some o->b≠e->b≠T->b ∉ frs (envOf name scope L a cd::outer)->(hideAll h (e::T::frs (envOf name scope L a cd::outer))).get? b=some o:=λb o q n1 n2 n3=>hideAll_get _ q λhm=>(List.mem_cons.mp hm).elim n1 λhm=>(List.mem_cons.mp hm).elim n2 n3
 refine hGG ?_;clear hGG GG
 refine ⟨⟨hideAll h (e::T::frs (envOf name scope L a cd::outer)),λb o q=>?_,λb o q nm=>?_,λq hq=>?_,λb o q=>of_hideAll _ q,hideAll_none _ (.head _),funFrames_hide K'.frames hin,_,_,n1,rfl,rfl,hd,h0,.inr ⟨T,oT,ts,fl,h1,hideAll_none _ (.tail _ (.head _)),hTm.2,t1,hT,h3⟩⟩,Heap.UpToSlots.of_keeps F.keep⟩
 ·exact at_ b o (K'.stays b o q) (λz=>by rw [z,nb] at q;cases q) (λz=>by rw [z,tb] at q;cases q) λhm=>by rw [(fs b hm).1] at q;cases q
 ·exact at_ b o (F.keep b o q) (λz=>by rw [z,n3] at q;cases q) (λz=>by rw [z,t3] at q;cases q) nm
 ·have hs2:=D2.sub q hq
  have hs:=D.sub q hs2.1
  obtain ⟨m1,m2,m3⟩:=N q hs.1
  refine ⟨at_ _ _ m1 hs.2 hs2.2 λhm=>?_,m3,fresh_of_stays K.stays m3⟩
  refine yab λGG hGG=>?_
  rcases kts_mem hm with z|z
  ·refine hGG ?_;clear hGG GG
   exact m2 z
  ·obtain ⟨_,o,ho,_⟩:=K.frames.mem z
   rw [m3] at ho;cases ho
theorem yf8 {α:Type} {what:String} {env:Env} {Q:α->Shared->Prop} (x:Aloft B l e cls a0 od s.heap) (tb:yd3 s.heap e) (h:∀h',Aloft B l e cls a0 od h'->s.heap.UpToSlots h'->E (.ref e) {s with heap:=h'}) :
  wpAny M A (PySem.passOn what (.ref e) env:Sem α) Q E s:=by
 refine yab λGG hGG=>?_
 obtain ⟨x1,x2,x3,oe,vs,he,rfl,rfl,hd,h0,h1⟩:=id x
 obtain ⟨oe',vs',T',he',hd',h1'⟩:=tb
 rw [he] at he';cases he'
 rw [hd] at hd';cases hd'
 rcases h1 with h1|⟨T,oT,ts,fl,h1,hnT,hTe,hT,hdT,h3⟩
 ·rw [h1] at h1';cases h1'
 refine hGG ?_;clear hGG GG
 unfold PySem.passOn setFlight
 refine wpAny_bind (wpAny_field he hd h1 ?_)
 rw [if_neg (by simp)]
 refine wpAny_bind (wpAny_bind (wpAny_field he hd h1 ?_))
 rw [if_pos (show (Value.ref T != Value.none)=true from by simp)]
 have hsz:3<ts.size:=(Array.getElem?_eq_some_iff.mp h3).1
 have other:∀b,b≠T->(s.heap.update T (Obj.mapFields (·.setIfInBounds 3 (env.frame.elim Value.none λf=>rawInt f)))).get? b=s.heap.get? b:=λb hb=>Heap.get?_update_other _ _ (Ne.symm hb)
 have part:∀b o,s.heap.get? b=some o->(∀vs,o.data≠.fields vs)->b≠T:=λb o hb hn q=>by
  rw [q,hT] at hb;cases hb;exact hn ts hdT
 refine wpAny_setField hT hdT hsz (wpAny_throw (h _ ⟨λb o hb=>(other b λq=>by rw [q,hnT] at hb;cases hb).trans (x1 b o hb),x2,x3.of_keeps λb o hb hn=>⟨o,(other b (part b o hb hn)).trans hb,rfl⟩,
  oe,vs,(other e (Ne.symm hTe)).trans he,rfl,rfl,hd,h0,.inr ⟨T,_,_,_,h1,hnT,hTe,Heap.get?_update_self _ hT (Obj.isFreed_of_fields (Obj.data_mapFields hdT _)),Obj.data_mapFields hdT _,by simp [hsz];rfl⟩⟩
  λb o hb hn=>⟨o.slots,(other b (part b o hb hn)).trans hb⟩))
end
section
variable {prog:Program} {w:World} {A₀:Around} {E E2:Value->Shared->Prop} {s':Shared} {base g G:Heap} {outer:List Env} {L a e C:Addr} {m:Str->Option Value} {name:Str} {scope:Scope} {cd a0:Value} {od:Option Addr}
 {final:List Stmt} {Q:Flow->Shared->Prop} {rest:List (Addr × Obj)} {KF:Frag} {p:Program} {loose:List Str} {mean:ExcName->Option Value} {mg mb:Str->Option Value}
theorem yfe (R:RaisedX base G (envOf name scope L a cd::outer) e (.ref C) a0 od rest s'.heap) (F:Fr g L G m) (K:Below A₀ base outer g) (XB:KF.In base) (TB:Top p loose mean mg mb base)
  (k:∀h' g' oe T oT vs ts fl,KtsTurn (frs outer) g g'->Fr g' L h' m->News g' L h' ((e,oe)::(T,oT)::rest)->e≠T->(∀q∈rest,q.1≠e)->(∀q∈rest,q.1≠T) ->
   oe.cls = .ref C->oe.dict=od->oe.data = .fields vs->yjk vs a0->vs[1]? = some (.ref T)->oT.data = .fields ts->ts[3]? = some fl->Below A₀ base outer g'->KF.In g'->Top p loose mean mg mb g' ->
   wpAny (model prog w) ((A₀.deeper (envOf name scope L a cd)).mark (some (.ref e))) (execs final (envOf name scope L a cd))
    (λgf s₂=>match gf with | .next=>wpAny (model prog w) (A₀.deeper (envOf name scope L a cd)) (PySem.passOn "try.finally" (.ref e) (envOf name scope L a cd)) Q E s₂|gf=>wpAny (model prog w) (A₀.deeper (envOf name scope L a cd)) (setFlight (.ref e) none) (λ_ s₃=>Q gf s₃) E s₂)
    (notedBy (model prog w) ((A₀.deeper (envOf name scope L a cd)).mark (some (.ref e))) (envOf name scope L a cd) (cameBackBy (model prog w) (A₀.deeper (envOf name scope L a cd)) (envOf name scope L a cd) E)) {s' with heap:=h'}) :
  wpAny (model prog w) (A₀.deeper (envOf name scope L a cd)) (noteFrame (.ref e) (envOf name scope L a cd)) (λ_ s₂=>FinallyRaised prog w (A₀.deeper (envOf name scope L a cd)) E (envOf name scope L a cd) final Q (.ref e) s₂) E2 s':=by
 refine yab λGG hGG=>?_
 obtain ⟨⟨B,hB,hBG,hl,hfl⟩,hsm⟩:=R
 have hL:B.get? L=none:=by
  refine yab λGG hGG=>?_
  obtain ⟨_,⟨L',_,hf,hn',_⟩,_⟩:=hfl.frames
  obtain rfl:L=L':=Option.some.inj hf
  refine hGG ?_;clear hGG GG
  exact hn'
 refine hGG ?_;clear hGG GG
 refine ycn (Around.frames_deeper K.stack) rfl hfl λh₃ x₃ u₃ tb₃=>⟨(by intro q;cases q),?_⟩
 refine ycn (Around.frames_deeper K.stack) rfl x₃ λh₄ x₄ u₄ tb₄=>?_
 refine ybu x₄ λh₆ x₆ u₆ tb₆=>?_
 have u₆:=hsm.trans ((u₃.trans u₄).trans u₆)
 refine yab λGG hGG=>?_
 obtain ⟨g₆,T₆,F₆,K₆⟩:=kts_ground K F hBG x₆.stays u₆
 obtain ⟨oe,vs,T,he₀,hd₀,h1₀⟩:=tb₆ tb₄
 obtain ⟨oe₁,vs₁,hoe,hoec,hoeo,hoed,hoe0,hoe1⟩:=x₆.exc
 rw [hoe] at he₀;cases he₀
 rw [hoed] at hd₀;cases hd₀
 rcases hoe1 with hoe1|⟨T',oT,ts,fl,hoe1,hnT,hTe,hT,hTd,hT3⟩
 ·rw [hoe1] at h1₀;cases h1₀
 rw [hoe1] at h1₀;cases h1₀
 have fresh:∀b o vs,B.get? b=none->h₆.get? b=some o->o.data = .fields vs->g₆.get? b=none:=λb o vs hb ho hdt=>T₆.none_ _ (kts_fresh F hBG hb λo₁ ho₁ m=>by
  refine yab λGG hGG=>?_
  obtain ⟨_,o',ho',hd⟩:=K.frames.mem m
  rw [ho₁] at ho'
  cases ho'
  obtain ⟨sl,hs⟩:=u₆ _ _ (F.keep _ _ ho₁) hd
  rw [ho] at hs
  cases hs
  refine hGG ?_;clear hGG GG
  exact hd _ hdt)
 have ne₆:=fresh _ _ _ x₆.off hoe hoed
 have nT₆:=fresh _ _ _ hnT hT hTd
 have hLd:∀b o vs,h₆.get? b=some o->o.data = .fields vs->b≠L:=λb o vs ho hdt z=>by
  refine yab λGG hGG=>?_
  obtain ⟨oL,es,ep,hL',hLd,_⟩:=F₆.ns
  rw [z,hL'] at ho
  cases ho
  rw [hLd] at hdt
  cases hdt
 have N₆:News g₆ L h₆ ((e,oe)::(T,oT)::rest):=λq hq=>by
  rcases List.mem_cons.mp hq with rfl|hq
  ·exact ⟨hoe,hLd _ _ _ hoe hoed,ne₆⟩
  rcases List.mem_cons.mp hq with rfl|hq
  ·exact ⟨hT,hLd _ _ _ hT hTd,nT₆⟩
  exact ⟨x₆.stays _ _ (hl q hq).1,(λz=>by have:=(hl q hq).1;rw [z,hL] at this;cases this),T₆.none_ _ (kts_none F.keep (hl q hq).2.1)⟩
 refine hGG ?_;clear hGG GG
 exact k h₆ g₆ oe T oT vs ts fl T₆ F₆ N₆ (Ne.symm hTe) (λq hq z=>by have:=(hl q hq).1;rw [z,x₆.off] at this;cases this) (λq hq z=>by have:=(hl q hq).1;rw [z,hnT] at this;cases this)
  hoec hoeo hoed hoe0 hoe1 hTd hT3 K₆ (XB.keeps K₆.stays) (TB.keeps K₆.stays)
end
theorem ysv {d:Nat} {l:List (Addr × Obj)} (h:ybE d l):∀p∈l,p.1≠d:=ya8 h
theorem ysw {p0:Prop} {d:Nat} {l:List (Addr × Obj)} (h:p0/\ybE d l):∀p∈l,p.1≠d:=ya8 h.2
theorem ysx {p0 p1:Prop} {d:Nat} {l:List (Addr × Obj)} (h:p0/\p1/\ybE d l):∀p∈l,p.1≠d:=ya8 h.2.2
theorem ysy {p0 p1 p2:Prop} {d:Nat} {l:List (Addr × Obj)} (h:p0/\p1/\p2/\ybE d l):∀p∈l,p.1≠d:=ya8 h.2.2.2
theorem ysz {p0 p1 p2 p3:Prop} {d:Nat} {l:List (Addr × Obj)} (h:p0/\p1/\p2/\p3/\ybE d l):∀p∈l,p.1≠d:=ya8 h.2.2.2.2
theorem ysA {p0 p1 p2 p3 p4:Prop} {d:Nat} {l:List (Addr × Obj)} (h:p0/\p1/\p2/\p3/\p4/\ybE d l):∀p∈l,p.1≠d:=ya8 h.2.2.2.2.2
theorem ysB {p0 p1 p2 p3 p4 p5:Prop} {d:Nat} {l:List (Addr × Obj)} (h:p0/\p1/\p2/\p3/\p4/\p5/\ybE d l):∀p∈l,p.1≠d:=ya8 h.2.2.2.2.2.2
theorem ysC {p0 p1 p2 p3 p4 p5 p6:Prop} {d:Nat} {l:List (Addr × Obj)} (h:p0/\p1/\p2/\p3/\p4/\p5/\p6/\ybE d l):∀p∈l,p.1≠d:=ya8 h.2.2.2.2.2.2.2
theorem ysD {p0 p1 p2 p3 p4 p5 p6 p7:Prop} {d:Nat} {l:List (Addr × Obj)} (h:p0/\p1/\p2/\p3/\p4/\p5/\p6/\p7/\ybE d l):∀p∈l,p.1≠d:=ya8 h.2.2.2.2.2.2.2.2
theorem ysE {p0 p1 p2 p3 p4 p5 p6 p7 p8:Prop} {d:Nat} {l:List (Addr × Obj)} (h:p0/\p1/\p2/\p3/\p4/\p5/\p6/\p7/\p8/\ybE d l):∀p∈l,p.1≠d:=ya8 h.2.2.2.2.2.2.2.2.2
theorem yr8 {p0 p1 p2 p3 p4 p5 p6 p7 p8 p9:Prop} {d:Nat} {l:List (Addr × Obj)} (h:p0/\p1/\p2/\p3/\p4/\p5/\p6/\p7/\p8/\p9/\ybE d l):∀p∈l,p.1≠d:=ya8 h.2.2.2.2.2.2.2.2.2.2
theorem yr9 {p0 p1 p2 p3 p4 p5 p6 p7 p8 p9 p10:Prop} {d:Nat} {l:List (Addr × Obj)} (h:p0/\p1/\p2/\p3/\p4/\p5/\p6/\p7/\p8/\p9/\p10/\ybE d l):∀p∈l,p.1≠d:=ya8 h.2.2.2.2.2.2.2.2.2.2.2
theorem ysa {p0 p1 p2 p3 p4 p5 p6 p7 p8 p9 p10 p11:Prop} {d:Nat} {l:List (Addr × Obj)} (h:p0/\p1/\p2/\p3/\p4/\p5/\p6/\p7/\p8/\p9/\p10/\p11/\ybE d l):∀p∈l,p.1≠d:=ya8 h.2.2.2.2.2.2.2.2.2.2.2.2
theorem ybI {base g g' h:Heap} {l:List Env} {e:Addr} {cls a0:Value} {od:Option Addr} {rest:List (Addr × Obj)} {fs:List Addr} (T:KtsTurn fs g g') (hfs:∀b∈fs,b∈frs l) (R:RaisedX base g' l e cls a0 od rest h):RaisedX base g l e cls a0 od rest h:=by
 refine yab λGG hGG=>?_
 obtain ⟨⟨B,b1,b2,b3,b4⟩,up⟩:=R
 refine hGG ?_;clear hGG GG
 refine ⟨⟨B,b1,λb o q nm=>b2 b o (T.other b o q λm=>nm (hfs b m)) nm,λq hq=>⟨(b3 q hq).1,?_,(b3 q hq).2.2⟩,b4⟩,λb o q hn=>?_⟩
 ·generalize z:(g.get? q.1)=x9
  refine yab λGG hGG=>?_
  rcases x9 with _|o
  ·refine hGG ?_;clear hGG GG
   rfl
  ·obtain ⟨sl,w⟩:=T.up z
   rw [(b3 q hq).2.1] at w;cases w
 ·refine yab λGG hGG=>?_
  obtain ⟨sl,w⟩:=T.up q
  obtain ⟨sl',w'⟩:=up b _ w hn
  refine hGG ?_;clear hGG GG
  exact ⟨sl',w'⟩
theorem yib {env:Env} {l:List Env}:∀b∈frs l,b∈frs (env::l):=λb hb=>by
 obtain ⟨x,hx,hf⟩:=List.mem_filterMap.mp hb
 exact List.mem_filterMap.mpr ⟨x,.tail _ hx,hf⟩
set_option backward.match.sparseCases false
section
variable {prog:Program} {w:World} {A:Around} {E:Value->Shared->Prop} {s:Shared} {h₀:Heap} {L l b:Addr} {m:Str->Option Value} {news:List (Addr × Obj)}
theorem yj3 {value slice:PySem.Expr} {vs:List Value} {k:Int} {u:Tok} {v:Value} {Q:Value->Shared->Prop} (hl:s.heap.IsList l vs.toArray) (h0:0<=k) (hk2:k<2 ^ 63) (hv:vs[k.toNat]? = some v) (h:Q v s)
  (hs:subscripted slice false (.ref l) (.int k u)=operate [.ref l,.int k u] (getItem (.ref l) (.int k u))) :
  wpAny (model prog w) A (subscriptTail value slice (.ref l) (.int k u)) Q E s:=
 tail_any hl.typeIs slot_list_getitem.lookup (wpAny_getItem_list hl h0 hk2 (x:=v) (by simpa using hv) h) hs
end
noncomputable def yoC:List Nat->Prop
 | a::b::r=>@LT.lt Nat _ a b/\yoC (b::r)
 | _=>True
section
variable {w:World} {mean:ExcName->Option Value} {mg mb:Str->Option Value} {base:Heap} {env:Env} {outer:List Env} {A:Around} {s:Shared} {Q E:Value->Shared->Prop}
noncomputable abbrev yl1 (W WD R RD FL FD RW PL CT CD:Addr) (wes res fes ces:List DictEntry) (wn rn fn cn lw:Nat) (rvs:List Value) (po:Obj):List (Addr × Obj):=
 [(W,yaf 673 WD),(WD,dictOf wes wn),(FL,yaf 278 FD),(FD,dictOf fes fn),(RW,listOf rvs.toArray lw),(PL,po),(R,yaf 877 RD),(RD,dictOf res rn),(CT,yaf 208 CD),(CD,dictOf ces cn)]
end
structure yff (l:List Env) (ex:List Addr) (h h':Heap) (post:List (Addr × Obj)):Prop where
 kept:∀b o,h.get? b=some o->b ∉ ex->b ∉ frs l->h'.get? b=some o
 slots:∀b o,h.get? b=some o->b ∉ ex->b∈frs l->∃sl,h'.get? b=some {o with slots:=sl}
 get:∀p∈post,h'.get? p.1=some p.2
 new:∀p∈post,p.1 ∉ ex->h.get? p.1=none
structure yl2 (base:Heap) (l:List Env) (ex:List Addr) (h h':Heap) (e:Addr) (od:Option Addr) (rest:List (Addr × Obj)):Prop where
 there:∃g a0,ycO ex h g/\(∀b o,g.get? b=some o->h.get? b=some o)/\RaisedX base g l e (.ref 41) a0 od rest h'
section
variable {A₀:Around} {base h₀ g g' h h' hs:Heap} {l outer:List Env} {env:Env} {L a e C:Addr} {m:Str->Option Value} {news rest post r1:List (Addr × Obj)} {ex:List Addr} {exo:List (Addr × Obj)} {cn:Str} {cs:Scope} {ccd cls a0:Value} {od:Option Addr}
theorem yc7 (kp:ycO ex hs g) (T:KtsTurn (frs l) g g') (F:Fr g' L h m) (N:News g' L h news) (sub:∀p∈post,p∈news):yff l ex hs h post:=
 ⟨λb o q n nf=>F.keep _ _ (T.other _ _ (kp b o q n) nf),λb o q n mf=>by
  obtain ⟨sl,hsl⟩:=T.frame _ _ (kp b o q n) mf
  exact ⟨sl,F.keep _ _ hsl⟩,λp hp=>(N p (sub p hp)).1,λp hp n=>by
  generalize q:(hs.get? p.1)=x9
  rcases x9 with _|o
  ·rfl
  ·obtain ⟨sl,w⟩:=T.up (kp _ o q n)
   rw [(N p (sub p hp)).2.2] at w;cases w⟩
theorem yf9 (K:Below A₀ base outer h₀) (F:Fr h₀ L h m) (N:News h₀ L h news) (D:((∀p∈exo,p∈news)/\∀p∈rest,p∈news/\p.1 ∉ exo.map (·.1))) (P:yff (envOf cn cs L a ccd::outer) (exo.map (·.1)) h h' post) (hk:cs.kind = .function) :
  ∃g',KtsTurn (frs outer) h₀ g'/\Fr g' L h' m/\News g' L h' (post++rest)/\Below A₀ base outer g':=by
 have hex:∀b∈exo.map (·.1),h₀.get? b=none/\b≠L:=λb hb=>by
  refine yab λGG hGG=>?_
  obtain ⟨p,hp,rfl⟩:=List.mem_map.mp hb
  obtain ⟨_,n2,n3⟩:=N p (D.1 p hp)
  refine hGG ?_;clear hGG GG
  exact ⟨n3,n2⟩
 refine yab λGG hGG=>?_
 obtain ⟨oL,es,ep,hL,r⟩:=F.ns
 have nL:L ∉ exo.map (·.1):=λq=>(hex L q).2 rfl
 have fo:∀b∈frs outer,h₀.get? b≠none:=λb hb q=>by
  refine yab λGG hGG=>?_
  obtain ⟨_,o,ho,_⟩:=K.frames.mem hb
  rw [q] at ho;cases ho
 have FG:Fr h₀ L (hideAll h (exo.map (·.1))) m:=⟨⟨oL,es,ep,hideAll_get _ hL nL,r⟩,λb o q=>hideAll_get _ (F.keep b o q) (λz=>by rw [(hex b z).1] at q;cases q),F.above⟩
 obtain ⟨g',T,F',K'⟩:=kts_ground (name:=cn) (scope:=cs) (a:=a) (cd:=ccd) (B:=hideAll h' (frs (envOf cn cs L a ccd::outer))) (h₅:=h') K FG
  (λb o q nf=>hideAll_get _ (P.kept b o (of_hideAll _ q) (λz=>by rw [hideAll_none _ z] at q;cases q) nf) nf) (λb o q=>of_hideAll _ q)
  (λb o q _=>by
   have nx:b ∉ exo.map (·.1):=λz=>by rw [hideAll_none _ z] at q;cases q
   by_cases z:b∈frs (envOf cn cs L a ccd::outer)
   ·exact P.slots b o (of_hideAll _ q) nx z
   ·exact ⟨o.slots,P.kept b o (of_hideAll _ q) nx z⟩)
 refine hGG ?_;clear hGG GG
 refine ⟨g',T,F',λp hp=>?_,K'⟩
 rcases List.mem_append.mp hp with hp|hp
 ·refine ⟨P.get p hp,?_⟩
  by_cases q:p.1∈exo.map (·.1)
  ·exact ⟨(hex _ q).2,T.none_ _ (hex _ q).1⟩
  ·have n:=P.new p hp q
   refine ⟨λe=>?_,T.none_ _ ?_⟩
   ·rw [e,hL] at n;cases n
   ·generalize z:(h₀.get? p.1)=x9
    rcases x9 with _|o
    ·rfl
    ·rw [F.keep _ _ z] at n;cases n
 ·have h1:=D.2 p hp
  obtain ⟨n1,n2,n3⟩:=N p h1.1
  refine ⟨P.kept _ _ n1 h1.2 λz=>?_,n2,T.none_ _ n3⟩
  rcases kts_mem z with z|z
  ·exact n2 z
  ·exact fo _ z n3
theorem RaisedX.sub (R:RaisedX base g l e cls a0 od rest h) (s:∀q∈r1,q∈rest):RaisedX base g l e cls a0 od r1 h:=by
 refine yab λGG hGG=>?_
 obtain ⟨⟨B,b1,b2,b3,b4⟩,up⟩:=R
 refine hGG ?_;clear hGG GG
 exact ⟨⟨B,b1,b2,λq hq=>b3 q (s q hq),b4⟩,up⟩
theorem yga {G:Heap} (R:RaisedX base G (envOf cn cs L a ccd::outer) e (.ref C) a0 od rest h) (tb:yd3 h e) (F:Fr g L G m) (K:Below A₀ base outer g) :
  ∃g' oe T oT vs ts fl,KtsTurn (frs outer) g g'/\Fr g' L h m/\News g' L h ((e,oe)::(T,oT)::rest)/\e≠T/\(∀q∈rest,q.1≠e)/\(∀q∈rest,q.1≠T) /\
   oe.cls = .ref C/\oe.dict=od/\oe.data = .fields vs/\yjk vs a0/\vs[1]? = some (.ref T)/\oT.data = .fields ts/\ts[3]? = some fl/\Below A₀ base outer g':=by
 refine yab λGG hGG=>?_
 obtain ⟨⟨B,hB,hBG,hl,hfl⟩,hsm⟩:=R
 have hL:B.get? L=none:=by
  refine yab λGG hGG=>?_
  obtain ⟨_,⟨L',_,hf,hn',_⟩,_⟩:=hfl.frames
  obtain rfl:L=L':=Option.some.inj hf
  refine hGG ?_;clear hGG GG
  exact hn'
 obtain ⟨g₆,T₆,F₆,K₆⟩:=kts_ground K F hBG hfl.stays hsm
 obtain ⟨oe,vs,T,he₀,hd₀,h1₀⟩:=tb
 obtain ⟨oe₁,vs₁,hoe,hoec,hoeo,hoed,hoe0,hoe1⟩:=hfl.exc
 rw [hoe] at he₀;cases he₀
 rw [hoed] at hd₀;cases hd₀
 rcases hoe1 with hoe1|⟨T',oT,ts,fl,hoe1,hnT,hTe,hT,hTd,hT3⟩
 ·rw [hoe1] at h1₀;cases h1₀
 rw [hoe1] at h1₀;cases h1₀
 have fresh:∀b o vs,B.get? b=none->h.get? b=some o->o.data = .fields vs->g₆.get? b=none:=λb o vs hb ho hdt=>T₆.none_ _ (kts_fresh F hBG hb λo₁ ho₁ m=>by
  refine yab λGG hGG=>?_
  obtain ⟨_,o',ho',hd⟩:=K.frames.mem m
  rw [ho₁] at ho'
  cases ho'
  obtain ⟨sl,hs⟩:=hsm _ _ (F.keep _ _ ho₁) hd
  rw [ho] at hs
  cases hs
  refine hGG ?_;clear hGG GG
  exact hd _ hdt)
 have ne₆:=fresh _ _ _ hfl.off hoe hoed
 have nT₆:=fresh _ _ _ hnT hT hTd
 have hLd:∀b o vs,h.get? b=some o->o.data = .fields vs->b≠L:=λb o vs ho hdt z=>by
  refine yab λGG hGG=>?_
  obtain ⟨oL,es,ep,hL',hLd,_⟩:=F₆.ns
  rw [z,hL'] at ho
  cases ho
  rw [hLd] at hdt
  cases hdt
 have N₆:News g₆ L h ((e,oe)::(T,oT)::rest):=λq hq=>by
  rcases List.mem_cons.mp hq with rfl|hq
  ·exact ⟨hoe,hLd _ _ _ hoe hoed,ne₆⟩
  rcases List.mem_cons.mp hq with rfl|hq
  ·exact ⟨hT,hLd _ _ _ hT hTd,nT₆⟩
  exact ⟨hfl.stays _ _ (hl q hq).1,(λz=>by have:=(hl q hq).1;rw [z,hL] at this;cases this),T₆.none_ _ (kts_none F.keep (hl q hq).2.1)⟩
 refine hGG ?_;clear hGG GG
 exact ⟨g₆,oe,T,oT,vs,ts,fl,T₆,F₆,N₆,Ne.symm hTe,(λq hq z=>by have:=(hl q hq).1;rw [z,hfl.off] at this;cases this),(λq hq z=>by have:=(hl q hq).1;rw [z,hnT] at this;cases this),
  hoec,hoeo,hoed,hoe0,hoe1,hTd,hT3,K₆⟩
end
section
variable {prog:Program} {w:World} {A₀:Around} {E:Value->Shared->Prop} {s:Shared} {base g G:Heap} {outer:List Env} {L a e C:Addr} {m:Str->Option Value} {name n:Str} {scope:Scope} {cd a0:Value} {od:Option Addr} {rest:List (Addr × Obj)} {pos:Pos}
theorem ygb {hdl:Option Value} (R:RaisedX base G (envOf name scope L a cd::outer) e (.ref C) a0 od rest s.heap) (F:Fr g L G m) (K:Below A₀ base outer g)
  (hE:PassesOwnAt (model prog w) ((A₀.deeper (envOf name scope L a cd)).mark hdl) (A₀.deeper (envOf name scope L a cd)) (envOf name scope L a cd) E)
  (h:∀h' tk,RaisedX base g (envOf name scope L a cd::outer) e (.ref C) a0 od rest h'->E (.ref e) {s with heap:=h',toks:=tk})
  (hk:scope.kind = .function) (hlo:(envOf name scope L a cd).kindOf n=some .local) :
  AsSuiteRaised (model prog w) ((A₀.deeper (envOf name scope L a cd)).mark hdl) (envOf name scope L a cd) n pos
   (notedBy (model prog w) ((A₀.deeper (envOf name scope L a cd)).mark hdl) (envOf name scope L a cd) (cameBackBy (model prog w) (A₀.deeper (envOf name scope L a cd)) (envOf name scope L a cd) E)) (.ref e) s:=by
 have hfl:=R.all.choose_spec.2.2.2
 refine ycn (Around.frames_deeper K.stack) rfl hfl λh₁ x₁ u₁ tb₁=>?_
 have R₁:RaisedX base G (envOf name scope L a cd::outer) e (.ref C) a0 od rest h₁:=⟨⟨R.all.choose,R.all.choose_spec.1,R.all.choose_spec.2.1,R.all.choose_spec.2.2.1,x₁⟩,R.up.trans u₁⟩
 refine yab λGG hGG=>?_
 obtain ⟨g',oe,T,oT,vs,ts,fl,kt,F',N',ne1,ne2,ne3,c1,c2,c3,c4,c5,c6,c7,K'⟩:=yga R₁ tb₁ F K
 refine hGG ?_;clear hGG GG
 refine wpAny_nameGoes hlo F'.ns (by show (scope.kind == .class || (scope.kind == .module && L != mainGlobals))=false;rw [hk];rfl) λh₂ m₂ hn₂ hs₂=>?_
 have F₂:=F'.set hn₂ hs₂
 have N₂:=N'.set hs₂
 have R₂:=ycQ (name:=name) (scope:=scope) (a:=a) (cd:=cd) K' F₂ N₂ (.head (fC (Ne.symm ne1) ne2)) (.head ne3) c3 c4 c5 c6 c7 hk
 rw [c1,c2] at R₂
 refine yab λGG hGG=>?_
 obtain ⟨⟨B₂,d1,d2,d3,d4⟩,up₂⟩:=R₂
 refine hGG ?_;clear hGG GG
 refine yf8 d4 ⟨oe,vs,T,(N₂ _ (.head _)).1,c3,c5⟩ λh₃ x₃ u₃=>?_
 exact hE _ _ (h h₃ _ (ybI kt (λb hb=>yib b hb) ⟨⟨B₂,d1,d2,d3,x₃⟩,up₂.trans u₃⟩))
end
section
variable {prog:Program} {w:World} {A:Around} {E:Value->Shared->Prop} {s:Shared} {env:Env} {h₀:Heap} {L:Addr} {m:Str->Option Value} {news:List (Addr × Obj)}
theorem HOk.lt {hdl:Option Value} {h:Heap} (H:HOk hdl h):∀e,hdl=some (.ref e)->e≠h.objs.size:=λe q=>by
 rcases H with H|⟨e',oe,vs,H,he,_⟩
 ·rw [H] at q;cases q
 ·rw [H] at q;cases q
  exact Nat.ne_of_lt (Heap.lt_size he)
theorem yc8 {elts:List PySem.Expr} {k} {pos:Pos} {t:Addr} {items:Array Value} {Q:Unit->Shared->Prop} (F:Fr h₀ L s.heap m) (N:News h₀ L s.heap news) (ht:IsTup s.heap t items)
  (H:HOk A.handled s.heap) (hn:(assignEach elts env).length=items.size) (hstar:(assignEach elts env).findIdx? (·.1)=none)
  (h:∀h',Fr h₀ L h' m->News h₀ L h' news->wpAny (model prog w) A (assignInOrder ((assignEach elts env).map (·.2)) items.toList) Q E {s with heap:=h'}) :
  wpAny (model prog w) A (assign (.Tuple elts k pos) env (.ref t)) Q E s:=by
 have ht:s.heap.IsTuple t items:=ht
 rw [arm_assign_Tuple]
 refine wpAny_bind (wpAny_standAt ?_)
 unfold unpack
 rw [hn,hstar]
 refine wpAny_bind (wpAny_holding ?_)
 unfold unpackItems notIterableAtAll
 have hlt:t≠s.heap.objs.size:=by obtain ⟨o,ho,_⟩:=ht;exact Nat.ne_of_lt (Heap.lt_size ho)
 refine wpAny_bind (wpAny_bind (wpAny_specialOf ht.typeIs PySem.F.slot_tuple_iter.lookup (wpAny_pure ?_)))
 simp only [Bool.false_eq_true,if_false]
 refine wpAny_bind (wpAny_holding (wpAny_pyIter_tuple ht ?_))
 refine wpAny_bind (wpAny_holding (wpAny_draw_tuple hlt items.size 0 _ _ ⟨_,Heap.get?_push_size _ rfl,rfl,rfl⟩ (ht.push _) (by omega) λh₁ hit₁ hs₁=>?_))
 rw [List.drop_zero,List.take_of_length_le (by simp),if_neg (by simp)]
 have k1:∀b o,s.heap.get? b=some o->h₁.get? b=some o:=λb o e=>(hs₁.2 _ (Nat.ne_of_lt (Heap.lt_size e))).trans (Heap.get?_push_of_some _ e)
 refine wpAny_bind (wpAny_holding (ycH (H.mono k1) H.lt hit₁ ((ht.push _).extBut hs₁.extBut hlt) (by simp) λh₂ he₂=>?_))
 have k2:Heap.ExtBut s.heap.objs.size s.heap h₂:=λb o n e=>he₂ b o n (k1 b o e)
 simp only [Option.isSome_none,Bool.false_eq_true,if_false]
 exact wpAny_pure (h h₂ (F.extBut k2 (Nat.le_refl _)) (N.extBut k2 (Nat.le_refl _)))
noncomputable abbrev yoD (x:Str) (t:Tok) (i:Nat):Obj:={cls:=.type "str_ascii_iterator",data:=.fields #[.str x t,.int i 0]}
theorem yj4 {target:PySem.Expr} {body:List Stmt} {Q:Flow->Shared->Prop} {x:Str} {t:Tok} (J:Nat->(Str->Option Value)->List (Addr × Obj)->Prop)
  (H:HOk A.handled h₀) (ha:x.cps.all (· < 128)=true) (F:Fr h₀ env.locals s.heap m) (N:News h₀ env.locals s.heap news) (j0:J 0 m news)
  (turn:∀i c m₁ nx h tk tc I oI,x.cps[i]? = some c->J i m₁ nx->Fr h₀ env.locals h m₁->News h₀ env.locals h ((I,oI)::nx)->(∀p∈nx,p.1≠I) ->
   wpAny (model prog w) A (assign target env (.str ⟨#[c]⟩ tc)) (λ_ s₂=>wpAny (model prog w) A (execs body env) (TurnPost h₀ env.locals s I oI J i Q) E s₂) E {s with heap:=h,toks:=tk})
  (done:∀m₁ nx h tk,J x.cps.size m₁ nx->Fr h₀ env.locals h m₁->News h₀ env.locals h nx->Q .next {s with heap:=h,toks:=tk})
  (hown:∀v,letOwnedTupleGo target (.ref s.heap.objs.size) v=pure ())
  (hE:PassesOwn (model prog w) A env E) :
  yfS (model prog w) A env target body Q E (.str x t) s:=by
 have HH:HOk A.handled s.heap:=H.mono F.keep
 refine wpAny_pyIter_ascii ha (ydz J s.heap.objs.size (λh i=>h.IsStrIter s.heap.objs.size "str_ascii_iterator" x t i) x.cps.size (λi tk=>.str ⟨#[x.cps.getD i 0]⟩ tk) (· + 1) (F.push _) (λp hp=>⟨Heap.get?_push_of_some _ (N p hp).1,(N p hp).2⟩) j0 (next_is_new F) (Nat.ne_of_lt F.ns.lt)
  (λp hp=>Nat.ne_of_lt (Heap.lt_size (N p hp).1)) ⟨_,Heap.get?_push_size _ rfl,rfl,rfl⟩ (λh i x=>x.elim λo x=>⟨o,x.1,λh' e=>⟨o,e,x.2⟩⟩) ?_ ?_ ?_ done ?_ hE)
 ·exact λi m nx h tk Q' E' j F N t hlt k=>wpAny_pyNext_ascii_item t (c:=x.cps.getD i 0) (by simp [hlt]) k
 ·exact λm nx h tk Q' E' j F N t k=>ycI (H.mono F.keep) HH.lt t (by simp) k
 ·exact λi m nx h tk tc oI hlt j F N o=>turn i _ m nx h tk _ _ oI (by simp [hlt]) j F N o
 ·exact λi tc Q' E' s₁ hlt t q=>by rw [hown];exact wpAny_pure q
theorem yj5 {α:Type} {o:Option α} {v:α} (h:o=some v):o.isSome=true:=by rw [h];rfl
theorem yj6 {α:Type} {o:Option α} (h:o=none):o.isSome=false:=by rw [h];rfl
end
noncomputable abbrev codeStrs:List Str:=[Str.ofString "NF",Str.ofString "SN",Str.ofString "RG",Str.ofString "OD",Str.ofString "FC",Str.ofString "OV",Str.ofString "OM",Str.ofString "UL",Str.ofString "BS",Str.ofString "DD",Str.ofString "DZ",Str.ofString "ID",Str.ofString "TM",Str.ofString "OS",Str.ofString "LS",Str.ofString "ST",Str.ofString "CN",Str.ofString "UF",Str.ofString "NR",Str.ofString "RW",Str.ofString "UE",Str.ofString "WE",Str.ofString "FO",Str.ofString "BF",Str.ofString "BN",Str.ofString "AO",Str.ofString "FF",Str.ofString "EF",Str.ofString "NM"]
noncomputable def yaq (t:Nat->Tok):List Value:=codeStrs.zipIdx.map λp=>.str p.1 (t p.2)
theorem ygc {vs:List Value} {ss:List Str} (a:StrsAre vs ss):∀k,∃t:Nat->Tok,vs=(ss.zipIdx k).map λp=>.str p.1 (t p.2):=by
 induction a with
 | nil=>exact λk=>⟨λ_=>default,rfl⟩
 | @cons x t0 vs ss a ih=>
  intro k
  obtain ⟨t,e⟩:=ih (k+1)
  refine ⟨λi=>if i=k then t0 else t i,?_⟩
  rw [List.zipIdx_cons,List.map_cons,e]
  show _=Value.str x (if k=k then t0 else t k)::_
  rw [if_pos rfl]
  refine congrArg (_::·) (List.map_congr_left λp hp=>?_)
  have:=List.le_snd_of_mem_zipIdx hp
  show _=Value.str p.1 (if p.2=k then t0 else t p.2)
  rw [if_neg (by omega)]
theorem ygd {vs:List Value} (a:StrsAre vs codeStrs):∃t,vs=yaq t:=ygc a 0
theorem yfg (t:Nat->Tok):((yaq t).toArray.size:Int)=29:=by simp [yaq]
theorem yeC (t:Nat->Tok):∀(l:List Str) (k:Nat),StrsAre ((l.zipIdx k).map λp=>Value.str p.1 (t p.2)) l
 | [],_=>.nil
 | _::l,k=>.cons _ _ (yeC t l (k+1))
theorem yb1 (t:Nat->Tok):StrsAre (yaq t) codeStrs:=yeC t _ 0
theorem yeD {c:Str}:∀{vs:List Value} {ys:List Str},StrsAre vs ys->vs.any (isStrOf c)=ys.any (· == c)
 | _,_,.nil=>rfl
 | _,_,.cons y t r=>by rw [List.any_cons,List.any_cons,yeD r];rfl
section
variable {prog:Program} {w:World} {A:Around} {E:Value->Shared->Prop} {s:Shared} {h₀:Heap} {L D:Addr} {news:List (Addr × Obj)} {t:Nat->Tok} {n:Nat}
theorem yge {Q:Value->Shared->Prop} (N:News h₀ L s.heap news) (hm:(D,listOf (yaq t).toArray n)∈news) (h:Q (.int 29 (s.toks+1)) {s with toks:=s.toks+1+1}):wpAny (model prog w) A (call (.builtin "len") [.ref D]) Q E s:=
 kun_lenL (N.isList hm) (yfg t) (by decide) h
theorem yeE {c:Str} {u:Tok} {Q:Value->Shared->Prop} (b:Bool) (N:News h₀ L s.heap news) (hm:(D,listOf (yaq t).toArray n)∈news) (e:codeStrs.any (· == c)=b) (h:Q (.bool b) s):wpAny (model prog w) A (compareOp .In (.str c u) (.ref D)) Q E s:=
 SeqInW.in_listW (isStrOf c) (λy hy=>eq_isStrOf c u (yb1 t) y (by simpa using hy)) (N.isList hm) (by rw [<-Array.any_toList,List.toList_toArray,yeD (yb1 t),e];exact h)
theorem yic (t:Nat->Tok) {j:Nat} (h:j<codeStrs.length):(yaq t)[j]? = some (.str codeStrs[j] (t j)):=by
 unfold yaq
 rw [List.getElem?_map,List.getElem?_zipIdx,List.getElem?_eq_getElem h]
 simp
theorem yd7 {c:Str} {u:Tok} {j:Nat} {Q:Value->Shared->Prop} (N:News h₀ L s.heap news) (hm:(D,listOf (yaq t).toArray n)∈news) (hj:j<codeStrs.length) (e:codeStrs[j]=c) (ne:∀i (hi:i<codeStrs.length),i<j->codeStrs[i]≠c)
  (h:Q (.int j s.toks) {s with toks:=s.toks+1}):wpAny (model prog w) A (call (.builtin "list.index") [.ref D,.str c u]) Q E s:=by
 have hl:(yaq t).length=codeStrs.length:=by simp [yaq]
 have at_:∀m (hm:m<(yaq t).toArray.size),(yaq t).toArray[m] = .str (codeStrs[m]'(by simpa [hl] using hm)) (t m):=λm hm=>by
  have h1:m<codeStrs.length:=by simpa [hl] using hm
  have h2:=yic t h1
  rw [List.getElem?_eq_getElem (by rw [hl];exact h1)] at h2
  simpa using Option.some.inj h2
 have sz:(yaq t).toArray.size=codeStrs.length:=by simp [hl]
 have i29:codeStrs.length=29:=rfl
 refine call_meets PySem.F.slot_list_index ⟨_,(N _ hm).1,rfl⟩ PySem.F.entry_list_index (PySem.F.args_list_index_2 _ _)
  (MeetsSeq.list_index D (yaq t).toArray n (.str c u) (isStrOf c) (λy hy=>eq_isStrOf c u (yb1 t) y (by simpa using hy)) j (by omega) (by omega) (by rw [at_ j (by omega),e];simp [isStrOf]) (λi hi hlt=>?_)) ⟨(N _ hm).1,h⟩
 rw [at_ i hi]
 simp only [isStrOf,beq_eq_false_iff_ne]
 exact ne i (by omega) hlt
end
theorem yfh {l:List (Str × Tok)} (e:List.map (λx=>x.1) l=Txt.split (Str.ofString "NF SN RG OD FC OV OM UL BS DD DZ ID TM OS LS ST CN UF NR RW UE WE FO BF BN AO FF EF NM") (Str.ofString " ")):∃t,strValues l=yaq t:=by
 have e2:List.map (λx=>x.1) l=codeStrs:=by rw [e];decide +kernel
 have:∀l:List (Str × Tok),StrsAre (strValues l) (l.map λx=>x.1):=λl=>by
  induction l with
  | nil=>exact .nil
  | cons p l ih=>exact .cons _ _ ih
 exact ygd (e2▸this l)
section
variable {w:World} {mean:ExcName->Option Value} {mg mb:Str->Option Value} {base h₀:Heap} {env:Env} {outer:List Env} {A A₀:Around} {s:Shared} {Q E:Value->Shared->Prop} {L a:Addr} {m:Str->Option Value} {cn:Str} {cs:Scope} {ccd:Value} {news:List (Addr × Obj)}
theorem yid (St0:Std w mean mg mb base (env::outer) s.heap) (hf:A.frames=some (env::outer)) (hdp:A.depth<=600) (hun:A.units<=3000)
  (hret:∀t D h' tk',ybK [] s.heap h' [(D,listOf (yaq t).toArray 0)]->Q (.ref D) {s with heap:=h',toks:=tk'}) :
  wpAny (MM w) A (call (.ref 51) []) Q E s:=by
 refine ybd (dp:=600) (un:=3000) ?_ hf hdp hun
 generalize A.handled=hdl
 refine wpAny_call ?_
 have XB:=St0.X
 have TB:=St0.T
 have O:ybZ base (env::outer) s.heap []:=fN
 (refine' ybe ?X ?T ?S ?FF ?O ?A ?o ?cd ?room ?bind ?loc ?_ ?co ?gen ?k ?cell;(case A=>exact rfl);(case X=>exact Std.X (by assumption));(case T=>exact Std.T (by assumption));(case S=>exact Std.S (by assumption));(case FF=>exact Std.FF (by assumption));(case O=>assumption);(case o=>k_is);(case cd=>k_is);(case room=>exact Nat.le_of_ble_eq_true rfl);(case bind=>exact BindsTo.of_eq rfl);(case loc=>exact locs rfl);(case co=>exact rfl);(case gen=>exact rfl);(case k=>exact rfl);(case cell=>decide);k_whole)
 intro g' L' h' F' N' B' X' T' hl' kp' gs'
 (try dsimp only);(try k_fold)
 k_steps
 obtain ⟨t,et⟩:=yfh (by assumption)
 refine hret t _ _ _ (yaN kp' (by assumption) (by assumption) ?_)
 rw [<-et]
 exact λ_ h=>h
theorem yco (B:Below A₀ base outer h₀) (F:Fr h₀ L s.heap m) (N:News h₀ L s.heap news) (XB:(KK w.params).In base) (TB:Top VV LO mean mg mb base) (hk:cs.kind = .function)
  (hf:(A₀.deeper (envOf cn cs L a ccd)).frames=some (envOf cn cs L a ccd::outer)) (hdp:(A₀.deeper (envOf cn cs L a ccd)).depth<=600) (hun:(A₀.deeper (envOf cn cs L a ccd)).units<=3000)
  (hret:∀t D h' tk',Fr h₀ L h' m->News h₀ L h' ((D,listOf (yaq t).toArray 0)::news)->(∀p∈news,p.1≠D)->Q (.ref D) {s with heap:=h',toks:=tk'}) :
  wpAny (MM w) (A₀.deeper (envOf cn cs L a ccd)) (call (.ref 51) []) Q E s:=by
 refine yid (ybL B F XB TB hk) hf hdp hun λt D h' tk' P=>?_
 obtain ⟨F',N'⟩:=back F N (.nil) P
 exact hret t D h' tk' F' N' λp hp e=>ylW N .nil P _ (.head _) (by simp) p hp e.symm
end
noncomputable def yaj (f:Int):Str:=
 if f=5 then Str.ofString "FC" else if f=1 then Str.ofString "NF" else if f=16 then Str.ofString "ST" else if f=21 then Str.ofString "UE" else if f=30 then Str.ofString "UE30"
 else if f=200 then Str.ofString "UE200" else if f=255 then Str.ofString "UE255" else if f=8 then Str.ofString "UL" else if f=20 then Str.ofString "RW" else if f=19 then Str.ofString "NR" else Str.ofString ""
noncomputable def ygf (n:Int):Str:=if 1<=n/\n<=29 then codeStrs.getD (n - 1).toNat Str.empty else Str.ofString "UE" ++ Str.ofString (toString n)
noncomputable def yj7 (l:List Nat):Int:=l.foldl (fun (a:Int) (c:Nat)=>10 * a+(c:Int) - 48) 0
section
variable {w:World} {mean:ExcName->Option Value} {mg mb:Str->Option Value} {base h₀:Heap} {env:Env} {outer:List Env} {A A₀:Around} {s:Shared} {Q E:Value->Shared->Prop} {L a:Addr} {m:Str->Option Value} {cn:Str} {cs:Scope} {ccd:Value} {news:List (Addr × Obj)}
theorem ygg {n:Int} {u:Tok} (n0:0<=n) (n1:n<=1000) (St0:Std w mean mg mb base (env::outer) s.heap) (hf:A.frames=some (env::outer)) (hdp:A.depth<=590) (hun:A.units<=2900)
  (hret:∀c u h' tk',c=ygf n->ybK [] s.heap h' []->Q (.str c u) {s with heap:=h',toks:=tk'}) :
  wpAny (MM w) A (call (.ref 65) [.int n u]) Q E s:=by
 refine ybd (dp:=590) (un:=2900) ?_ hf hdp hun
 generalize A.handled=hdl
 refine wpAny_call ?_
 have XB:=St0.X
 have TB:=St0.T
 have O:ybZ base (env::outer) s.heap []:=fN
 (refine' ybe ?X ?T ?S ?FF ?O ?A ?o ?cd ?room ?bind ?loc ?_ ?co ?gen ?k ?cell;(case A=>exact rfl);(case X=>exact Std.X (by assumption));(case T=>exact Std.T (by assumption));(case S=>exact Std.S (by assumption));(case FF=>exact Std.FF (by assumption));(case O=>assumption);(case o=>k_is);(case cd=>k_is);(case room=>exact Nat.le_of_ble_eq_true rfl);(case bind=>exact BindsTo.of_eq rfl);(case loc=>exact locs rfl);(case co=>exact rfl);(case gen=>exact rfl);(case k=>exact rfl);(case cell=>decide);k_whole)
 intro g' L' h' F' N' B' X' T' hl' kp' gs'
 (try dsimp only);(try k_fold)
 repeat' ((fail_if_success (with_reducible show wpAny _ _ (call (Value.ref 51) _) _ _ _));first|(k_unfold;(try dsimp only))|walk1|(dsimp only;walk1)|(leave1;(try dsimp only)))
 refine' yco B' (by k_asm) (by k_asm) XB TB rfl rfl (Nat.le_of_ble_eq_true rfl) (Nat.le_of_ble_eq_true rfl) ?_
 intro t2 D2 h2 tk2 F2 N2 ne2
 clear ne2 F' N'
 repeat' ((fail_if_success (with_reducible show wpAny _ _ (call (Value.ref 51) _) _ _ _));(fail_if_success (with_reducible show wpAny _ _ (call (Value.builtin "len") [Value.ref _]) _ _ _));first|(k_unfold;(try dsimp only))|walk1|(dsimp only;walk1)|(leave1;(try dsimp only)))
 any_goals (rename News _ _ _ _=>N2;refine' yge N2 (.head _) ?_)
 k_steps
 all_goals first|exact hret _ _ _ _ (if_pos (by omega)).symm (yaN kp' (by assumption) (by assumption) fN)|exact hret _ _ _ _ (if_neg (by omega)).symm (yaN kp' (by assumption) (by assumption) fN)|fail
theorem yie {n:Int} {u:Tok} (n0:0<=n) (n1:n<=1000) (B:Below A₀ base outer h₀) (F:Fr h₀ L s.heap m) (N:News h₀ L s.heap news) (XB:(KK w.params).In base) (TB:Top VV LO mean mg mb base) (hk:cs.kind = .function)
  (hf:(A₀.deeper (envOf cn cs L a ccd)).frames=some (envOf cn cs L a ccd::outer)) (hdp:(A₀.deeper (envOf cn cs L a ccd)).depth<=590) (hun:(A₀.deeper (envOf cn cs L a ccd)).units<=2900)
  (hret:∀u h' tk',Fr h₀ L h' m->News h₀ L h' news->Q (.str (ygf n) u) {s with heap:=h',toks:=tk'}) :
  wpAny (MM w) (A₀.deeper (envOf cn cs L a ccd)) (call (.ref 65) [.int n u]) Q E s:=by
 refine ygg n0 n1 (ybL B F XB TB hk) hf hdp hun λc u h' tk' ec P=>?_
 obtain ⟨F',N'⟩:=back F N .nil P
 subst ec
 exact hret u h' tk' F' N'
end
section
variable {w:World} {mean:ExcName->Option Value} {mg mb:Str->Option Value} {base h₀:Heap} {env:Env} {outer:List Env} {A A₀:Around} {s:Shared} {Q E:Value->Shared->Prop} {L a:Addr} {m:Str->Option Value} {cn:Str} {cs:Scope} {ccd:Value} {news:List (Addr × Obj)}
theorem ya4 {c:Str} {j:Nat} {u:Tok} (hj:j<codeStrs.length) (e:codeStrs[j]=c) (ne:∀i (hi:i<codeStrs.length),i<j->codeStrs[i]≠c) (St0:Std w mean mg mb base (env::outer) s.heap) (hf:A.frames=some (env::outer)) (hdp:A.depth<=580) (hun:A.units<=2800)
  (hret:∀u h' tk',ybK [] s.heap h' []->Q (.int ((j:Int)+1) u) {s with heap:=h',toks:=tk'}) :
  wpAny (MM w) A (call (.ref 58) [.str c u]) Q E s:=by
 refine ybd (dp:=580) (un:=2800) ?_ hf hdp hun
 generalize A.handled=hdl
 refine wpAny_call ?_
 have XB:=St0.X
 have TB:=St0.T
 have O:ybZ base (env::outer) s.heap []:=fN
 have hin:codeStrs.any (· == c)=true:=List.any_eq_true.mpr ⟨_,List.getElem_mem hj,by rw [e];simp⟩
 (refine' ybe ?X ?T ?S ?FF ?O ?A ?o ?cd ?room ?bind ?loc ?_ ?co ?gen ?k ?cell;(case A=>exact rfl);(case X=>exact Std.X (by assumption));(case T=>exact Std.T (by assumption));(case S=>exact Std.S (by assumption));(case FF=>exact Std.FF (by assumption));(case O=>assumption);(case o=>k_is);(case cd=>k_is);(case room=>exact Nat.le_of_ble_eq_true rfl);(case bind=>exact BindsTo.of_eq rfl);(case loc=>exact locs rfl);(case co=>exact rfl);(case gen=>exact rfl);(case k=>exact rfl);(case cell=>decide);k_whole)
 intro g' L' h' F' N' B' X' T' hl' kp' gs'
 (try dsimp only);(try k_fold)
 repeat' ((fail_if_success (with_reducible show wpAny _ _ (call (Value.ref 51) _) _ _ _));first|(k_unfold;(try dsimp only))|walk1|(dsimp only;walk1)|(leave1;(try dsimp only)))
 refine' yco B' (by k_asm) (by k_asm) XB TB rfl rfl (Nat.le_of_ble_eq_true rfl) (Nat.le_of_ble_eq_true rfl) ?_
 intro t2 D2 h2 tk2 F2 N2 ne2
 clear ne2 F' N'
 repeat' ((fail_if_success (with_reducible show wpAny _ _ (compareOp CmpOp.In _ (Value.ref _)) _ _ _));first|(k_unfold;(try dsimp only))|walk1|(dsimp only;walk1)|(leave1;(try dsimp only)))
 rename News _ _ _ _=>N2
 refine' yeE true N2 (.head _) hin ?_
 repeat' ((fail_if_success (with_reducible show wpAny _ _ (call (Value.builtin "list.index") _) _ _ _));first|(k_unfold;(try dsimp only))|walk1|(dsimp only;walk1)|(leave1;(try dsimp only)))
 rename News _ _ _ _=>N2
 refine' yd7 N2 (.head _) hj e ne ?_
 k_steps
 exact hret _ _ _ (yaN kp' (by assumption) (by assumption) fN)
theorem yeF {c:Str} {f:Int} {u:Tok} (H:HOk A.handled s.heap) (hc:(c=Str.ofString "UE30"/\f=30)∨(c=Str.ofString "UE200"/\f=200)∨(c=Str.ofString "UE255"/\f=255)∨(c=Str.ofString ""/\f=0))
  (St0:Std w mean mg mb base (env::outer) s.heap) (hf:A.frames=some (env::outer)) (hdp:A.depth<=580) (hun:A.units<=2800)
  (hret:∀u h' tk',ybK [] s.heap h' []->Q (.int f u) {s with heap:=h',toks:=tk'}) :
  wpAny (MM w) A (call (.ref 58) [.str c u]) Q E s:=by
 have hk:yj7 (Txt.slice c (some 2) none).cps.toList=f/\(Txt.slice c (some 2) none).cps.size<=3/\(Txt.slice c (some 2) none).cps.all (· < 128)=true/\(Txt.slice c (some 2) none).cps.toList.all (λd=>decide (48<=d/\d<=57))=true/\(ygf f==c)=decide (f≠0)/\codeStrs.any (· == c)=false/\c.length<=5:=by
  rcases hc with ⟨rfl,rfl⟩|⟨rfl,rfl⟩|⟨rfl,rfl⟩|⟨rfl,rfl⟩<;>decide +kernel
 clear hc
 refine ybd (dp:=580) (un:=2800) ?_ hf hdp hun
 generalize A.handled=hdl at H ⊢
 refine wpAny_call ?_
 have XB:=St0.X
 have TB:=St0.T
 have O:ybZ base (env::outer) s.heap []:=fN
 (refine' ybe ?X ?T ?S ?FF ?O ?A ?o ?cd ?room ?bind ?loc ?_ ?co ?gen ?k ?cell;(case A=>exact rfl);(case X=>exact Std.X (by assumption));(case T=>exact Std.T (by assumption));(case S=>exact Std.S (by assumption));(case FF=>exact Std.FF (by assumption));(case O=>assumption);(case o=>k_is);(case cd=>k_is);(case room=>exact Nat.le_of_ble_eq_true rfl);(case bind=>exact BindsTo.of_eq rfl);(case loc=>exact locs rfl);(case co=>exact rfl);(case gen=>exact rfl);(case k=>exact rfl);(case cell=>decide);k_whole)
 intro g' L' h' F' N' B' X' T' hl' kp' gs'
 have HG:HOk hdl g':=H.mono λb o q=>kp' b o q (List.not_mem_nil)
 (try dsimp only);(try k_fold)
 refine yab λGG hGG=>?_
 obtain ⟨hk1,hk2,hk3,hk4,hk5,hin,hc5⟩:=hk
 have hsz:c.length<=sizeLine:=Nat.le_trans hc5 (by decide)
 refine hGG ?_;clear hGG GG
 repeat' ((fail_if_success (with_reducible show wpAny _ _ (call (Value.ref 51) _) _ _ _));first|(k_unfold;(try dsimp only))|walk1|(dsimp only;walk1)|(leave1;(try dsimp only)))
 refine' yco B' (by k_asm) (by k_asm) XB TB rfl rfl (Nat.le_of_ble_eq_true rfl) (Nat.le_of_ble_eq_true rfl) ?_
 intro t1 D1 h2 tk2 F2 N2 ne2
 clear ne2 F' N'
 repeat' ((fail_if_success (with_reducible show wpAny _ _ (compareOp CmpOp.In _ (Value.ref _)) _ _ _));first|(k_unfold;(try dsimp only))|walk1|(dsimp only;walk1)|(leave1;(try dsimp only)))
 rename News _ _ _ _=>N2
 refine' yeE false N2 (.head _) hin ?_
 repeat' ((fail_if_success (with_reducible show wpAny _ _ (exec (Stmt.For _ _ _ _ _) _) _ _ _));first|(k_unfold;(try dsimp only))|walk1|(dsimp only;walk1)|(leave1;(try dsimp only)))
 refine' ydx ?_ ?b
 case b=>(intro _;rfl)
 k_steps
 rename Fr _ _ _ _=>F4
 rename News _ _ _ _=>N4
 refine yj4 (λi m nx=>∃v t,m (Str.ofString "number")=some (.int v t)/\m (Str.ofString "code")=some (.str c u)/\0<=v/\v<10 ^ i/\v=yj7 ((Txt.slice c (some 2) none).cps.toList.take i)/\nx = [(D1,listOf (yaq t1).toArray 0)]) HG hk3 F4 N4 ?j0 ?turn ?done (by intro _;rfl) (by passes_own)
 case j0=>exact ⟨0,_,rfl,rfl,by omega,by decide,rfl,rfl⟩
 case turn=>
  intro i x m₁ nx h tk tc I oI hci hJ F N ne
  refine yab λGG hGG=>?_
  obtain ⟨v,tv,m1,m2,v0,v1,v2,rfl⟩:=hJ
  have hc48:48<=x/\x<=57:=by
   have:=List.all_eq_true.mp hk4 x (by rw [Array.mem_toList_iff];exact Array.mem_of_getElem? hci)
   simpa using this
  have F9:=yfU [(_,_),(_,_)] F (fC m1 (fC m2 fN))
  simp only [List.foldr_cons,List.foldr_nil] at F9
  have hi3:i<3:=by have:=(Array.getElem?_eq_some_iff.mp hci).1;omega
  have v3:v<1000:=by
   rcases (by omega:i=0∨i=1∨i=2) with rfl|rfl|rfl<;>simp at v1<;>omega
  clear F F4 N4
  refine hGG ?_;clear hGG GG
  k_steps
  refine ⟨_,_,_,_,rfl,by assumption,by assumption,.head _,[(D1,listOf (yaq t1).toArray 0)],?_,10 * v+(x:Int) - 48,_,rfl,rfl,by omega,?_,?_,rfl⟩
  ·exact fC ⟨.tail _ (.head _),ne _ (.head _)⟩ fN
  ·rw [Int.pow_succ];omega
  ·rw [List.take_add_one,show (Txt.slice c (some 2) none).cps.toList[i]? = some x by rw [Array.getElem?_toList];exact hci]
   unfold yj7 at v2 ⊢
   rw [Option.toList_some,List.foldl_append,<-v2]
   rfl
 case done=>
  intro m₁ nx h tk hJ F N
  refine yab λGG hGG=>?_
  obtain ⟨v,tv,m1,m2,v0,v1,v2,rfl⟩:=hJ
  have F9:=yfU [(_,_),(_,_)] F (fC m1 (fC m2 fN))
  simp only [List.foldr_cons,List.foldr_nil] at F9
  have v4:v=f:=by rw [v2,List.take_of_length_le (by simp),hk1]
  subst v4
  have v5:v<=1000:=by
   rcases (by omega:(Txt.slice c (some 2) none).cps.size=0∨(Txt.slice c (some 2) none).cps.size=1∨(Txt.slice c (some 2) none).cps.size=2∨(Txt.slice c (some 2) none).cps.size=3) with e|e|e|e<;>rw [e] at v1<;>simp at v1<;>omega
  clear F F4 N4
  refine hGG ?_;clear hGG GG
  (try dsimp only)
  repeat' ((fail_if_success (with_reducible show wpAny _ _ (call (Value.ref 65) _) _ _ _));first|(k_unfold;(try dsimp only))|walk1|(dsimp only;walk1)|(leave1;(try dsimp only)))
  refine' yie (by omega) (by omega) B' (by k_asm) (by k_asm) XB TB rfl rfl (Nat.le_of_ble_eq_true rfl) (Nat.le_of_ble_eq_true rfl) ?_
  intro u2 h2 tk2 F2 N2
  clear F9 N
  k_steps
  ·exact hret _ _ _ (yaN kp' (by assumption) (by assumption) fN)
  ·have hf0:v=0:=by
    have:=hk5.symm.trans (by assumption)
    simpa using this
   subst hf0
   exact hret _ _ _ (yaN kp' (by assumption) (by assumption) fN)
theorem ygh {f:Int} {u:Tok} (hm:f∈([0,5,1,16,21,30,200,255,8,20,19]:List Int)) (H:HOk A.handled s.heap) (St0:Std w mean mg mb base (env::outer) s.heap) (hf:A.frames=some (env::outer)) (hdp:A.depth<=580) (hun:A.units<=2800)
  (hret:∀u h' tk',ybK [] s.heap h' []->Q (.int f u) {s with heap:=h',toks:=tk'}) :
  wpAny (MM w) A (call (.ref 58) [.str (yaj f) u]) Q E s:=by
 simp only [List.mem_cons,List.not_mem_nil,or_false] at hm
 rcases hm with rfl|rfl|rfl|rfl|rfl|rfl|rfl|rfl|rfl|rfl|rfl
 ·exact yeF (c:=Str.ofString "") (f:=0) H (.inr (.inr (.inr ⟨rfl,rfl⟩))) St0 hf hdp hun hret
 ·exact ya4 (c:=Str.ofString "FC") (j:=4) (by decide) rfl (by decide +kernel) St0 hf hdp hun hret
 ·exact ya4 (c:=Str.ofString "NF") (j:=0) (by decide) rfl (by decide +kernel) St0 hf hdp hun hret
 ·exact ya4 (c:=Str.ofString "ST") (j:=15) (by decide) rfl (by decide +kernel) St0 hf hdp hun hret
 ·exact ya4 (c:=Str.ofString "UE") (j:=20) (by decide) rfl (by decide +kernel) St0 hf hdp hun hret
 ·exact yeF (c:=Str.ofString "UE30") (f:=30) H (.inl ⟨rfl,rfl⟩) St0 hf hdp hun hret
 ·exact yeF (c:=Str.ofString "UE200") (f:=200) H (.inr (.inl ⟨rfl,rfl⟩)) St0 hf hdp hun hret
 ·exact yeF (c:=Str.ofString "UE255") (f:=255) H (.inr (.inr (.inl ⟨rfl,rfl⟩))) St0 hf hdp hun hret
 ·exact ya4 (c:=Str.ofString "UL") (j:=7) (by decide) rfl (by decide +kernel) St0 hf hdp hun hret
 ·exact ya4 (c:=Str.ofString "RW") (j:=19) (by decide) rfl (by decide +kernel) St0 hf hdp hun hret
 ·exact ya4 (c:=Str.ofString "NR") (j:=18) (by decide) rfl (by decide +kernel) St0 hf hdp hun hret
end
structure yaL where
 hnd:Int
 on:Bool
 num:Int
 el:Int
 fa:Int
inductive Out where
 | go (goal:Int) (σ:yaL)
 | bad (f:Int) (σ:yaL)
noncomputable abbrev yao:=List (Int × Int)
noncomputable def lk (sp:yao) (k:Int):Option Int:=(sp.find? λx=>decide (x.1=k)).map (·.2)
noncomputable def yaA (sp:yao) (nr at_:Int) (st:St) (σ:yaL):Out:=match st with
 | .rem=>.go (at_+1) σ
 | .fin=>.go nr {σ with on:=false}
 | .error n=>.bad (if 0<n/\n<256 then n else 5) σ
 | .onerr k=>if k=5 then .bad 8 σ else if k=0/\σ.on=true then .bad σ.num {σ with hnd:=0} else .go (at_+1) {σ with hnd:=k}
 | .inner _=>.bad 20 σ
 | .resume h=>if σ.on=false then .bad 20 σ else match h with
  | .none=>.go σ.fa {σ with on:=false}
  | .next=>.go (σ.fa+1) {σ with on:=false}
  | .line k=>if k=5 then .bad 8 σ else .go ((lk sp k).getD 0) {σ with on:=false}
noncomputable def ylI (sp:yao) (at_ line f:Int) (σ:yaL):Out:=
 if σ.hnd=0∨σ.on=true then .bad f σ else .go ((lk sp σ.hnd).getD 0) {hnd:=σ.hnd,on:=true,num:=f,el:=line,fa:=at_}
noncomputable def step (sp:yao) (nr at_ line:Int) (st:St) (σ:yaL):Out:=match yaA sp nr at_ st σ with
 | .go g σ=>.go g σ
 | .bad f σ=>ylI sp at_ line f σ
inductive SpotsAre:List (Int × Value)->yao->Prop
 | nil:SpotsAre [] []
 | cons {k i:Int} {t:Tok} {kvs:List (Int × Value)} {sp:yao}:SpotsAre kvs sp->SpotsAre ((k,.int i t)::kvs) ((k,i)::sp)
set_option tactic.hygienic true in
theorem SpotsAre.at {kvs:List (Int × Value)} {sp:yao} (h:SpotsAre kvs sp) (k:Int):match lk sp k with|some i=>∃t,valueAt kvs k=some (.int i t)|none=>valueAt kvs k=none:=by
 induction h with
 | nil=>rfl
 | cons hr ih=>
  rename_i k' i t kvs sp
  unfold lk valueAt at *
  simp only [List.find?_cons]
  by_cases q:k'=k
  ·simp [q]
  ·simp only [q,decide_false]
   exact ih
theorem SpotsAre.some {kvs:List (Int × Value)} {sp:yao} {k i:Int} (h:SpotsAre kvs sp) (e:lk sp k=some i):∃t,valueAt kvs k=some (.int i t):=by have:=h.at k;rw [e] at this;exact this
theorem SpotsAre.none {kvs:List (Int × Value)} {sp:yao} {k:Int} (h:SpotsAre kvs sp) (e:lk sp k=none):valueAt kvs k=none:=by have:=h.at k;rw [e] at this;exact this
structure MOk (sp:yao) (nr:Int) (σ:yaL):Prop where
 hnd:σ.hnd=0∨∃i,lk sp σ.hnd=some i/\0<=i/\i<nr
 fa:σ.on=true->0<=σ.fa/\σ.fa<nr
 num:σ.num∈([0,5,1,16,21,30,200,255,8,20]:List Int)
 pos:σ.on=true->σ.num≠0
noncomputable def yj8 (sp:yao) (nr:Int):How->Prop
 | .line k=>k=5∨∃i,lk sp k=some i/\0<=i/\i<nr
 | _=>True
noncomputable def yeG (sp:yao) (nr:Int):St->Prop
 | .error n=>n∈([5,1,16,21,30,200,255,0,256]:List Int)
 | .onerr k=>k=5∨k=0∨∃i,lk sp k=some i/\0<=i/\i<nr
 | .resume h=>yj8 sp nr h
 | .inner h=>yj8 sp nr h
 | _=>True
noncomputable abbrev yjl (oD:Obj) (f:Int):Prop:=∃tc v,NsObj oD (λy=>if y=Str.ofString "told" then some v else if y=Str.ofString "code" then some (.str (yaj f) tc) else none)/\((∃t,v = .str (Str.ofString "") t)∨(f=8/\∃k t,v = .int k t))
noncomputable abbrev PP:Program:=PySem.Challenge.rw_pf0025_01.row.prog
noncomputable def yb2 (W WD FL FD RW PL R RD CT CD:Addr) (w:World) (rvs:List Value) (sp:yao) (σ:yaL) (gl:List (Addr × Obj)):Prop:=
 ∃wes res fes ces wn rn fn cn lw kvs po th te tc tf tb td,gl=yl1 W WD R RD FL FD RW PL CT CD wes res fes ces wn rn fn cn lw rvs po /\
  Has wes [(Str.ofString "handler",.int σ.hnd th),(Str.ofString "is_handling",.bool σ.on),(Str.ofString "error_line",.int σ.el te),(Str.ofString "error_code",.str (yaj σ.num) tc)] /\
  Has res [(Str.ofString "world",.ref W),(Str.ofString "flat",.ref FL),(Str.ofString "control",.ref CT),(Str.ofString "bits",.int 16 tb),(Str.ofString "digits",.int 9 td)] /\
  Has fes [(Str.ofString "rows",.ref RW),(Str.ofString "places",.ref PL)]/\Has ces [(Str.ofString "failed_at",.int σ.fa tf)]/\po.IsDictOf (PySem.intKind PP w) kvs/\SpotsAre kvs sp
noncomputable def RowsAre (tl:List (Addr × Obj)) (rvs:List Value) (rows:List (Int × St)):Prop:=
 rvs.length=rows.length/\∀(i:Nat) (x:Int × St),rows[i]? = some x->∃a b n tk,rvs[i]? = some (Value.ref a)/\(a,yal [.int x.1 tk,.ref b] n)∈tl/\DatIn tl (.ref b) x.2.dat
theorem ypK {tl:List (Addr × Obj)} {vs:List Value} {d:Dat} (h:DatAll tl vs [d]):∃v,vs = [v]/\DatIn tl v d:=by
 cases h with|cons h r=>cases r;exact ⟨_,rfl,h⟩
theorem yj9 {tl:List (Addr × Obj)} {vs:List Value} {d d2:Dat} (h:DatAll tl vs [d,d2]):∃v v2,vs = [v,v2]/\DatIn tl v d/\DatIn tl v2 d2:=by
 cases h with|cons h r=>obtain ⟨v,rfl,h2⟩:=ypK r;exact ⟨_,_,rfl,h,h2⟩
theorem ybz {tl:List (Addr × Obj)} {b:Addr} {ds:List Dat} (h:DatIn tl (.ref b) (.tuple ds)):∃vs n,(b,yal vs n)∈tl/\DatAll tl vs ds:=by
 cases h with|tuple h r=>exact ⟨_,_,h,r⟩
theorem ybG {tl:List (Addr × Obj)} {v:Value} {x:Str} (h:DatIn tl v (.str x)):∃t,v = .str x t:=by cases h;exact ⟨_,rfl⟩
theorem ycp {tl:List (Addr × Obj)} {v:Value} {x:Int} (h:DatIn tl v (.int x)):∃t,v = .int x t:=by cases h;exact ⟨_,rfl⟩
theorem ygi {tl:List (Addr × Obj)} {v:Value} (h:DatIn tl v .none):v = .none:=by cases h;rfl
theorem ybO {tl:List (Addr × Obj)} {b:Addr} {k:Int} (h:DatIn tl (.ref b) (St.error k).dat):∃t1 c n t2 t3 n2,(b,yal [.str (Str.ofString "ERROR") t1,.ref c] n)∈tl/\(c,yal [.str (Str.ofString "whole") t2,.int k t3] n2)∈tl:=by
 refine yab λGG hGG=>?_
 obtain ⟨vs,n,hm,ha⟩:=ybz h
 obtain ⟨v,v2,rfl,h1,h2⟩:=yj9 ha
 obtain ⟨t1,rfl⟩:=ybG h1
 refine hGG ?_;clear hGG GG
 cases h2 with
 | tuple hm2 r=>
  obtain ⟨v3,v4,rfl,h3,h4⟩:=yj9 r
  obtain ⟨t2,rfl⟩:=ybG h3
  obtain ⟨t3,rfl⟩:=ycp h4
  exact ⟨_,_,_,_,_,_,hm,hm2⟩
theorem ygj {tl:List (Addr × Obj)} {b:Addr} (h:DatIn tl (.ref b) St.rem.dat):∃t1 t2 n,(b,yal [.str (Str.ofString "REM") t1,.str (Str.ofString "x") t2] n)∈tl:=by
 refine yab λGG hGG=>?_
 obtain ⟨vs,n,hm,ha⟩:=ybz h
 obtain ⟨v,v2,rfl,h1,h2⟩:=yj9 ha
 obtain ⟨t1,rfl⟩:=ybG h1
 obtain ⟨t2,rfl⟩:=ybG h2
 refine hGG ?_;clear hGG GG
 exact ⟨_,_,_,hm⟩
theorem ygk {tl:List (Addr × Obj)} {b:Addr} (h:DatIn tl (.ref b) St.fin.dat):∃t1 n,(b,yal [.str (Str.ofString "END") t1] n)∈tl:=by
 refine yab λGG hGG=>?_
 obtain ⟨vs,n,hm,ha⟩:=ybz h
 obtain ⟨v,rfl,h1⟩:=ypK ha
 obtain ⟨t1,rfl⟩:=ybG h1
 refine hGG ?_;clear hGG GG
 exact ⟨_,_,hm⟩
theorem ya2 {tl:List (Addr × Obj)} {b:Addr} {k:Int} (h:DatIn tl (.ref b) (St.onerr k).dat):∃t1 t2 n,(b,yal [.str (Str.ofString "ONERR") t1,.int k t2] n)∈tl:=by
 refine yab λGG hGG=>?_
 obtain ⟨vs,n,hm,ha⟩:=ybz h
 obtain ⟨v,v2,rfl,h1,h2⟩:=yj9 ha
 obtain ⟨t1,rfl⟩:=ybG h1
 obtain ⟨t2,rfl⟩:=ycp h2
 refine hGG ?_;clear hGG GG
 exact ⟨_,_,_,hm⟩
theorem yaF {tl:List (Addr × Obj)} {b:Addr} {o:How} (h:DatIn tl (.ref b) (St.resume o).dat):∃t1 v n,(b,yal [.str (Str.ofString "RESUME") t1,v] n)∈tl/\DatIn tl v o.dat:=by
 refine yab λGG hGG=>?_
 obtain ⟨vs,n,hm,ha⟩:=ybz h
 obtain ⟨v,v2,rfl,h1,h2⟩:=yj9 ha
 obtain ⟨t1,rfl⟩:=ybG h1
 refine hGG ?_;clear hGG GG
 exact ⟨_,_,_,hm,h2⟩
theorem yc9 {tl:List (Addr × Obj)} {b:Addr} {o:How} (h:DatIn tl (.ref b) (St.inner o).dat):∃t1 v n,(b,yal [.str (Str.ofString "INNER") t1,v] n)∈tl/\DatIn tl v o.dat:=by
 refine yab λGG hGG=>?_
 obtain ⟨vs,n,hm,ha⟩:=ybz h
 obtain ⟨v,v2,rfl,h1,h2⟩:=yj9 ha
 obtain ⟨t1,rfl⟩:=ybG h1
 refine hGG ?_;clear hGG GG
 exact ⟨_,_,_,hm,h2⟩
theorem yd8 {tl:List (Addr × Obj)} {b:Addr} {st:St} (h:DatIn tl (.ref b) st.dat):∃x t r n,(b,yal (.str x t::r) n)∈tl/\x∈[Str.ofString "ERROR",Str.ofString "REM",Str.ofString "ONERR",Str.ofString "RESUME",Str.ofString "INNER",Str.ofString "END"]:=by
 cases st with
 | error k=>obtain ⟨t1,c,n,_,_,_,h1,_⟩:=ybO h;exact ⟨_,_,_,_,h1,by simp⟩
 | rem=>obtain ⟨t1,t2,n,h1⟩:=ygj h;exact ⟨_,_,_,_,h1,by simp⟩
 | onerr k=>obtain ⟨t1,t2,n,h1⟩:=ya2 h;exact ⟨_,_,_,_,h1,by simp⟩
 | resume o=>obtain ⟨t1,v,n,h1,_⟩:=yaF h;exact ⟨_,_,_,_,h1,by simp⟩
 | inner o=>obtain ⟨t1,v,n,h1,_⟩:=yc9 h;exact ⟨_,_,_,_,h1,by simp⟩
 | fin=>obtain ⟨t1,n,h1⟩:=ygk h;exact ⟨_,_,_,_,h1,by simp⟩
structure yif (base:Heap) (l:List Env) (ex:List (Addr × Obj)) (h h':Heap) (e:Addr) (f:Int) (post:List (Addr × Obj)):Prop where
 there:∃D oD,yjl oD f/\(∀p∈ex,p.1≠D)/\yl2 base l (ex.map (·.1)) h h' e (some D) ((D,oD)::post)
section
variable {A₀:Around} {base h₀ g h h' hs:Heap} {l outer:List Env} {L a e D:Addr} {m:Str->Option Value} {news rest post r1:List (Addr × Obj)} {exo:List (Addr × Obj)} {cn:Str} {cs:Scope} {ccd a0:Value} {oD:Obj} {f:Int}
theorem yda (kp:ycO (exo.map (·.1)) hs g) (gs:∀b o,g.get? b=some o->hs.get? b=some o) (told:yjl oD f) (R:RaisedX base g l e (.ref 41) a0 (some D) rest h') (sub:∀p∈(D,oD)::post,p∈rest) (ne:∀p∈exo,p.1≠D):yif base l exo hs h' e f post:=
 ⟨D,oD,told,ne,⟨g,a0,kp,gs,R.sub sub⟩⟩
end
section
variable {w:World} {mean:ExcName->Option Value} {mg mb:Str->Option Value} {base h₀:Heap} {env:Env} {outer:List Env} {A A₀:Around} {s:Shared} {Q E:Value->Shared->Prop} {L a:Addr} {m:Str->Option Value} {cn:Str} {cs:Scope} {ccd:Value} {news rest:List (Addr × Obj)}
end
theorem ybP {h₀ h h':Heap} {L:Addr} {m:Str->Option Value} {news exo:List (Addr × Obj)} (F:Fr h₀ L h m) (N:News h₀ L h news) (D:∀p∈exo,p∈news) (P:ybK (exo.map (·.1)) h h' exo):Fr h₀ L h' m/\News h₀ L h' news:=by
 have nx:∀b,(h₀.get? b≠none∨b=L)->b ∉ exo.map (·.1):=λb hb z=>by
  refine yab λGG hGG=>?_
  obtain ⟨q,hq,rfl⟩:=List.mem_map.mp z
  rcases hb with hb|hb
  ·refine hGG ?_;clear hGG GG
   exact hb (N q (D q hq)).2.2
  ·refine hGG ?_;clear hGG GG
   exact (N q (D q hq)).2.1 hb
 refine yab λGG hGG=>?_
 obtain ⟨oL,es,ep,hL,r⟩:=F.ns
 refine hGG ?_;clear hGG GG
 refine ⟨⟨⟨oL,es,ep,P.kept _ _ hL (nx _ (.inr rfl)),r⟩,λb o e=>P.kept b o (F.keep b o e) (nx b (.inl (by rw [e];simp))),F.above⟩,λp hp=>⟨?_,(N p hp).2⟩⟩
 by_cases z:p.1∈exo.map (·.1)
 ·obtain ⟨q,hq,e⟩:=List.mem_map.mp z
  have h1:=P.get q hq
  have h2:=(N q (D q hq)).1
  rw [e,(N p hp).1] at h2
  rw [e] at h1
  rw [h1,<-h2]
 ·exact P.kept _ _ (N p hp).1 z
section
variable {sp:yao} {nr at_ line g f:Int} {st:St} {σ σ':yaL}
theorem ydF:∀k∈([5,1,16,21,30,200,255,0,256]:List Int),(if 0<k/\k<256 then k else 5)∈([0,5,1,16,21,30,200,255,8,20]:List Int)/\0<(if 0<k/\k<256 then k else 5):=by decide
theorem ydG:∀k∈([0,5,1,16,21,30,200,255,8,20]:List Int),k≠0->0<k:=by decide
noncomputable def yd9 (sp:yao) (nr at_:Int) (σ:yaL):Out->Prop
 | .bad f σ'=>f∈([0,5,1,16,21,30,200,255,8,20]:List Int)/\0<f/\σ'.num=σ.num/\σ'.on=σ.on/\(σ'.hnd=0∨∃i,lk sp σ'.hnd=some i/\0<=i/\i<nr)
 | .go g σ'=>0<=at_->at_<nr->MOk sp nr σ'/\0<=g/\g<=nr
theorem yeH {p:Prop} [Decidable p] {a b:Out} (ha:p->yd9 sp nr at_ σ a) (hb:¬p->yd9 sp nr at_ σ b):yd9 sp nr at_ σ (if p then a else b):=by
 split
 ·exact ha ‹_›
 ·exact hb ‹_›
theorem ydH (M:MOk sp nr σ) (ok:yeG sp nr st):yd9 sp nr at_ σ (yaA sp nr at_ st σ):=by
 have h8:yd9 sp nr at_ σ (.bad 8 σ):=⟨by decide,by decide,rfl,rfl,M.hnd⟩
 have h20:yd9 sp nr at_ σ (.bad 20 σ):=⟨by decide,by decide,rfl,rfl,M.hnd⟩
 have off:MOk sp nr {σ with on:=false}:=⟨M.hnd,λz=>(nomatch z),M.num,λz=>(nomatch z)⟩
 rcases st with k|_|k|o|o|_
 ·exact ⟨(ydF k ok).1,(ydF k ok).2,rfl,rfl,M.hnd⟩
 ·exact λa0 a1=>⟨M,Int.le_add_one a0,Int.add_one_le_of_lt a1⟩
 ·exact yeH (λ_=>h8) λh5=>yeH (λq=>⟨M.num,ydG _ M.num (M.pos q.2),rfl,rfl,.inl rfl⟩) λ_ a0 a1=>⟨⟨Or.resolve_left ok h5,M.fa,M.num,M.pos⟩,Int.le_add_one a0,Int.add_one_le_of_lt a1⟩
 ·refine yeH (λ_=>h20) λhon=>?_
  obtain ⟨f0,f1⟩:=M.fa (Bool.not_eq_false _▸hon)
  rcases o with _|_|k
  ·exact λ_ _=>⟨off,f0,Int.le_of_lt f1⟩
  ·exact λ_ _=>⟨off,Int.le_add_one f0,Int.add_one_le_of_lt f1⟩
  ·refine yeH (λ_=>h8) λh5=>?_
   refine yab λGG hGG=>?_
   obtain ⟨i,hi,i0,i1⟩:=Or.resolve_left ok h5
   refine hGG ?_;clear hGG GG
   show yd9 sp nr at_ σ (.go ((lk sp k).getD 0) _)
   rw [hi]
   exact λ_ _=>⟨off,i0,Int.le_of_lt i1⟩
 ·exact h20
 ·exact λa0 a1=>⟨off,Int.le_of_lt (Int.lt_of_le_of_lt a0 a1),Int.le_refl _⟩
theorem ygl (M:MOk sp nr σ) (ok:yeG sp nr st) (a0:0<=at_) (a1:at_<nr) (e:step sp nr at_ line st σ = .go g σ'):MOk sp nr σ'/\0<=g/\g<=nr:=by
 have h:=ydH (at_:=at_) M ok
 unfold step at e
 generalize yaA sp nr at_ st σ=o at h e
 refine yab λGG hGG=>?_
 rcases o with ⟨g1,σ1⟩|⟨f1,σ1⟩
 ·cases e;refine hGG ?_;clear hGG GG;exact h a0 a1
 ·replace e:ylI sp at_ line f1 σ1 = .go g σ':=e
  unfold ylI at e
  obtain ⟨h1,h2,_,_,h3⟩:=h
  refine hGG ?_;clear hGG GG
  by_cases z:σ1.hnd=0∨σ1.on=true
  ·rw [if_pos z] at e;cases e
  ·refine yab λGG hGG=>?_
   obtain ⟨i,hi,i0,i1⟩:=h3.resolve_left λq=>z (.inl q)
   rw [if_neg z,hi] at e
   cases e
   refine hGG ?_;clear hGG GG
   exact ⟨⟨.inr ⟨i,hi,i0,i1⟩,λ_=>⟨a0,a1⟩,h1,λ_ q=>absurd q (Int.ne_of_gt h2)⟩,i0,Int.le_of_lt i1⟩
theorem ycR (M:MOk sp nr σ) (ok:yeG sp nr st) (e1:yaA sp nr at_ st σ = .bad f σ'):f∈([0,5,1,16,21,30,200,255,8,20,19]:List Int)/\0<f/\σ'.num=σ.num/\σ'.on=σ.on/\(σ'.hnd=0∨∃i,lk sp σ'.hnd=some i/\0<=i/\i<nr):=by
 have h:=ydH (at_:=at_) M ok
 rw [e1] at h
 exact ⟨List.mem_append_left [19] h.1,h.2⟩
set_option tactic.hygienic true in
theorem yig (M:MOk sp nr σ) (ok:yeG sp nr st) (e:step sp nr at_ line st σ = .bad f σ'):f∈([0,5,1,16,21,30,200,255,8,20,19]:List Int)/\σ'.num∈([0,5,1,16,21,30,200,255,8,20]:List Int):=by
 simp only [step] at e
 split at e
 ·cases e
 ·rename_i f1 σ1 e1
  simp only [ylI] at e
  split at e
  ·refine yab λGG hGG=>?_
   cases e
   obtain ⟨h1,_,h2,_⟩:=ycR M ok e1
   refine hGG ?_;clear hGG GG
   exact ⟨h1,h2▸M.num⟩
  ·cases e
end
noncomputable abbrev yb9:=Int × Int × Int × Int × Int × Bool × Int
noncomputable def yaT (x:yb9):Dat:=.tuple [.int x.1,.int x.2.1,.int x.2.2.1,.int x.2.2.2.1,.int x.2.2.2.2.1,.bool x.2.2.2.2.2.1,.int x.2.2.2.2.2.2]
noncomputable def yaG (told:List yb9) (f:Int) (on:Bool) (num:Int):Dat:=.tuple [.list (told.map yaT),.int f,.bool on,.int num]
noncomputable def ycS (rows:List (Int × St)) (at_:Int):Int × St:=rows.getD at_.toNat (0,.rem)
noncomputable def ybc (sp:yao) (rows:List (Int × St)):Nat->Int->yaL->List yb9->Dat
 | 0,at_,σ,told=>yaG told (if (rows.length:Int)<=at_/\σ.on=true then 19 else 0) σ.on σ.num
 | k+1,at_,σ,told=>
  if (rows.length:Int)<=at_ then yaG told (if (rows.length:Int)<=at_/\σ.on=true then 19 else 0) σ.on σ.num else
  match step sp rows.length at_ (ycS rows at_).1 (ycS rows at_).2 σ with
  | .go g σ'=>ybc sp rows k g σ' (told ++ [(at_,g,σ'.num,σ'.el,σ'.fa,σ'.on,σ'.hnd)])
  | .bad f σ'=>yaG told f σ'.on σ'.num
theorem ych {sp:yao} {rows:List (Int × St)} {k:Nat} {at_:Int} {σ:yaL} {told:List yb9} (h:k=0∨(rows.length:Int)<=at_):ybc sp rows k at_ σ told=yaG told (if (rows.length:Int)<=at_/\σ.on=true then 19 else 0) σ.on σ.num:=by
 cases k with
 | zero=>rfl
 | succ k=>
       rcases h with h|h
       ·cases h
       ·simp only [ybc];rw [if_pos h]
theorem ygm {sp:yao} {rows:List (Int × St)} {k:Nat} {at_ g line:Int} {st:St} {σ σ':yaL} {told:List yb9} (h:at_<(rows.length:Int)) (hr:rows[at_.toNat]? = some (line,st)) (e:step sp rows.length at_ line st σ = .go g σ') :
  ybc sp rows (k+1) at_ σ told=ybc sp rows k g σ' (told ++ [(at_,g,σ'.num,σ'.el,σ'.fa,σ'.on,σ'.hnd)]):=by
 have hR:ycS rows at_=(line,st):=by simp [ycS,List.getD_eq_getElem?_getD,hr]
 simp only [ybc]
 rw [if_neg (by omega),hR]
 dsimp only
 rw [e]
theorem ybA {sp:yao} {rows:List (Int × St)} {k:Nat} {at_ f line:Int} {st:St} {σ σ':yaL} {told:List yb9} (h:at_<(rows.length:Int)) (hr:rows[at_.toNat]? = some (line,st)) (e:step sp rows.length at_ line st σ = .bad f σ') :
  ybc sp rows (k+1) at_ σ told=yaG told f σ'.on σ'.num:=by
 have hR:ycS rows at_=(line,st):=by simp [ycS,List.getD_eq_getElem?_getD,hr]
 simp only [ybc]
 rw [if_neg (by omega),hR]
 dsimp only
 rw [e]
noncomputable abbrev σ0:yaL:=⟨0,false,0,0,-1⟩
noncomputable def ysb (p:Prop):Prop:=p
theorem hold {p:Prop} (h:ysb p):p:=h
noncomputable def ysc (I:Nat->Shared->Prop) (n:Nat) (s₃:Shared):Prop:=∃n',n'<n/\I n' s₃
noncomputable def yaW (I:Nat->Shared->Prop) (n:Nat) (Q:Flow->Shared->Prop) (f:Flow) (s₃:Shared):Prop:=match f with
 | .ret v=>Q (.ret v) s₃
 | .brk=>Q .next s₃
 | _=>ysc I n s₃
section
variable {prog:Program} {w:World} {A:Around} {E:Value->Shared->Prop} {s:Shared} {env:Env} {test:PySem.Expr} {body:List Stmt} {Q:Flow->Shared->Prop} {pos:Pos}
noncomputable def ygn (prog:Program) (w:World) (A:Around) (E:Value->Shared->Prop) (env:Env) (test:PySem.Expr) (body:List Stmt) (pos:Pos) (Q:Flow->Shared->Prop) (s:Shared):Prop:=wpAny (model prog w) A (exec (.While test body [] pos) env) Q E s
theorem yb3 (h:ygn prog w A E env test body pos Q s):wpAny (model prog w) A (exec (.While test body [] pos) env) Q E s:=h
theorem ydb {n₀:Nat} (I:Nat->Shared->Prop) (h0:I n₀ s)
  (turn:∀n s',I n s'->wpAny (model prog w) A (isTrue test env (eval test env)) (λb s₂=>WhlIf b (wpAny (model prog w) A (execs body env) (yaW I n Q) E s₂) (Q .next s₂)) E s')
  (hE:PassesOwn (model prog w) A env E):ygn prog w A E env test body pos Q s:=by
 refine wpAny_While (codeAny_whileLoop I ?_ n₀ h0)
 intro n s' h
 refine wpAny_mono (turn n s' h) (λb s₂ h₂=>?_) hE
 cases b with
 | false=>
  simp only [WhlIf,Bool.false_eq_true,if_false] at h₂ ⊢
  exact wpAny_execs_nil h₂
 | true=>
  simp only [WhlIf,if_true] at h₂ ⊢
  refine wpAny_mono h₂ (λf s₃ h₃=>?_) hE
  cases f with
  | next=>exact h₃
  | cont=>exact h₃
  | brk=>exact h₃
  | ret v=>exact h₃
end
noncomputable def yak (p:ybM):List (Int × St):=p.flatMap λx=>x.2.map λt=>(x.1,t)
noncomputable def yam:Nat->ybM->yao
 | _,[]=>[]
 | k,x::r=>(x.1,(k:Int))::yam (k+x.2.length) r
theorem ybk (p q:ybM):yak (p++q)=yak p++yak q:=List.flatMap_append
theorem yfi (x:Int × List St):yak [x]=x.2.map λt=>(x.1,t):=by simp [yak]
theorem ycJ (k:Nat) (p q:ybM):yam k (p++q)=yam k p++yam (k+(yak p).length) q:=by
 induction p generalizing k with
 | nil=>simp [yam,yak]
 | cons x r ih=>
  have:(yak (x::r)).length=x.2.length+(yak r).length:=by simp [yak]
  simp only [List.cons_append,yam,ih,this,Nat.add_assoc]
theorem yaO (k:Nat) (p:ybM):(yam k p).map (·.1)=p.map (·.1):=by
 induction p generalizing k with
 | nil=>rfl
 | cons x r ih=>simp only [yam,List.map_cons,ih]
theorem yea {sp:yao} {k:Int} (h:k ∉ sp.map (·.1)):lk sp k=none:=by
 unfold lk
 rw [List.find?_eq_none.mpr,Option.map_none]
 intro x hx q
 exact h (List.mem_map.mpr ⟨x,hx,by simpa using q⟩)
theorem yka {sp:yao} {k:Int} (h:k∈sp.map (·.1)):∃i,lk sp k=some i/\(k,i)∈sp:=by
 unfold lk
 cases e:sp.find? λx=>decide (x.1=k) with
 | none=>
  obtain ⟨x,hx,rfl⟩:=List.mem_map.mp h
  have:=List.find?_eq_none.mp e x hx
  simp at this
 | some x=>
  have h1:=List.find?_some e
  have h2:=List.mem_of_find?_eq_some e
  simp only [decide_eq_true_eq] at h1
  exact ⟨x.2,rfl,by rw [<-h1];exact h2⟩
theorem yeb {p:ybM} {k:Nat} {x:Int × Int} (hl:∀y∈p,1<=y.2.length) (h:x∈yam k p):(k:Int)<=x.2/\x.2<k+(yak p).length:=by
 induction p generalizing k with
 | nil=>cases h
 | cons y r ih=>
  have e:(yak (y::r)).length=y.2.length+(yak r).length:=by simp [yak]
  have l1:=hl y (.head _)
  rw [e]
  rcases List.mem_cons.mp h with rfl|h
  ·dsimp only;omega
  ·have:=ih (λz hz=>hl z (.tail _ hz)) h
   omega
theorem yfj {p:ybM} (hl:∀y∈p,y.2.length<=2):(yak p).length<=2 * p.length:=by
 induction p with
 | nil=>simp [yak]
 | cons y r ih=>
  have e:(yak (y::r)).length=y.2.length+(yak r).length:=by simp [yak]
  have l1:=hl y (.head _)
  have:=ih (λz hz=>hl z (.tail _ hz))
  rw [e,List.length_cons];omega
theorem yca {kvs:List (Int × Value)} {k:Int} {v:Value} (h:valueAt kvs k=none):valueAt (kvs ++ [(k,v)]) k=some v:=by
 unfold valueAt at *
 rw [List.find?_append]
 cases e:kvs.find? (λkv=>decide (kv.1=k)) with
 | none=>simp
 | some x=>rw [e] at h;simp at h
theorem SpotsAre.put {kvs:List (Int × Value)} {sp:yao} (h:SpotsAre kvs sp) (k i:Int) (t:Tok):SpotsAre (kvs ++ [(k,.int i t)]) (sp ++ [(k,i)]):=by
 induction h with
 | nil=>exact .cons .nil
 | cons _ ih=>exact .cons ih
theorem SpotsAre.length {kvs:List (Int × Value)} {sp:yao} (h:SpotsAre kvs sp):kvs.length=sp.length:=by
 induction h with
 | nil=>rfl
 | cons _ ih=>simp [ih]
theorem RowsAre.mono {tl tl':List (Addr × Obj)} {rvs:List Value} {rows:List (Int × St)} (h:RowsAre tl rvs rows) (s:∀p∈tl,p∈tl'):RowsAre tl' rvs rows:=
 ⟨h.1,λi x e=>by obtain ⟨a,b,n,tk,h1,h2,h3⟩:=h.2 i x e;exact ⟨a,b,n,tk,h1,s _ h2,h3.mono s⟩⟩
theorem RowsAre.put {tl:List (Addr × Obj)} {rvs:List Value} {rows:List (Int × St)} {a b:Addr} {n:Nat} {k:Int} {tk:Tok} {st:St} (h:RowsAre tl rvs rows) (h1:(a,yal [.int k tk,.ref b] n)∈tl) (h2:DatIn tl (.ref b) st.dat) :
  RowsAre tl (rvs ++ [.ref a]) (rows ++ [(k,st)]):=by
 refine ⟨by simp [h.1],λi x e=>?_⟩
 refine yab λGG hGG=>?_
 rcases Nat.lt_trichotomy i rows.length with q|q|q
 ·rw [List.getElem?_append_left q] at e
  obtain ⟨a',b',n',tk',e1,e2,e3⟩:=h.2 i x e
  refine hGG ?_;clear hGG GG
  exact ⟨a',b',n',tk',by rw [List.getElem?_append_left (by rw [h.1];exact q)];exact e1,e2,e3⟩
 ·rw [List.getElem?_append_right (by omega),q,Nat.sub_self] at e
  refine hGG ?_;clear hGG GG
  simp at e
  subst e
  refine ⟨a,b,n,tk,?_,h1,h2⟩
  rw [List.getElem?_append_right (by rw [h.1];omega),h.1,q,Nat.sub_self];rfl
 ·rw [List.getElem?_append_right (by omega)] at e
  have:i - rows.length ≥ 1:=by omega
  rw [List.getElem?_eq_none (by simp;omega)] at e
  cases e
theorem RowsAre.nil {tl:List (Addr × Obj)}:RowsAre tl [] []:=⟨rfl,λi x e=>by simp at e⟩
theorem Valid.sp {p:ybM} (V:Valid p):(∀k∈p.map (·.1),∃i,lk (yam 0 p) k=some i/\0<=i/\i<((yak p).length:Int))/\lk (yam 0 p) 5=none/\lk (yam 0 p) 0=none/\(yak p).length<=10/\p.length<=5:=by
 refine yab λGG hGG=>?_
 obtain ⟨n,n2,n5,hn⟩:=V.lines
 have hs:∀k∈p.map (·.1),k∈([10,20,30,40,50]:List Int):=λk hk=>by rw [hn] at hk;exact List.mem_of_mem_take hk
 have hl:p.length<=5:=by
  have:=congrArg List.length hn
  rw [List.length_map,List.length_take] at this
  simp at this;omega
 refine hGG ?_;clear hGG GG
 refine ⟨λk hk=>?_,yea ?_,yea ?_,?_,hl⟩
 ·obtain ⟨i,h1,h2⟩:=yka (sp:=yam 0 p) (k:=k) (by rw [yaO];exact hk)
  have:=yeb (λy hy=>(V.ok y hy).1) h2
  exact ⟨i,h1,by omega,by omega⟩
 ·rw [yaO];intro q;have:=hs _ q;revert this;decide
 ·rw [yaO];intro q;have:=hs _ q;revert this;decide
 ·have:=yfj (p:=p) (λy hy=>(V.ok y hy).2.1)
  omega
theorem yfk {p:ybM} {x:Int × St} (h:x∈yak p):∃y∈p,x.1=y.1/\x.2∈y.2:=by
 refine yab λGG hGG=>?_
 obtain ⟨y,hy,hx⟩:=List.mem_flatMap.mp h
 obtain ⟨t,ht,rfl⟩:=List.mem_map.mp hx
 refine hGG ?_;clear hGG GG
 exact ⟨y,hy,rfl,ht⟩
theorem Valid.st {p:ybM} (V:Valid p) {x:Int × St} (h:x∈yak p):yeG (yam 0 p) ((yak p).length:Int) x.2:=by
 refine yab λGG hGG=>?_
 obtain ⟨y,hy,_,ht⟩:=yfk h
 have ok:=(V.ok y hy).2.2 _ ht
 have sp:=V.sp.1
 have how:∀o:How,o.Ok (p.map (·.1))->yj8 (yam 0 p) ((yak p).length:Int) o:=λo ho=>by
  cases o with
  | none=>trivial
  | next=>trivial
  | line k=>exact ho.imp id (sp k)
 refine hGG ?_;clear hGG GG
 revert ok
 cases x.2 with
 | error n=>exact id
 | rem=>exact id
 | fin=>exact id
 | onerr k=>exact λok=>ok.imp id λz=>z.imp id (sp k)
 | resume o=>exact how o
 | inner o=>exact how o
theorem Valid.new {p:ybM} (V:Valid p) {i:Nat} {x:Int × List St} (e:p[i]? = some x):lk (yam 0 (p.take i)) x.1=none:=by
 refine yab λGG hGG=>?_
 obtain ⟨n,n2,n5,hn⟩:=V.lines
 refine hGG ?_;clear hGG GG
 refine yea ?_
 rw [yaO]
 have nd:(p.map (·.1)).Nodup:=by rw [hn];exact List.Nodup.sublist (List.take_sublist _ _) (by decide)
 intro q
 obtain ⟨hi,e2⟩:=List.getElem?_eq_some_iff.mp e
 rw [<-List.take_append_drop i p,List.map_append] at nd
 have h2:x.1∈(p.drop i).map (·.1):=List.mem_map.mpr ⟨x,List.mem_of_getElem? (i:=0) (by rw [List.getElem?_drop];exact e),rfl⟩
 exact (List.nodup_append.mp nd).2.2 _ q _ h2 rfl
noncomputable def yoE (W WD FL FD RW PL R RD CT CD:Addr) (w:World) (rvs:List Value) (sp:yao) (gl tl:List (Addr × Obj)) (h h':Heap) (σ:yaL):Prop:=
 ∃gl',yb2 W WD FL FD RW PL R RD CT CD w rvs sp σ gl'/\ybK ((gl++tl).map (·.1)) h h' (gl'++tl)
noncomputable def ylJ (W WD FL FD RW PL R RD CT CD:Addr) (w:World) (rvs:List Value) (sp:yao) (base:Heap) (l:List Env) (gl tl:List (Addr × Obj)) (h h':Heap) (e:Addr) (f:Int) (σ:yaL):Prop:=
 ∃gl',yb2 W WD FL FD RW PL R RD CT CD w rvs sp σ gl'/\yif base l (gl++tl) h h' e f (gl'++tl)
section
variable {w:World} {base g h hs:Heap} {l:List Env} {L D e:Addr} {m:Str->Option Value} {news rest:List (Addr × Obj)} {a0:Value} {oD:Obj} {f:Int}
variable {W WD FL FD RW PL R RD CT CD:Addr} {rvs:List Value} {sp:yao} {σ:yaL} {gl tl:List (Addr × Obj)} {wes res fes ces:List DictEntry} {wn rn fn cn lw:Nat} {kvs:List (Int × Value)} {po:Obj} {th te tc tf tb td:Tok}
end
section
variable {prog:Program} {w:World} {A:Around} {E:Value->Shared->Prop} {s:Shared} {h₀:Heap} {L d:Addr} {news:List (Addr × Obj)} {o:Obj} {kvs:List (Int × Value)} {k:Int} {t:Tok} {v:Value}
end
section
variable {prog:Program} {w:World} {A:Around} {E:Value->Shared->Prop} {s:Shared}
end
noncomputable def ydc (h₀:Heap) (L:Addr) (s:Shared) (all:List (Addr × Obj)) (J:(Str->Option Value)->Prop) (Q:Flow->Shared->Prop) (f:Flow) (s₃:Shared):Prop:=match f with
 | .ret v=>Q (.ret v) s₃
 | .brk=>Q .next s₃
 | _=>∃h tk m',s₃ = {s with heap:=h,toks:=tk}/\Fr h₀ L h m'/\News h₀ L h all/\J m'
theorem ykb {h₀:Heap} {L:Addr} {s s₁:Shared} {all its:List (Addr × Obj)} {J:(Str->Option Value)->Prop} {R:(Str->Option Value)->List (Addr × Obj)->Prop} {Q:Flow->Shared->Prop} {f:Flow} {s₃:Shared} (h:ydc h₀ L s all J Q f s₃)
  (k:∀h tk m',Fr h₀ L h m'->News h₀ L h all->J m'->UnrEndW h₀ L s₁ its R {s with heap:=h,toks:=tk}):UnrPostW h₀ L s₁ its R Q f s₃:=by
 refine yab λGG hGG=>?_
 rcases f with _|_|_|v
 ·obtain ⟨h,tk,m',rfl,a,b,c⟩:=h
  refine hGG ?_;clear hGG GG
  exact k h tk m' a b c
 ·refine hGG ?_;clear hGG GG
  exact h
 ·obtain ⟨h,tk,m',rfl,a,b,c⟩:=h
  refine hGG ?_;clear hGG GG
  exact k h tk m' a b c
 ·refine hGG ?_;clear hGG GG
  exact h
theorem ygo:∀{l all:List (Addr × Obj)},(∀p∈l,p∈all)->SubL l all
 | [],_,_=>trivial
 | p::r,_,h=>⟨h p (.head _),ygo λq hq=>h q (.tail _ hq)⟩
section
variable {prog:Program} {w:World} {A:Around} {E:Value->Shared->Prop} {s:Shared} {env:Env} {h₀:Heap} {body:List Stmt} {Q:Flow->Shared->Prop} {pos:Pos} {elts:List PySem.Expr} {k:Nat}
theorem ygp {target iter:PySem.Expr} {m:Str->Option Value} (F:Fr h₀ env.locals s.heap m)
  (h:wpAny (model prog w) A (eval iter env) (λxv s₁=>wpAny (model prog w) A (pyIter xv) (λit s₂=>TurnsAt prog w A h₀ env target body Q E it s₂) E s₁) E s)
  (hs:∀x,foldedSetIterable iter env x=pure x) (hE:PassesOwn (model prog w) A env E) :
  wpAny (model prog w) A (exec (.For target iter body [] pos) env) Q E s:=For_turns F h hs hE
theorem yfl {vs₀:List Value} {l I:Addr} {lo:Obj} {news:List (Addr × Obj)} (J:(Str->Option Value)->Prop) (hm:(l,lo)∈news) (hI:∀p∈news,p.1<I)
  (turn:∀v i m₁ h T t tk o1 o2,J m₁->IsTup h T #[.int i t,v]->Fr h₀ env.locals h m₁->News h₀ env.locals h ((I+1,o1)::(I,o2)::news)->v∈vs₀ ->
   wpAny (model prog w) A (assign (.Tuple elts k pos) env (.ref T)) (λ_ s₂=>wpAny (model prog w) A (execs body env) (ydc h₀ env.locals s ((I+1,o1)::(I,o2)::news) J Q) E s₂) E {s with heap:=h,toks:=tk})
  (done:∀m₁ h tk,J m₁->Fr h₀ env.locals h m₁->News h₀ env.locals h news->Q .next {s with heap:=h,toks:=tk}) :
  ∀(vs:List Value) (i:Nat) (m:Str->Option Value),(∀v∈vs,v∈vs₀)->J m->ItemsRest prog w A E h₀ env (.Tuple elts k pos) body Q s [(I+1, "enumerate"),(I, "list_iterator")] [(l,lo)] (enumItems i vs) m news:=by
 intro vs
 induction vs with
 | nil=>exact λi m _ j h tk F N=>done m h tk j F N
 | cons v r ih=>
  exact λi m hv j=>ItemsRest.pair λT t h tk hT F=>AllObj.cons λo1 c1=>AllObj.cons λo2 c2=>AllObj.nil λN=>
   wpAny_mono (turn v i m h T t tk o1 o2 j hT F N (hv _ (.head _))) (λ_ s₂ h₂=>wpAny_mono h₂ (λf s₃ h₃=>ykb h₃ λh₃' tk₃ m₃ F₃ N₃ j₃=>
    ⟨h₃',tk₃,m₃,news,rfl,F₃,N₃,λp hp=>fC (Nat.ne_of_lt (Nat.lt_succ_of_lt (hI p hp))) (fC (Nat.ne_of_lt (hI p hp)) fN),⟨hm,trivial⟩,ih (i+1) m₃ (λv hv'=>hv v (.tail _ hv')) j₃⟩) λ_ _ e=>e) λ_ _ e=>e
theorem yih {l:Addr} {lo:Obj} {vs:List Value} {n:Nat} {m₀:Str->Option Value} {news:List (Addr × Obj)} (J:(Str->Option Value)->Prop)
  (hh:A.handled=none) (F:Fr h₀ env.locals s.heap m₀) (N:News h₀ env.locals s.heap news) (hm:(l,lo)∈news) (hc:lo.cls = .type "list") (hd:lo.data = .seq vs.toArray n) (j0:J m₀)
  (turn:∀v i m₁ h T t tk I o1 o2,J m₁->IsTup h T #[.int i t,v]->Fr h₀ env.locals h m₁->News h₀ env.locals h ((I+1,o1)::(I,o2)::news)->v∈vs ->
   wpAny (model prog w) A (assign (.Tuple elts k pos) env (.ref T)) (λ_ s₂=>wpAny (model prog w) A (execs body env) (ydc h₀ env.locals s ((I+1,o1)::(I,o2)::news) J Q) E s₂) E {s with heap:=h,toks:=tk})
  (done:∀m₁ h tk,J m₁->Fr h₀ env.locals h m₁->News h₀ env.locals h news->Q .next {s with heap:=h,toks:=tk}) :
  wpAny (model prog w) A (call (.type "enumerate") [.ref l]) (λxv s₁=>wpAny (model prog w) A (pyIter xv) (λit s₂=>TurnsAt prog w A h₀ env (.Tuple elts k pos) body Q E it s₂) E s₁) E s:=
 ktu_enum hh F N hm hc hd rfl λI hI=>yfl J hm hI (λv i m₁ h T t tk o1 o2 j hT F N hv=>turn v i m₁ h T t tk I o1 o2 j hT F N hv) done vs 0 m₀ (λ_ h=>h) j0
end
theorem ydI {p:ybM} {i:Nat} {x:Int × List St} (e:p[i]? = some x):p.take (i+1)=p.take i ++ [x]:=by rw [List.take_add_one,e];rfl
theorem ycT {p:ybM} {i:Nat} {x:Int × List St} (e:p[i]? = some x):yam 0 (p.take (i+1))=yam 0 (p.take i) ++ [(x.1,((yak (p.take i)).length:Int))]:=by rw [ydI e,ycJ];simp [yam]
theorem ydJ {p:ybM} {i:Nat} {x:Int × List St} (e:p[i]? = some x):yak (p.take (i+1))=yak (p.take i)++x.2.map λt=>(x.1,t):=by rw [ydI e,ybk,yfi]
theorem ygq {tl:List (Addr × Obj)} {P:Addr} {p:ybM} (h:DatIn tl (.ref P) (ybj p)):∃xs n,(P,listOf xs.toArray n)∈tl/\DatAll tl xs (p.map yb0):=by
 cases h with|list h r=>exact ⟨_,_,h,r⟩
theorem ydd {tl:List (Addr × Obj)} {v:Value} {x:Int × List St} (h:DatIn tl v (yb0 x)):∃D S t n1 n2 ys,v = .ref D/\(D,yal [.int x.1 t,.ref S] n1)∈tl/\(S,listOf ys.toArray n2)∈tl/\DatAll tl ys (x.2.map St.dat):=by
 cases h with
 | tuple h r=>
  obtain ⟨v1,v2,rfl,h1,h2⟩:=yj9 r
  obtain ⟨t,rfl⟩:=ycp h1
  cases h2 with
  | list h2 r2=>exact ⟨_,_,_,_,_,_,rfl,h,h2,r2⟩
theorem ycq {tl:List (Addr × Obj)} {xs:List Value} {ds:List Dat} (h:DatAll tl xs ds) {i:Nat} {v:Value} (e:xs[i]? = some v):∃d,ds[i]? = some d/\DatIn tl v d:=by
 induction xs generalizing ds i with
 | nil=>cases e
 | cons x r ih=>
  cases h with
  | cons h r=>
   cases i with
   | zero=>cases e;exact ⟨_,rfl,h⟩
   | succ i=>exact ih r (show _=some v from e)
set_option genSizeOfSpec false
set_option genInjectivity false
theorem yaa {α:Type} {x:α} {p:Prop} (h:(none:Option α)=some x):p:=nomatch h
inductive Z where
 | v (i:Nat)
 | n (k:Int)
 | add (a b:Z)
 | sub (a b:Z)
inductive C where
 | v (i:Nat)
 | b (x:Bool)
 | lt (a b:Z)
 | le (a b:Z)
 | eq (a b:Z)
 | tq (i:Nat) (x:Str)
 | cod (i:Nat) (a:Z)
 | not (c:C)
inductive SV where
 | z (a:Z)
 | s (x:Str)
 | t (i:Nat)
 | b (c:C)
 | no
 | r (i:Nat)
 | q (i:Nat)
 | f (a:Addr)
 | bi (id:String)
 | u (i:Nat)
 | ty (id:String)
inductive SO where
 | inst (C:Addr) (d:Nat)
 | dct (ex:Bool) (fs:List (Str × SV))
 | tup (es:List SV)
 | pre (es:List SV)
 | lst (es:List SV)
 | vec (l:Nat) (n:Z) (kn:List (Z × SV)) (app:List SV)
 | map (i:Nat) (kn:List (Z × Option SV))
 | exc (d:Nat)
 | exd (code told:SV)
 | cgt (d t:Nat)
 | tb
 | cell (v:Option SV)
 | op (t j:Nat)
 | emp
 | any
structure SS where
 m:List (Str × SV)
 cl:List (Str × Nat)
 os:List SO
 qs:List SO
 pc:List C
 hx:Option Nat
structure Rho where
 z:List Int
 b:List Bool
 t:List Str
 q:List Addr
 l:List (List Value)
 u:List Value
 k:List (List (Int × Value))
noncomputable def two {α β γ:Type} (f:α->β->γ) (a:Option α) (b:Option β):Option γ:=a.bind λx=>b.map (f x)
noncomputable def codes:List Int:=[0,5,1,16,21,30,200,255,8,20,19]
noncomputable def Z.ev (z:List Int):Z->Option Int
 | .v i=>z[i]?
 | .n k=>some k
 | .add a b=>two (· + ·) (a.ev z) (b.ev z)
 | .sub a b=>two (· - ·) (a.ev z) (b.ev z)
noncomputable def C.ev (ρ:Rho):C->Option Bool
 | .v i=>ρ.b[i]?
 | .b x=>some x
 | .lt x y=>two (λx y=>decide (x<y)) (x.ev ρ.z) (y.ev ρ.z)
 | .le x y=>two (λx y=>decide (x<=y)) (x.ev ρ.z) (y.ev ρ.z)
 | .eq x y=>two (λx y=>decide (x=y)) (x.ev ρ.z) (y.ev ρ.z)
 | .tq i y=>ρ.t[i]?.map λx=>x==y
 | .cod i a=>two (λx k=>x==yaj k && codes.contains k) ρ.t[i]? (a.ev ρ.z)
 | .not c=>(c.ev ρ).map (!·)
structure Up (ρ ρ':Rho) (as as':List Addr):Prop where
 z:ρ.z <+: ρ'.z
 b:ρ.b <+: ρ'.b
 t:ρ.t <+: ρ'.t
 q:ρ.q <+: ρ'.q
 l:ρ.l <+: ρ'.l
 u:ρ.u <+: ρ'.u
 k:ρ.k <+: ρ'.k
 a:as <+: as'
theorem Up.refl {ρ:Rho} {as:List Addr}:Up ρ ρ as as:=⟨List.prefix_refl _,List.prefix_refl _,List.prefix_refl _,List.prefix_refl _,List.prefix_refl _,List.prefix_refl _,List.prefix_refl _,List.prefix_refl _⟩
theorem Up.trans {ρ ρ' ρ'':Rho} {as as' as'':List Addr} (x:Up ρ ρ' as as') (y:Up ρ' ρ'' as' as''):Up ρ ρ'' as as'':=
 ⟨x.z.trans y.z,x.b.trans y.b,x.t.trans y.t,x.q.trans y.q,x.l.trans y.l,x.u.trans y.u,x.k.trans y.k,x.a.trans y.a⟩
noncomputable def Kp {α:Type} (a b:Option α):Prop:=∀x,a=some x->b=some x
theorem yad {α:Type} {l l':List α} {i:Nat} (p:l <+: l'):Kp l[i]? l'[i]?:=λx h=>by
 obtain ⟨t,rfl⟩:=p
 rw [List.getElem?_append_left (List.getElem?_eq_some_iff.mp h).1];exact h
theorem yde {α β γ:Type} {f:α->β->γ} {a:Option α} {b:Option β} {r:γ} (h:two f a b=some r):∃x y,a=some x/\b=some y/\f x y=r:=by
 refine yab λGG hGG=>?_
 obtain ⟨x,hx,h⟩:=Option.bind_eq_some_iff.mp h
 obtain ⟨y,hy,h⟩:=Option.map_eq_some_iff.mp h
 refine hGG ?_;clear hGG GG
 exact ⟨x,y,hx,hy,h⟩
theorem ybw {α β γ:Type} {f:α->β->γ} {a a':Option α} {b b':Option β} (p:Kp a a') (q:Kp b b'):Kp (two f a b) (two f a' b'):=λr h=>by
 obtain ⟨x,y,hx,hy,h⟩:=yde h
 unfold two
 rw [p x hx,q y hy];exact congrArg some h
theorem ygr {α β:Type} {f:α->β} {a b:Option α} (p:Kp a b):Kp (a.map f) (b.map f):=λr h=>by
 obtain ⟨x,hx,h⟩:=Option.map_eq_some_iff.mp h
 rw [p x hx];exact congrArg some h
theorem Z.up {z z':List Int} (p:z <+: z') (a:Z):Kp (a.ev z) (a.ev z'):=by
 induction a with
 | v i=>exact yad p
 | n k=>exact λ_ h=>h
 | add a b x y=>exact ybw x y
 | sub a b x y=>exact ybw x y
theorem C.upP {ρ ρ':Rho} (z:ρ.z <+: ρ'.z) (b:ρ.b <+: ρ'.b) (t:ρ.t <+: ρ'.t) (c:C):Kp (c.ev ρ) (c.ev ρ'):=by
 induction c with
 | v i=>exact yad b
 | b x=>exact λ_ h=>h
 | lt x y=>exact ybw (Z.up z x) (Z.up z y)
 | le x y=>exact ybw (Z.up z x) (Z.up z y)
 | eq x y=>exact ybw (Z.up z x) (Z.up z y)
 | tq i x=>exact ygr (yad t)
 | cod i a=>exact ybw (yad t) (Z.up z a)
 | not c ih=>exact ygr ih
theorem C.up {ρ ρ':Rho} {as as':List Addr} (p:Up ρ ρ' as as') (c:C):Kp (c.ev ρ) (c.ev ρ'):=C.upP p.z p.b p.t c
noncomputable def DV (ρ:Rho) (as:List Addr) (x:SV) (v:Value):Prop:=match x with
 | .z a=>∃k t,a.ev ρ.z=some k/\v = .int k t
 | .s x=>∃t,v = .str x t
 | .t i=>∃x t,ρ.t[i]? = some x/\v = .str x t
 | .b c=>∃x,c.ev ρ=some x/\v = .bool x
 | .no=>v = .none
 | .r i=>∃a,as[i]? = some a/\v = .ref a
 | .q i=>∃a,ρ.q[i]? = some a/\v = .ref a
 | .f a=>v = .ref a
 | .bi id=>v = .builtin id
 | .u i=>ρ.u[i]? = some v
 | .ty id=>v = .type id
theorem DV.up {ρ ρ':Rho} {as as':List Addr} (p:Up ρ ρ' as as') {x:SV} {v:Value} (d:DV ρ as x v):DV ρ' as' x v:=by
 rcases x with a|_|i|c|_|i|i|_|_|i|_
 ·exact d.imp λk h=>h.imp λt h=>⟨Z.up p.z a k h.1,h.2⟩
 ·exact d
 ·exact d.imp λk h=>h.imp λt h=>⟨yad p.t k h.1,h.2⟩
 ·exact d.imp λk h=>⟨C.up p c k h.1,h.2⟩
 ·exact d
 ·exact d.imp λk h=>⟨yad p.a k h.1,h.2⟩
 ·exact d.imp λk h=>⟨yad p.q k h.1,h.2⟩
 ·exact d
 ·exact d
 ·exact yad p.u v d
 ·exact d
inductive A2 {α β:Type} (P:α->β->Prop):List α->List β->Prop
 | nil:A2 P [] []
 | cons {x:α} {y:β} {xs:List α} {ys:List β}:P x y->A2 P xs ys->A2 P (x::xs) (y::ys)
section
variable {α β:Type} {P Q:α->β->Prop} {xs:List α} {ys:List β}
theorem A2.imp (h:A2 P xs ys) (k:∀x y,P x y->Q x y):A2 Q xs ys:=by
 induction h with
 | nil=>exact .nil
 | cons p _ ih=>exact .cons (k _ _ p) ih
theorem A2.len (h:A2 P xs ys):ys.length=xs.length:=by
 induction h with
 | nil=>rfl
 | cons _ _ ih=>exact congrArg (· + 1) ih
theorem A2.at {i:Nat} {x:α} (h:A2 P xs ys) (e:xs[i]? = some x):∃y,ys[i]? = some y/\P x y:=by
 induction h generalizing i with
 | nil=>cases e
 | cons p _ ih=>
  rcases i with _|i
  ·cases e;exact ⟨_,rfl,p⟩
  ·exact ih e
theorem A2.app {xs':List α} {ys':List β} (h:A2 P xs ys) (k:A2 P xs' ys'):A2 P (xs++xs') (ys++ys'):=by
 induction h with
 | nil=>exact k
 | cons p _ ih=>exact .cons p ih
theorem A2.snoc {x:α} {y:β} (h:A2 P xs ys) (p:P x y):A2 P (xs ++ [x]) (ys ++ [y]):=h.app (.cons p .nil)
theorem A2.rev (h:A2 P xs ys):A2 P xs.reverse ys.reverse:=by
 induction h with
 | nil=>exact .nil
 | cons p _ ih=>rw [List.reverse_cons,List.reverse_cons];exact ih.snoc p
end
noncomputable abbrev DVs (ρ:Rho) (as:List Addr):List SV->List Value->Prop:=A2 (DV ρ as)
theorem DVs.up {ρ ρ':Rho} {as as':List Addr} (p:Up ρ ρ' as as') {xs:List SV} {vs:List Value} (h:DVs ρ as xs vs):DVs ρ' as' xs vs:=h.imp λ_ _ d=>d.up p
noncomputable def DF (ρ:Rho) (as:List Addr) (x:Str × SV) (v:Str × Value):Prop:=x.1=v.1/\DV ρ as x.2 v.2
noncomputable abbrev DFs (ρ:Rho) (as:List Addr):List (Str × SV)->List (Str × Value)->Prop:=A2 (DF ρ as)
theorem DFs.up {ρ ρ':Rho} {as as':List Addr} (p:Up ρ ρ' as as') {xs:List (Str × SV)} {vs:List (Str × Value)} (h:DFs ρ as xs vs):DFs ρ' as' xs vs:=h.imp λ_ _ d=>⟨d.1,d.2.up p⟩
inductive DL (ρ:Rho) (as:List Addr):Option SV->Option Value->Prop
 | none:DL ρ as none none
 | some {x:SV} {v:Value}:DV ρ as x v->DL ρ as (some x) (some v)
theorem DL.up {ρ ρ':Rho} {as as':List Addr} (p:Up ρ ρ' as as') {x:Option SV} {v:Option Value} (d:DL ρ as x v):DL ρ' as' x v:=by
 rcases d with _|d
 ·exact .none
 ·exact .some (d.up p)
theorem yoF {ρ:Rho} {as:List Addr} {x:SV} {v:Option Value} (d:DL ρ as (some x) v):∃u,v=some u/\DV ρ as x u:=by
 rcases d with _|d
 ·exact ⟨_,rfl,d⟩
inductive DQ (ρ:Rho) (as:List Addr):Option SV->Option Value->Prop
 | none {v:Option Value}:DQ ρ as none v
 | some {x:SV} {v:Value}:DV ρ as x v->DQ ρ as (some x) (some v)
theorem DQ.up {ρ ρ':Rho} {as as':List Addr} (p:Up ρ ρ' as as') {x:Option SV} {v:Option Value} (d:DQ ρ as x v):DQ ρ' as' x v:=by
 rcases d with _|d
 ·exact .none
 ·exact .some (d.up p)
theorem ya3 {ρ:Rho} {as:List Addr} {x:SV} {v:Option Value} (d:DQ ρ as (some x) v):∃u,v=some u/\DV ρ as x u:=by
 rcases d with _|d
 ·exact ⟨_,rfl,d⟩
theorem DFs.look {ρ:Rho} {as:List Addr} {x:Str} {xs:List (Str × SV)} {vs:List (Str × Value)} (h:DFs ρ as xs vs):DQ ρ as (xs.lookup x) (vs.lookup x):=by
 induction h with
 | nil=>exact .none
 | cons d _ ih=>
  unfold List.lookup
  rw [<-d.1]
  split
  ·exact .some d.2
  ·exact ih
theorem ycU {x:Str} {v:Value} {l:List (Str × Value)} (h:l.lookup x=some v):(x,v)∈l:=by
 induction l with
 | nil=>cases h
 | cons y l ih=>
  unfold List.lookup at h
  split at h
  ·rename_i q;cases h;rw [beq_iff_eq.mp q];exact .head _
  ·exact .tail _ (ih h)
theorem DFs.zip {ρ:Rho} {as:List Addr} {ps:List Str} {xs:List SV} {vs:List Value} (h:DVs ρ as xs vs):DFs ρ as (ps.zip xs) (ps.zip vs):=by
 induction ps generalizing xs vs with
 | nil=>exact .nil
 | cons y ps ih=>
  rcases h with _|⟨d,h⟩
  ·exact .nil
  ·exact .cons ⟨rfl,d⟩ (ih h)
structure Cx where
 w:World
 cn:Str
 sc:Scope
 L:Addr
 fa:Addr
 cd:Value
 cl:List (Str × Addr)
 g:Heap
 s:Shared
 E:Value->Shared->Prop
 tl:List (Addr × Obj)
 A₀:Around
 base:Heap
 outer:List Env
noncomputable abbrev Cx.env (c:Cx):Env:=envX c.cn c.sc c.L c.fa c.cd c.cl
noncomputable abbrev Cx.A (c:Cx):Around:=c.A₀.deeper c.env
noncomputable abbrev Cx.st (c:Cx) (h:Heap) (tk:Nat):Shared:={c.s with heap:=h,toks:=tk}
noncomputable abbrev Led:=List (Addr × Obj)
noncomputable abbrev Map:=Str->Option Value
noncomputable abbrev yae (ns:Led):List Addr:=ns.map (·.1)
structure Is (c:Cx) (m:Map) (ns:Led) (h:Heap):Prop where
 F:Fr c.g c.L h m
 N:News c.g c.L h (ns++c.tl)
 nd:(yae ns).Nodup
 off:∀p∈ns,∀q∈c.tl,q.1≠p.1
structure Cx.Fit (c:Cx):Prop where
 XB:(KK c.w.params).In c.base
 TB:∃mean mg mb,Top VV LO mean mg mb c.base
 fn:c.sc.kind = .function
 dbg:c.env.kindOf (Str.ofString "__debug__")=none
 B:Below c.A₀ c.base c.outer c.g
theorem Cx.Fit.X {c:Cx} (f:c.Fit):(KK c.w.params).In c.g:=f.XB.keeps f.B.stays
theorem Cx.Fit.T {c:Cx} (f:c.Fit):∃mean mg mb,Top VV LO mean mg mb c.g:=f.TB.imp λ_ h=>h.imp λ_ h=>h.imp λ_ h=>h.keeps f.B.stays
theorem Cx.Fit.fr {c:Cx} (f:c.Fit):c.A.frames=some (c.env::c.outer):=Around.frames_deeper f.B.stack
noncomputable def ykc (es:List DictEntry) (l:List (Str × Value)):Prop:=es.length=l.length/\∀x,(∀p∈l,p.1≠x)->getL x es=some none
inductive DK (ρ:Rho) (as:List Addr) (vs:List Value) (p:Z × SV):Prop
 | mk {k:Int} {v:Value} (z:p.1.ev ρ.z=some k) (n:0<=k) (i:vs[k.toNat]? = some v) (d:DV ρ as p.2 v):DK ρ as vs p
inductive DM (ρ:Rho) (as:List Addr) (kvs:List (Int × Value)) (p:Z × Option SV):Prop
 | mk {k:Int} (z:p.1.ev ρ.z=some k) (d:DL ρ as p.2 (valueAt kvs k)):DM ρ as kvs p
inductive ykd (as:List Addr) (C:Addr) (d:Nat) (o:Obj):Prop
 | mk {dx:Addr} (a:as[d]? = some dx) (e:o=yaf C dx):ykd as C d o
inductive yfm (ρ:Rho) (as:List Addr) (ex:Bool) (fs:List (Str × SV)) (o:Obj):Prop
 | mk {es:List DictEntry} {n:Nat} {l:List (Str × Value)} (e:o=dictOf es n) (H:Has es l) (O:ex=true->ykc es l) (D:DFs ρ as fs l):yfm ρ as ex fs o
inductive yl3 (ρ:Rho) (as:List Addr) (es:List SV) (o:Obj):Prop
 | mk {vs:List Value} {n:Nat} (e:o=yal vs n) (D:DVs ρ as es vs):yl3 ρ as es o
inductive ypL (ρ:Rho) (as:List Addr) (es:List SV) (o:Obj):Prop
 | mk {vs ws:List Value} {n:Nat} (e:o=yal (vs++ws) n) (D:DVs ρ as es vs):ypL ρ as es o
inductive yoG (ρ:Rho) (as:List Addr) (es:List SV) (o:Obj):Prop
 | mk {vs:List Value} {n:Nat} (e:o=listOf vs.toArray n) (D:DVs ρ as es vs):yoG ρ as es o
inductive yn4 (ρ:Rho) (as:List Addr) (l:Nat) (n:Z) (kn:List (Z × SV)) (app:List SV) (o:Obj):Prop
 | mk {vs ws:List Value} {k:Nat} (i:ρ.l[l]? = some vs) (e:o=listOf (vs++ws).toArray k) (z:n.ev ρ.z=some (vs.length:Int)) (lt:vs.length<=1000) (D:DVs ρ as app ws) (K:∀p∈kn,DK ρ as vs p):yn4 ρ as l n kn app o
inductive yn5 (w:World) (ρ:Rho) (as:List Addr) (i:Nat) (kn:List (Z × Option SV)) (a:Addr) (o:Obj):Prop
 | mk {kvs:List (Int × Value)} (lo:(a==sysModules)=false) (k:ρ.k[i]? = some kvs) (d:o.IsDictOf (PySem.intKind PP w) kvs) (K:∀p∈kn,DM ρ as kvs p):yn5 w ρ as i kn a o
inductive ypM (as:List Addr) (d:Nat) (o:Obj):Prop
 | mk {dx t:Addr} (a:as[d]? = some dx) (e:o=yau 41 (some dx) t):ypM as d o
inductive yoH (ρ:Rho) (as:List Addr) (code told:SV) (o:Obj):Prop
 | mk {x:Str} {tc:Tok} {v:Value} (c:DV ρ as code (.str x tc)) (t:DV ρ as told v) (n:NsObj o (λy=>if y=Str.ofString "told" then some v else if y=Str.ofString "code" then some (.str x tc) else none)):yoH ρ as code told o
inductive yoI (as:List Addr) (d t:Nat) (o:Obj):Prop
 | mk {dx T:Addr} {vs:Array Value} {a0:Value} (a:as[d]? = some dx) (b:as[t]? = some T) (c:o.cls = .ref 41) (e:o.dict=some dx) (f:o.data = .fields vs) (g:yjk vs a0) (h:vs[1]? = some (.ref T)):yoI as d t o
inductive DTb (o:Obj):Prop
 | mk {ts:Array Value} {fl:Value} (d:o.data = .fields ts) (f:ts[3]? = some fl):DTb o
inductive yl4 (ρ:Rho) (as:List Addr) (x:Option SV) (o:Obj):Prop
 | mk {v:Option Value} (e:o.data = .cell v) (d:DQ ρ as x v):yl4 ρ as x o
inductive yl5 (ρ:Rho) (j:Nat) (o:Obj):Prop
 | mk {c:Addr} {t:Int} {u:Tok} {n:Nat} (q:ρ.q[j]? = some c) (e:o=listOf [.ref c,.int t u].toArray n) (z:0<=t):yl5 ρ j o
inductive ygs (o:Obj):Prop
 | mk {vs:List Value} {ns:List Int} {n:Nat} (e:o=listOf vs.toArray n) (i:IntsAre vs ns) (l:vs.length<=40):ygs o
inductive ypN (ρ:Rho) (j:Nat) (o:Obj):Prop
 | mk {vs:List Value} {ns:List Int} {st:St} (l:ρ.l[j]? = some vs) (i:IntsAre vs ns) (ok:St.Ok ns st) (d:∀a tl,(a,o)∈tl->DatIn tl (.ref a) st.dat):ypN ρ j o
inductive yoJ (o:Obj):Prop
 | mk {k:Int} {t2 t3:Tok} {n:Nat} (m:k∈([5,1,16,21,30,200,255,0,256]:List Int)) (e:o=yal [.str (Str.ofString "whole") t2,.int k t3] n):yoJ o
inductive ypO (ρ:Rho) (j:Nat) (o:Obj):Prop
 | mk {vs:List Value} {m n:Nat} (l:ρ.l[j]? = some vs) (e:o=listOf vs.toArray n) (h1:2<=m) (h2:m<=5) (i:IntsAre vs (([10,20,30,40,50]:List Int).take m)):ypO ρ j o
inductive yl6 (ρ:Rho) (j:Nat) (o:Obj):Prop
 | mk {dx:Addr} (q:ρ.q[j]? = some dx) (e:o=yaf 877 dx):yl6 ρ j o
inductive DHk (o:Obj):Prop
 | mk {es:List DictEntry} {n:Nat} {tb td:Tok} (e:o=dictOf es n) (H:Has es [(Str.ofString "bits",.int 16 tb),(Str.ofString "digits",.int 9 td)]):DHk o
noncomputable def OpP (ρ:Rho) (t j:Nat) (o:Obj):Prop:=match t with
 | 0=>yl5 ρ j o
 | 1=>ygs o
 | 2=>ypN ρ j o
 | 3=>yoJ o
 | 4=>ypO ρ j o
 | 5=>yl6 ρ j o
 | 6=>DHk o
 | _=>False
inductive yoK (a:Addr) (o:Obj):Prop
 | mk {n:Nat} (lo:(a==sysModules)=false) (e:o=dictOf [] n):yoK a o
noncomputable def DO (w:World) (ρ:Rho) (as:List Addr) (x:SO) (a:Addr) (o:Obj):Prop:=match x with
 | .inst C d=>ykd as C d o
 | .dct ex fs=>yfm ρ as ex fs o
 | .tup es=>yl3 ρ as es o
 | .pre es=>ypL ρ as es o
 | .lst es=>yoG ρ as es o
 | .vec l n kn app=>yn4 ρ as l n kn app o
 | .map i kn=>yn5 w ρ as i kn a o
 | .exc d=>ypM as d o
 | .exd code told=>yoH ρ as code told o
 | .cgt d t=>yoI as d t o
 | .tb=>DTb o
 | .cell x=>yl4 ρ as x o
 | .op t j=>OpP ρ t j o
 | .emp=>yoK a o
 | .any=>True
theorem DK.up {ρ ρ':Rho} {as as':List Addr} (p:Up ρ ρ' as as') {vs:List Value} {q:Z × SV} (h:DK ρ as vs q):DK ρ' as' vs q:=by obtain ⟨z,n,i,d⟩:=h;exact ⟨Z.up p.z _ _ z,n,i,d.up p⟩
theorem DM.up {ρ ρ':Rho} {as as':List Addr} (p:Up ρ ρ' as as') {kvs:List (Int × Value)} {q:Z × Option SV} (h:DM ρ as kvs q):DM ρ' as' kvs q:=by obtain ⟨z,d⟩:=h;exact ⟨Z.up p.z _ _ z,d.up p⟩
theorem OpP.up {ρ ρ':Rho} {as as':List Addr} (p:Up ρ ρ' as as') {t j:Nat} {o:Obj} (d:OpP ρ t j o):OpP ρ' t j o:=by
 unfold OpP at d ⊢
 split at d
 ·obtain ⟨q,e,z⟩:=d;exact ⟨yad p.q _ q,e,z⟩
 ·exact d
 ·obtain ⟨l,i,ok,d⟩:=d;exact ⟨yad p.l _ l,i,ok,d⟩
 ·exact d
 ·obtain ⟨l,e,h1,h2,i⟩:=d;exact ⟨yad p.l _ l,e,h1,h2,i⟩
 ·obtain ⟨q,e⟩:=d;exact ⟨yad p.q _ q,e⟩
 ·exact d
 ·exact d
theorem DO.up {w:World} {ρ ρ':Rho} {as as':List Addr} (p:Up ρ ρ' as as') {x:SO} {a:Addr} {o:Obj} (d:DO w ρ as x a o):DO w ρ' as' x a o:=by
 refine yab λGG hGG=>?_
 rcases x with ⟨C,d'⟩|⟨ex,fs⟩|es|es|es|⟨l,n,kn,app⟩|⟨i,kn⟩|d'|⟨code,told⟩|⟨d',t'⟩|_|y|⟨t,j⟩|_|_
 ·obtain ⟨a,e⟩:=d;refine hGG ?_;clear hGG GG;exact ⟨yad p.a _ a,e⟩
 ·obtain ⟨e,H,O,D⟩:=d;refine hGG ?_;clear hGG GG;exact ⟨e,H,O,D.up p⟩
 ·obtain ⟨e,D⟩:=d;refine hGG ?_;clear hGG GG;exact ⟨e,D.up p⟩
 ·obtain ⟨e,D⟩:=d;refine hGG ?_;clear hGG GG;exact ⟨e,D.up p⟩
 ·obtain ⟨e,D⟩:=d;refine hGG ?_;clear hGG GG;exact ⟨e,D.up p⟩
 ·obtain ⟨l,e,z,lt,D,K⟩:=d;refine hGG ?_;clear hGG GG;exact ⟨yad p.l _ l,e,Z.up p.z _ _ z,lt,D.up p,λq hq=>(K q hq).up p⟩
 ·obtain ⟨lo,k,d,K⟩:=d;refine hGG ?_;clear hGG GG;exact ⟨lo,yad p.k _ k,d,λq hq=>(K q hq).up p⟩
 ·obtain ⟨a,e⟩:=d;refine hGG ?_;clear hGG GG;exact ⟨yad p.a _ a,e⟩
 ·obtain ⟨c,t,n⟩:=d;refine hGG ?_;clear hGG GG;exact ⟨c.up p,t.up p,n⟩
 ·obtain ⟨a,b,c,e,f,g,h⟩:=d;refine hGG ?_;clear hGG GG;exact ⟨yad p.a _ a,yad p.a _ b,c,e,f,g,h⟩
 ·refine hGG ?_;clear hGG GG
  exact d
 ·obtain ⟨e,d⟩:=d;refine hGG ?_;clear hGG GG;exact ⟨e,d.up p⟩
 ·refine hGG ?_;clear hGG GG
  exact OpP.up p d
 ·refine hGG ?_;clear hGG GG
  exact d
 ·refine hGG ?_;clear hGG GG
  trivial
structure DOs (w:World) (ρ:Rho) (as:List Addr) (os:List SO) (ns:Led):Prop where
 len:os.length=ns.length
 all:∀(i:Nat) (x:SO) (p:Addr × Obj),os[i]? = some x->ns[i]? = some p->DO w ρ as x p.1 p.2
inductive DTl (w:World) (tl:List (Addr × Obj)) (ρ:Rho) (i:Nat) (x:SO):Prop
 | mk {a:Addr} {o:Obj} (q:ρ.q[i]? = some a) (m:(a,o)∈tl) (d:DO w ρ [] x a o):DTl w tl ρ i x
structure Den (c:Cx) (ρ:Rho) (S:SS) (m:Map) (ns:Led):Prop where
 loc:∀x,DQ ρ (yae ns) (S.m.lookup x) (m x)
 obs:DOs c.w ρ (yae ns) S.os ns
 pcs:∀C∈S.pc,C.ev ρ=some true
 tls:∀(i:Nat) (x:SO),S.qs[i]? = some x->DTl c.w c.tl ρ i x
 cls:∀(x:Str) (i:Nat),S.cl.lookup x=some i->∃a,(yae ns)[i]? = some a/\c.cl.lookup x=some a
 hx:∀i,S.hx=some i->∃a,(yae ns)[i]? = some a/\c.A.handled=some (.ref a)
section
variable {c:Cx} {m:Map} {ρ:Rho} {ns:Led} {S:SS} {i:Nat} {x:SO} {a:Addr} {o o':Obj}
theorem yaw (e:ns[i]? = some (a,o)):(yae ns)[i]? = some a:=by rw [List.getElem?_map,e];rfl
theorem Den.atA (d:Den c ρ S m ns) (h:S.os[i]? = some x) (ha:(yae ns)[i]? = some a):∃o,ns[i]? = some (a,o)/\DO c.w ρ (yae ns) x a o:=by
 rw [List.getElem?_map] at ha
 refine yab λGG hGG=>?_
 obtain ⟨p,hp,rfl⟩:=Option.map_eq_some_iff.mp ha
 refine hGG ?_;clear hGG GG
 exact ⟨p.2,hp,d.obs.all i x p h hp⟩
theorem yaU (h:ns[i]? = some (a,o)):yae (ns.set i (a,o'))=yae ns:=by
 induction ns generalizing i with
 | nil=>rfl
 | cons p r ih=>
  rcases i with _|i
  ·cases h;rfl
  ·exact congrArg (p.1::·) (ih h)
theorem yas {p:Addr × Obj}:Up ρ ρ (yae ns) (yae (ns ++ [p])):=⟨List.prefix_refl _,List.prefix_refl _,List.prefix_refl _,List.prefix_refl _,List.prefix_refl _,List.prefix_refl _,List.prefix_refl _,by rw [yae,yae,List.map_append];exact List.prefix_append _ _⟩
end
noncomputable def yb4 (e:PySem.Expr):Bool:=e.ctorIdx==26
inductive Ok {α:Type} (c:Cx) (m:Map) (K:α->Led->Prop) (v:α) (s':Shared):Prop
 | mk {h:Heap} {tk:Nat} {ns:Led} (e:s'=c.st h tk) (i:Is c m ns h) (k:K v ns):Ok c m K v s'
inductive OkS (c:Cx) (K:Flow->Map->Led->Prop) (v:Flow) (s':Shared):Prop
 | mk {h:Heap} {tk:Nat} {m:Map} {ns:Led} (e:s'=c.st h tk) (i:Is c m ns h) (k:K v m ns):OkS c K v s'
structure WE {α:Type} (c:Cx) (m:Map) (ns:Led) (t:Sem α) (K:α->Led->Prop):Prop where
 go:∀h tk,Is c m ns h->wpAny (MM c.w) c.A t (Ok c m K) c.E (c.st h tk)
structure WS (c:Cx) (m:Map) (ns:Led) (t:Sem Flow) (K:Flow->Map->Led->Prop):Prop where
 go:∀h tk,Is c m ns h->wpAny (MM c.w) c.A t (OkS c K) c.E (c.st h tk)
section
variable {c:Cx} {m:Map} {ns:Led} {α β γ:Type} {h:Heap} {tk:Nat}
theorem WE.run {t:Sem α} {K:α->Led->Prop} {Q:α->Shared->Prop} (x:WE c m ns t K) (i:Is c m ns h) (k:∀v h tk ns,Is c m ns h->K v ns->Q v (c.st h tk)):wpAny (MM c.w) c.A t Q c.E (c.st h tk):=
 wpAny_mono (x.go h tk i) (λv _ o=>by obtain ⟨e,i,q⟩:=o;exact e▸k v _ _ _ i q) λ_ _ e=>e
theorem WS.run {t:Sem Flow} {K:Flow->Map->Led->Prop} {Q:Flow->Shared->Prop} (x:WS c m ns t K) (i:Is c m ns h) (k:∀v h tk m ns,Is c m ns h->K v m ns->Q v (c.st h tk)):wpAny (MM c.w) c.A t Q c.E (c.st h tk):=
 wpAny_mono (x.go h tk i) (λv _ o=>by obtain ⟨e,i,q⟩:=o;exact e▸k v _ _ _ _ i q) λ_ _ e=>e
theorem yap {K:α->Led->Prop} {v:α} (i:Is c m ns h) (k:K v ns):Ok c m K v (c.st h tk):=⟨rfl,i,k⟩
theorem yaX {K:Flow->Map->Led->Prop} {v:Flow} (i:Is c m ns h) (k:K v m ns):OkS c K v (c.st h tk):=⟨rfl,i,k⟩
theorem WE.mono {t:Sem α} {K K':α->Led->Prop} (x:WE c m ns t K) (k:∀v ns,K v ns->K' v ns):WE c m ns t K':=
 ⟨λh tk i=>x.run i λv _ _ n i q=>yap i (k v n q)⟩
theorem WE.then {t:Sem α} {u:α->Sem β} {K:β->Led->Prop} (x:WE c m ns t λa ns=>WE c m ns (u a) K) (i:Is c m ns h) :
  wpAny (MM c.w) c.A t (λa s₁=>wpAny (MM c.w) c.A (u a) (Ok c m K) c.E s₁) c.E (c.st h tk):=x.run i λ_ h1 t1 _ i1 k=>k.go h1 t1 i1
theorem WE.then2 {t:Sem α} {u:Sem β} {z:α->β->Sem γ} {K:γ->Led->Prop} (x:WE c m ns t λa ns=>WE c m ns u λb ns=>WE c m ns (z a b) K) (i:Is c m ns h) :
  wpAny (MM c.w) c.A t (λa s₁=>wpAny (MM c.w) c.A u (λb s₂=>wpAny (MM c.w) c.A (z a b) (Ok c m K) c.E s₂) c.E s₁) c.E (c.st h tk):=x.run i λ_ _ _ _ i1 k=>k.then i1
end
inductive Put (d:Addr) (o:Obj):Led->(Obj->Led)->Prop
 | head {r:Led}:Put d o ((d,o)::r) (λo'=>(d,o')::r)
 | tail {p:Addr × Obj} {r:Led} {g:Obj->Led}:Put d o r g->Put d o (p::r) (λo'=>p::g o')
theorem yl7 {d:Addr} {o:Obj} {ns:Led} {i:Nat} (h:ns[i]? = some (d,o)):Put d o ns λo'=>ns.set i (d,o'):=by
 induction ns generalizing i with
 | nil=>cases h
 | cons p r ih=>
  rcases i with _|i
  ·cases h;exact .head
  ·exact .tail (ih h)
theorem Put.upd {d:Addr} {o:Obj} {l tl:Led} {g:Obj->Led} (x:Put d o l g) (nd:(yae l).Nodup) (off:∀p∈l,∀q∈tl,q.1≠p.1):(d,o)∈l/\UpdF d o (l++tl) (λo'=>g o'++tl):=by
 induction x with
 | head=>
  have nd:=List.nodup_cons.mp nd
  refine ⟨.head _,UpdF.head λp hp e=>?_⟩
  rcases List.mem_append.mp hp with hp|hp
  ·exact nd.1 (List.mem_map.mpr ⟨p,hp,e⟩)
  ·exact off _ (.head _) p hp e
 | tail x ih=>
  have nd:=List.nodup_cons.mp nd
  obtain ⟨hm,u⟩:=ih nd.2 λp hp=>off p (.tail _ hp)
  exact ⟨.tail _ hm,UpdF.tail (λe=>nd.1 (List.mem_map.mpr ⟨_,hm,e.symm⟩)) u⟩
section
variable {c:Cx} {m:Map} {ns:Led} {i:Nat} {a d:Addr} {o o':Obj} {h h':Heap}
theorem Is.upd (x:Is c m ns h) (e:ns[i]? = some (d,o)):UpdF d o (ns++c.tl) (λo'=>ns.set i (d,o')++c.tl):=((yl7 e).upd x.nd x.off).2
theorem Is.set (x:Is c m ns h) (e:ns[i]? = some (d,o)) (F:Fr c.g c.L h' m) (N:News c.g c.L h' (ns.set i (d,o')++c.tl)):Is c m (ns.set i (d,o')) h':=by
 have k:=yaU (o':=o') e
 refine ⟨F,N,by rw [k];exact x.nd,λp hp q hq=>?_⟩
 have:p.1∈yae ns:=k▸List.mem_map_of_mem hp
 obtain ⟨p',hp',e'⟩:=List.mem_map.mp this
 rw [<-e'];exact x.off p' hp' q hq
theorem Is.snoc (x:Is c m ns h) (F:Fr c.g c.L h' m) (N:News c.g c.L h' ((d,o)::(ns++c.tl))) (lt:∀p∈ns++c.tl,p.1≠d):Is c m (ns ++ [(d,o)]) h':=by
 refine ⟨F,λp hp=>N p ?_,?_,λp hp q hq=>?_⟩
 ·rw [List.append_assoc] at hp
  rcases List.mem_append.mp hp with hp|hp
  ·exact .tail _ (List.mem_append_left _ hp)
  rcases List.mem_cons.mp hp with hp|hp
  ·exact hp▸.head _
  ·exact .tail _ (List.mem_append_right _ hp)
 ·rw [yae,List.map_append]
  refine List.nodup_append.mpr ⟨x.nd,List.nodup_cons.mpr ⟨List.not_mem_nil,List.nodup_nil⟩,λu hu v hv e=>?_⟩
  refine yab λGG hGG=>?_
  obtain ⟨p,hp,rfl⟩:=List.mem_map.mp hu
  refine hGG ?_;clear hGG GG
  exact lt p (List.mem_append_left _ hp) (e.trans (List.mem_singleton.mp hv))
 ·rcases List.mem_append.mp hp with hp|hp
  ·exact x.off p hp q hq
  ·rw [List.mem_singleton.mp hp];exact lt q (List.mem_append_right _ hq)
theorem Is.mem (x:Is c m ns h) (e:ns[i]? = some (a,o)):(a,o)∈ns++c.tl:=List.mem_append_left _ (List.mem_of_getElem? e)
end
structure ygt (P:Params) (C:Addr) (x:Str):Prop where
 a:plainGet (KK P) C x=true
 b:hasDictIn (KK P) C=true
 c:∃v,findIn (KK P) (.ref C) x=some v/\noGet (KK P) v=true
structure ygu (P:Params) (C:Addr) (x:Str):Prop where
 a:findIn (KK P) (.ref C) "__setattr__" = some (some (.builtin "object.__setattr__"))
 b:plainOver (KK P) C=true
 c:takerIn (KK P) C x=some none
 d:hasDictIn (KK P) C=true
section
variable {c:Cx} {m:Map} {ns:Led} {a b C dx d:Addr} {es:List DictEntry} {n i j:Nat} {x:Str} {v:Value} {l l':List (Str × Value)} {sl:Array (Option Value)} {o:Obj} {value slice:PySem.Expr} {vs:List Value} {z:Int} {u:Tok} {K:Value->Led->Prop}
theorem ycr {p q:Value} (hs:yb4 slice=false):subscripted slice false p q=operate [p,q] (getItem p q):=by
 cases slice<;>first|rfl|cases hs
theorem yl8 (f:c.Fit) (h1:ns[i]? = some (a,yaf C dx)) (h2:ns[j]? = some (dx,dictOf es n)) (G:ygt c.w.params C x) (H:getL x es=some (some v)) (hh:handedIn v=true) (k:K v ns) :
  WE c m ns (getAttr (.ref a) x true) K:=⟨λh tk i=>by
 obtain ⟨u,e1,e2⟩:=G.c
 exact get_own i.F f.X (InstAt.of_news i.N (i.mem h1) (i.mem h2)) G.a G.b e1 e2 H hh (yap (tk:=tk+1) i k)⟩
theorem yke (hl:(a,listOf vs.toArray n)∈ns++c.tl) (h0:0<=z) (h1:z<2 ^ 63) (hv:vs[z.toNat]? = some v) (k:K v ns) (hs:yb4 slice=false):WE c m ns (subscriptTail value slice (.ref a) (.int z u)) K:=
 ⟨λh tk i=>yj3 (News.isList i.N hl) h0 h1 hv (yap i k) (ycr hs)⟩
theorem yl9 (hl:(a,yal vs n)∈ns++c.tl) (h0 : -100<=z) (h1:z<100) (hj:seqIndex? z vs.length=some j) (hv:vs[j]? = some v) (k:K v ns) (hs:yb4 slice=false):WE c m ns (subscriptTail value slice (.ref a) (.int z u)) K:=
 ⟨λh tk i=>item_tupleT (News.isTup i.N hl) (by omega) (by omega) hj hv (yap i k) (ycr hs)⟩
theorem yma {kvs:List (Int × Value)} (hl:(a,o)∈ns++c.tl) (hd:o.IsDictOf (PySem.intKind PP c.w) kvs) (hv:valueAt kvs z=some v) (k:K v ns) (hs:yb4 slice=false):WE c m ns (subscriptTail value slice (.ref a) (.int z u)) K:=
 ⟨λh tk i=>kdt_tail i.N hl hd (kdt_getItem i.N hl hd (intKind_is _ _ _ _) hv (yap (tk:=tk+1) i k)) (ycr hs)⟩
theorem yii (hz:vs.length<=100) (k:∀d,K (.ref d) (ns ++ [(d,yal vs 0)])):WE c m ns (newTuple vs) K:=
 ⟨λh tk i=>kup_newTuple i.F i.N (λD h' F' N' lt=>yap (i.snoc F' N' λp hp=>Nat.ne_of_lt (lt p hp)) (k D)) (Nat.le_trans hz (by decide))⟩
theorem ykf (hz:vs.length<=100) (k:∀d,K (.ref d) (ns ++ [(d,listOf vs.toArray 0)])):WE c m ns (newList vs) K:=
 ⟨λh tk i=>newList_N i.F i.N (λh' F' N'=>yap (i.snoc F' N' λp hp=>Nat.ne_of_lt (Heap.lt_size (i.N p hp).1)) (k _)) (Nat.le_trans hz (by decide))⟩
theorem ymb (hl:(a,listOf vs.toArray n)∈ns++c.tl) (hz:vs.length<=16384) (k:∀t,K (.int vs.length t) ns):WE c m ns (call (.builtin "len") [.ref a]) K:=
 ⟨λh tk i=>kun_lenL (News.isList i.N hl) (k:=(vs.length:Int)) (by simp) (by omega) (yap (tk:=tk+2) i (k _))⟩
theorem ymc {us:List Value} {n':Nat} (ha:(a,listOf vs.toArray n)∈ns++c.tl) (hb:(b,listOf us.toArray n')∈ns++c.tl) (hz:vs.length+us.length<=100) (k:∀d,K (.ref d) (ns ++ [(d,listOf (vs++us).toArray 0)])):WE c m ns (binaryOp .Add (.ref a) (.ref b)) K:=
 ⟨λh tk i=>yov i.F i.N (News.isList i.N ha) (News.isList i.N hb) (by rw [List.size_toArray,List.size_toArray];exact Nat.le_trans hz (by decide)) λD h' F' N' lt=>yap (i.snoc F' N' λp hp=>Nat.ne_of_lt (lt p hp)) (k D)⟩
theorem ycV {vl vu:Value} {lo hi:Option Int} {Q:Value->Shared->Prop} {h:Heap} {tk:Nat} (hl:(a,listOf vs.toArray n)∈ns++c.tl) (pl:IsPart vl lo) (pu:IsPart vu hi) (hz:vs.length<=100) (hs:∀p q,subscripted slice false p q=operate [q,p] (getItem p q)) (i:Is c m ns h)
  (k:∀d h',Is c m (ns ++ [(d,listOf (kms_pick vs lo hi).toArray 0)]) h'->Q (.ref d) (c.st h' tk)):wpAny (MM c.w) c.A (subscriptTail value slice (.ref a) (.ref h.objs.size)) Q c.E (c.st (h.push {cls:=.type "slice",data:=.fields #[vl,vu,.none]}) tk):=by
 have L:=News.isList i.N hl
 refine tail_any (Heap.IsList.typeIs (s:=c.st (h.push {cls:=.type "slice",data:=.fields #[vl,vu,.none]}) tk) (L.push _)) list_getitem_lookup
  (wpAny_getItem_list_slice (L.push _) (Heap.IsSliceOf.new ..) pl pu .none (by simp) ?_ (by rw [List.size_toArray];exact Nat.le_trans hz (by decide))) (hs _ _)
 have N1:=News.push (i.F.push {cls:=.type "slice",data:=.fields #[vl,vu,.none]}) (i.N.grown λ_ _ e=>Heap.get?_push_of_some _ e) {cls:=.type "list",data:=.seq (slicePick vs.toArray lo hi none)}
 rw [kms_pick_eq] at N1
 show Q (.ref (h.push _).objs.size) _
 rw [kms_pick_eq]
 refine k _ _ (i.snoc ((i.F.push _).push _) N1 λp hp=>Nat.ne_of_lt (Nat.lt_of_lt_of_le (Heap.lt_size (i.N p hp).1) (by rw [Heap.size_push];exact Nat.le_succ _)))
theorem ydK {vs:List Value} {v:Value}:kl_last (vs ++ [v])=some (vs,v):=by
 induction vs with
 | nil=>rfl
 | cons x r ih=>rw [List.cons_append,kl_last,ih]
theorem ymd (h1:ns[i]? = some (a,listOf (vs ++ [v]).toArray n)) (hz:(vs ++ [v]).length<=100) (k:K v (ns.set i (a,listOf vs.toArray (n+1)))):WE c m ns (call (.builtin "list.pop") [.ref a]) K:=
 ⟨λh tk x=>kl_pop x.F x.N ydK (ybN (x.upd h1) _) (Nat.le_trans hz (by decide)) λh' F' N'=>yap (x.set h1 F' N') k⟩
theorem ygv (h1:ns[i]? = some (a,listOf vs.toArray n)) (hz:vs.length<=16384) (k:K .none (ns.set i (a,listOf (vs ++ [v]).toArray (n+1)))):WE c m ns (call (.builtin "list.append") [.ref a,v]) K:=
 ⟨λh tk x=>by
  obtain ⟨own,rest,e,hg,a1,a2⟩:=(x.upd h1).split
  exact append_in x.F (e▸x.N) a1 a2 (λh' F' N'=>yap (x.set h1 F' ((hg _).symm▸N')) k) (Nat.le_trans hz (by decide))⟩
theorem yme {K:Unit->Led->Prop} {R:List DictEntry->Prop} (f:c.Fit) (h1:ns[i]? = some (a,yaf C dx)) (h2:ns[j]? = some (dx,dictOf es n)) (S:ygu c.w.params C x) (hl:(getL x es).isSome=true)
  (hR:∀hs t,R (putL x hs (.str x t) v es)) (hz:∀es',R es'->es'.length<=1000) (k:∀es' n',R es'->K () (ns.set j (dx,dictOf es' n'))):WE c m ns (setAttr (.ref a) x v) K:=⟨λh tk i=>
 set_dict i.F f.X i.N (InstAt.of_news i.N (i.mem h1) (i.mem h2)) rfl S.a S.b S.c S.d hl rfl (ybN (i.upd h2) _) (hz _ (hR _ _)) λh' F' N'=>yap (tk:=tk+2) (i.set h2 F' N') (k _ _ (hR _ _))⟩
end
theorem ydL {x:Str} {es:List DictEntry} (h:getL x es=some none):es.find? (·.key.isStr x)=none/\es.any (·.refKey)=false:=by
 unfold getL at h
 generalize q:(es.find? (·.key.isStr x))=x9
 rcases x9 with _|e
 ·rw [q] at h
  refine ⟨rfl,?_⟩
  generalize r:(es.any (·.refKey))=x9
  rcases x9 with _|_
  ·rfl
  ·rw [r] at h;cases h
 ·rw [q] at h;cases h
theorem ygw {x:Str} {hs:Int} {key v:Value} {es:List DictEntry} (h:es.find? (·.key.isStr x)=none):putL x hs key v es=es ++ [⟨hs,key,v⟩]:=by
 induction es with
 | nil=>rfl
 | cons e r ih=>
  rw [List.find?_cons] at h
  generalize q:(e.key.isStr x)=x9
  rcases x9 with _|_
  ·rw [q] at h;unfold putL;rw [q,if_neg (by decide),ih h];rfl
  ·rw [q] at h;cases h
theorem ydM {x y:Str} {hs:Int} {t:Tok} {v:Value} {es:List DictEntry} (h:getL x es=some none):getL y (es ++ [⟨hs,.str x t,v⟩])=if y=x then some (some v) else getL y es:=by
 obtain ⟨h1,h2⟩:=ydL h
 have hk:(Value.str x t).isStr y=(x==y):=rfl
 unfold getL
 rw [List.find?_append,List.any_append,h2,List.find?_cons,hk]
 by_cases e:y=x
 ·subst e
  rw [h1,beq_self_eq_true,if_pos rfl];rfl
 ·rw [if_neg e,show (x==y)=false from beq_eq_false_iff_ne.mpr λq=>e q.symm]
  generalize (es.find? (·.key.isStr y))=x9
  rcases x9 with _|e
  ·rfl
  ·rfl
theorem ykg {x:Str} {v:Value} {es:List DictEntry} {l:List (Str × Value)} (H:Has es l) (O:ykc es l) (hx:∀p∈l,p.1≠x) (hw:x≠Str.ofString "whole") (hz:l.length<60) (hs:Int) (t:Tok) :
  Has (putL x hs (.str x t) v es) (l ++ [(x,v)])/\ykc (putL x hs (.str x t) v es) (l ++ [(x,v)]):=by
 have h0:=O.2 x hx
 rw [ygw (ydL h0).1]
 have hlen:(es ++ [(⟨hs,.str x t,v⟩:DictEntry)]).length=(l ++ [(x,v)]).length:=by rw [List.length_append,List.length_append,O.1];rfl
 refine ⟨⟨by rw [hlen,List.length_append];exact hz,λe he=>?_,λp hp=>?_⟩,hlen,λy hy=>?_⟩
 ·rcases List.mem_append.mp he with he|he
  ·exact H.no e he
  ·rw [List.mem_singleton.mp he];exact ⟨beq_eq_false_iff_ne.mpr hw,rfl⟩
 ·rw [ydM h0]
  rcases List.mem_append.mp hp with hp|hp
  ·rw [if_neg (hx p hp)];exact H.all p hp
  ·rw [List.mem_singleton.mp hp,if_pos rfl]
 ·rw [ydM h0,if_neg λe=>hy _ (List.mem_append_right _ (.head _)) e.symm]
  exact O.2 y λp hp=>hy p (List.mem_append_left _ hp)
set_option genSizeOfSpec false
set_option genInjectivity false
inductive R (α:Type) where
 | ok (a:α) (S:SS)
 | exc (i j k:Nat) (S:SS)
 | bad
inductive FL where
 | nx
 | ret (v:SV)
 | brk
 | cnt
structure Def where
 name:Str
 qual:Str
 params:Arguments
 body:List Stmt
 sc:Scope
 ps:List Str
structure Pl where
 sc:Scope
 k:Nat
 cells:Bool
 hd:Bool
structure Ini where
 f:Addr
 D:Def
 ds:List SV
structure Sys where
 gl:List (Str × SV)
 fns:List (Addr × Def)
 ini:List (Addr × Ini)
 gets:List (Addr × Str)
 meth:List (Addr × Addr)
 sets:List (Addr × Str)
 con:Pl->Addr->List SV->SS->Option (List (R SV))
structure Fns where
 E:Pl->PySem.Expr->SS->List (R SV)
 T:Pl->PySem.Expr->SS->List (R Bool)
 S:Pl->Stmt->SS->List (R FL)
noncomputable def rb {α β:Type} (f:α->SS->List (R β)):List (R α)->List (R β)
 | []=>[]
 | .ok a S::r=>f a S++rb f r
 | .exc i j k S::r=>.exc i j k S::rb f r
 | .bad::r=>.bad::rb f r
noncomputable def one {α:Type} (a:α) (S:SS):List (R α):=[.ok a S]
noncomputable def no {α:Type}:List (R α):=[.bad]
noncomputable def opt {α β:Type} (x:Option α) (f:α->List (R β)):List (R β):=x.elim no f
noncomputable def ret {α:Type} (x:Option α) (S:SS):List (R α):=opt x λu=>one u S
noncomputable def ybl {α:Type} (b:Bool) (x:List (R α)):List (R α):=cond b x no
noncomputable def grd {α:Type} (b:Bool) (x:α):Option α:=cond b (some x) none
noncomputable def Z.same:Z->Z->Bool
 | .v i,.v j=>i==j
 | .n i,.n j=>i==j
 | .add a b,.add c d=>a.same c && b.same d
 | .sub a b,.sub c d=>a.same c && b.same d
 | _,_=>false
noncomputable def C.same:C->C->Bool
 | .v i,.v j=>i==j
 | .b x,.b y=>x==y
 | .lt p q,.lt r s=>p.same r && q.same s
 | .le p q,.le r s=>p.same r && q.same s
 | .eq p q,.eq r s=>p.same r && q.same s
 | .tq i x,.tq j y=>i==j && x==y
 | .cod i p,.cod j q=>i==j && p.same q
 | .not p,.not q=>p.same q
 | _,_=>false
noncomputable def Z.lit:Z->Option Int
 | .n k=>some k
 | _=>none
noncomputable def C.fix:C->Option Bool
 | .b x=>some x
 | .lt x y=>two (λi j=>decide (i<j)) x.lit y.lit
 | .le x y=>two (λi j=>decide (i<=j)) x.lit y.lit
 | .eq x y=>two (λi j=>decide (i=j)) x.lit y.lit
 | .not c=>c.fix.map (!·)
 | _=>none
noncomputable def C.neg:C->C
 | .not c=>c
 | c=>.not c
noncomputable def C.known (pc:List C) (c:C):Option Bool:=match c.fix with
 | some x=>some x
 | none=>cond (pc.any c.same) (some true) (cond (pc.any c.neg.same) (some false) none)
noncomputable def xC (c:C) (S:SS):List (R Bool):=match c.known S.pc with
 | some x=>one x S
 | none=>[.ok true {S with pc:=c::S.pc},.ok false {S with pc:=c.neg::S.pc}]
noncomputable def Z.plus (a b:Z):Z:=match two (· + ·) a.lit b.lit with
 | some k=>.n k
 | none=>.add a b
noncomputable def Z.less (a b:Z):Z:=match two (· - ·) a.lit b.lit with
 | some k=>.n k
 | none=>.sub a b
noncomputable def SV.i? : SV->Option Nat
 | .r i=>some i
 | _=>none
noncomputable def SV.z? : SV->Option Z
 | .z a=>some a
 | _=>none
noncomputable def SV.c? : SV->Option C
 | .b c=>some c
 | _=>none
noncomputable def SO.inst? : SO->Option (Addr × Nat)
 | .inst C d=>some (C,d)
 | _=>none
noncomputable def SO.dct? : SO->Option (Bool × List (Str × SV))
 | .dct ex fs=>some (ex,fs)
 | _=>none
noncomputable def SO.tup? : SO->Option (List SV)
 | .tup es=>some es
 | _=>none
noncomputable def SO.exc? : SO->Option Nat
 | .exc d=>some d
 | _=>none
noncomputable def SO.lst? : SO->Option (List SV)
 | .lst es=>some es
 | _=>none
noncomputable def SO.cell? : SO->Option (Option SV)
 | .cell v=>some v
 | _=>none
noncomputable def SS.at (S:SS) (v:SV):Option SO:=v.i?.bind λi=>S.os[i]?
noncomputable def SS.ob (S:SS):SV->Option SO
 | .r i=>S.os[i]?
 | .q i=>S.qs[i]?
 | _=>none
noncomputable def SS.new (S:SS) (o:SO):SS:={S with os:=S.os ++ [o]}
noncomputable def SS.put (S:SS) (i:Nat) (o:SO):SS:={S with os:=S.os.set i o}
noncomputable def SS.home (S S0:SS):SS:={S with m:=S0.m,cl:=S0.cl}
noncomputable def ylK (x:Str) (v:SV):List (Str × SV)->List (Str × SV)
 | []=>[(x,v)]
 | y::r=>cond (x==y.1) ((y.1,v)::r) (y::ylK x v r)
noncomputable def yoL (x:Str) (l:List (Str × SV)):Bool:=l.any λp=>p.1==x
noncomputable def ymf (x:Str) (v:SV):List (Str × SV)->Option (List (Str × SV))
 | []=>none
 | y::r=>cond (x==y.1) (grd (!yoL x r) ((y.1,v)::r)) ((ymf x v r).map (y::·))
noncomputable def ygx:SV->Bool
 | .bi _=>false
 | .u _=>false
 | .ty _=>false
 | _=>true
noncomputable def ycb (e:PySem.Expr):Bool:=e.ctorIdx==22
noncomputable def yeI (e:PySem.Expr):Bool:=e.ctorIdx==8 || e.ctorIdx==9 || e.ctorIdx==10
noncomputable def ykh (e:PySem.Expr):Bool:=e.ctorIdx==7
noncomputable def ycs (e:PySem.Expr):Bool:=e.ctorIdx==23 || e.ctorIdx==20 || e.ctorIdx==21
noncomputable def yeJ (e:PySem.Expr):Bool:=e.ctorIdx==23 || e.ctorIdx==20 || e.ctorIdx==21 || e.ctorIdx==16 || e.ctorIdx==19
noncomputable def yki (S:SS) (x:Str):Option Nat:=S.cl.lookup x
noncomputable def ygy (Y:Sys) (p:Pl) (x:Str) (S:SS):Option SV:=match p.sc.names.lookup x with
 | some .local=>S.m.lookup x
 | some .cell=>(yki S x).bind λi=>(S.os[i]?.bind SO.cell?).bind id
 | some .globalImplicit=>Y.gl.lookup x
 | _=>none
noncomputable def yjm (k:Const):Option SV:=match k with
 | .int i=>some (.z (.n i))
 | .str x=>some (.s x)
 | .none=>some .no
 | .bool b=>some (.b (.b b))
 | _=>none
noncomputable def yn6 (l:List (Addr × Str)) (C:Addr) (f:Str):Bool:=l.any λg=>g.1==C && g.2==f
noncomputable def yoM (Y:Sys) (v:SV) (f:Str) (S:SS):Option SV:=
 ((S.at v).bind SO.inst?).bind λCd=>(S.os[Cd.2]?.bind SO.dct?).bind λfs=>(fs.2.lookup f).bind λu=>grd (ygx u && yn6 Y.gets Cd.1 f) u
noncomputable def SO.cgt? : SO->Option (Nat × Nat)
 | .cgt d t=>some (d,t)
 | _=>none
noncomputable def SO.exd? : SO->Option (SV × SV)
 | .exd c t=>some (c,t)
 | _=>none
noncomputable def SO.tb? : SO->Option Unit
 | .tb=>some ()
 | _=>none
noncomputable def ypP (c t:SV) (f:Str):Option SV:=cond (f==Str.ofString "code") (some c) (cond (f==Str.ofString "told") (some t) none)
noncomputable def yoN (v:SV) (f:Str) (S:SS):Option SV:=((S.at v).bind SO.cgt?).bind λdt=>(S.os[dt.1]?.bind SO.exd?).bind λct=>(ypP ct.1 ct.2 f).bind λu=>grd (ygx u) u
noncomputable def SV.q? : SV->Option Nat
 | .q i=>some i
 | _=>none
noncomputable def SO.op? : SO->Option (Nat × Nat)
 | .op t j=>some (t,j)
 | _=>none
noncomputable def hkF (f:Str):Option SV:=cond (f==Str.ofString "bits") (some (.z (.n 16))) (cond (f==Str.ofString "digits") (some (.z (.n 9))) none)
noncomputable def ypQ (Y:Sys) (v:SV) (f:Str) (S:SS):Option SV:=v.q?.bind λi=>(S.qs[i]?.bind SO.op?).bind λx=>(S.qs[x.2]?.bind SO.op?).bind λy=>(hkF f).bind λu=>grd (x.1==5 && y.1==6 && yn6 Y.gets 877 f) u
noncomputable def yn7 (Y:Sys) (v:SV) (f:Str) (S:SS):Option SV:=match yoM Y v f S with
 | some u=>some u
 | none=>match yoN v f S with
  | some u=>some u
  | none=>ypQ Y v f S
noncomputable def yoO (ex:Bool) (fs:List (Str × SV)) (x:Str) (u:SV):Option (Bool × List (Str × SV)):=match ymf x u fs with
 | some fs=>some (false,fs)
 | none=>grd (ex && !yoL x fs && decide (fs.length<50) && !(x==Str.ofString "whole")) (true,fs ++ [(x,u)])
noncomputable def yn8 (Y:Sys) (v:SV) (f:Str) (u:SV) (S:SS):Option SS:=
 ((S.at v).bind SO.inst?).bind λCd=>(S.os[Cd.2]?.bind SO.dct?).bind λfs=>(yoO fs.1 fs.2 f u).bind λfs=>grd (yn6 Y.sets Cd.1 f) (S.put Cd.2 (.dct fs.1 fs.2))
noncomputable def find? (z:Z):List (Z × SV)->Option SV
 | []=>none
 | p::r=>cond (z.same p.1) (some p.2) (find? z r)
noncomputable def ygz (z:Z):List (Z × Option SV)->Option (Option SV)
 | []=>none
 | p::r=>cond (z.same p.1) (some p.2) (ygz z r)
noncomputable def ymg (z:Z):SO->Option SV
 | .tup es=>z.lit.bind λk=>(cond (decide (-100<=k) && decide (k<100)) (seqIndex? k es.length) none).bind λi=>es[i]?
 | .pre es=>z.lit.bind λk=>cond (decide (0<=k) && decide (k<100)) es[k.toNat]? none
 | .lst es=>z.lit.bind λk=>cond (decide (0<=k) && decide (k<100)) es[k.toNat]? none
 | .vec _ _ kn _=>find? z kn
 | .map _ kn=>(ygz z kn).bind id
 | _=>none
noncomputable def ykj (v j:SV) (S:SS):Option SV:=j.z?.bind λz=>(S.ob v).bind (ymg z)
noncomputable def ypR:SO->Option Z
 | .lst es=>grd (decide (es.length<=1000)) (.n es.length)
 | .vec _ n _ app=>grd (decide (app.length<=1000)) (cond app.isEmpty n (n.plus (.n app.length)))
 | _=>none
noncomputable def yn9 (v:SV) (S:SS):Option SV:=(S.ob v).bind λo=>(ypR o).map SV.z
noncomputable def yoP (u:SV):SO->Option SO
 | .lst es=>grd (decide (es.length<=1000)) (.lst (es ++ [u]))
 | .vec l n kn app=>grd (decide (app.length<=1000)) (.vec l n kn (app ++ [u]))
 | _=>none
noncomputable def ypS (v u:SV) (S:SS):Option SS:=v.i?.bind λi=>S.os[i]?.bind λo=>(yoP u o).map (S.put i)
noncomputable def ymh (v:SV) (S:SS):Bool:=((S.at v).bind (yoP .no)).isSome
noncomputable def yoQ (op:CmpOp) (x y:Z):Option C:=match op with
 | .Eq=>some (.eq x y)
 | .NotEq=>some (.not (.eq x y))
 | .Lt=>some (.lt x y)
 | .LtE=>some (.le x y)
 | .Gt=>some (.lt y x)
 | .GtE=>some (.le y x)
 | _=>none
noncomputable def yoR (op:CmpOp) (c:C):Option C:=match op with
 | .Eq=>some c
 | .NotEq=>some (.not c)
 | _=>none
noncomputable def ypT (op:CmpOp) (isno:Bool):Option C:=match op with
 | .Eq=>some (.b false)
 | .NotEq=>some (.b true)
 | .Is=>grd isno (.b false)
 | .IsNot=>grd isno (.b true)
 | _=>none
noncomputable def ypU (op:CmpOp):Option C:=match op with
 | .Eq=>some (.b true)
 | .Is=>some (.b true)
 | .IsNot=>some (.b false)
 | _=>none
noncomputable def kd:SV->Nat
 | .z _=>0
 | .s _=>1
 | .t _=>1
 | .no=>2
 | _=>3
noncomputable def ypV (op:CmpOp) (a b:SV):Option C:=match b with
 | .s y=>match a with
  | .s x=>yoR op (.b (x==y))
  | .t i=>yoR op (.tq i y)
  | _=>none
 | _=>none
noncomputable def yoS (op:CmpOp) (a b:SV):Option C:=cond (kd a==kd b)
 (match kd a with
  | 0=>a.z?.bind λx=>b.z?.bind λy=>yoQ op x y
  | 1=>ypV op a b
  | 2=>ypU op
  | _=>none)
 (cond (decide (kd a<3) && decide (kd b<3)) (ypT op (kd b==2)) none)
noncomputable def yoa (op:CmpOp):Option Bool:=match op with
 | .In=>some true
 | .NotIn=>some false
 | _=>none
noncomputable def SO.map? : SO->Option (Nat × List (Z × Option SV))
 | .map i kn=>some (i,kn)
 | _=>none
noncomputable def SV.s? : SV->Option Str
 | .s x=>some x
 | _=>none
noncomputable def ykk:List SV->Option (List Str)
 | []=>some []
 | v::r=>v.s?.bind λx=>(ykk r).map (x::·)
noncomputable def ymi (x:Bool) (a b:SV) (S:SS):Option SV:=a.z?.bind λz=>((S.ob b).bind SO.map?).bind λkn=>(ygz z kn.2).map λy=>.b (.b (y.isSome==x))
noncomputable def yjn (x:Bool) (y:Str) (b:SV) (S:SS):Option SV:=((S.ob b).bind SO.tup?).bind λes=>(ykk es).bind λys=>grd x (.b (.b (ys.any (· == y))))
noncomputable def ymj (op:CmpOp) (a b:SV) (S:SS):Option SV:=match yoa op with
 | some x=>(match a.s? with
  | some y=>yjn x y b S
  | none=>ymi x a b S)
 | none=>(yoS op a b).map SV.b
noncomputable def yoT (op:Operator) (a b:SV):Option SV:=a.z?.bind λx=>b.z?.bind λy=>match op with
 | .Add=>some (.z (x.plus y))
 | .Sub=>some (.z (x.less y))
 | _=>none
noncomputable def yoU:Operator->Bool
 | .Add=>true
 | _=>false
noncomputable def ypW (op:Operator) (x y:SV) (S:SS):Option (List SV):=((S.ob x).bind SO.lst?).bind λa=>((S.ob y).bind SO.lst?).bind λb=>grd (yoU op && decide (a.length+b.length<=100)) (a++b)
noncomputable def ymk (op:Operator) (x y:SV) (S:SS):List (R SV):=match yoT op x y with
 | some u=>one u S
 | none=>opt (ypW op x y S) λes=>one (.r S.os.length) (S.new (.lst es))
noncomputable def yij (l:List SV) (lo hi:Option Int):List SV:=(l.drop (kms_lo lo l.length)).take (kms_hi hi l.length - kms_lo lo l.length)
noncomputable def yct (v:SV) (lo hi:Option Int) (S:SS):List (R SV):=opt ((S.ob v).bind SO.lst?) λes=>ybl (decide (es.length<=100)) (one (.r S.os.length) (S.new (.lst (yij es lo hi))))
noncomputable def yec:PySem.Expr->Option (Option PySem.Expr × Option PySem.Expr)
 | .Slice l u k _=>grd k.isNone (l,u)
 | _=>none
noncomputable def yfn:List SV->Option (List SV × SV)
 | []=>none
 | x::r=>match yfn r with
  | some q=>some (x::q.1,q.2)
  | none=>some ([],x)
noncomputable def ypX (v:SV) (S:SS):Option (SV × SS):=v.i?.bind λi=>(S.os[i]?.bind SO.lst?).bind λes=>(yfn es).bind λq=>grd (decide (es.length<=100)) (q.2,S.put i (.lst q.1))
noncomputable def unF (op:UnaryOp) (a:SV):Option SV:=a.z?.bind λx=>grd (op == .USub) (.z ((Z.n 0).less x))
noncomputable def yed (F:Fns) (p:Pl) (e:Option PySem.Expr) (S:SS):List (R (Option Int)):=match e with
 | none=>one none S
 | some e=>rb (λv S=>opt (v.z?.bind Z.lit) λk=>one (some k) S) (F.E p e S)
noncomputable def ybQ (v:SV) (S:SS):List (R Bool):=opt v.c? λc=>xC c S
noncomputable def ycu (op:CmpOp) (a b:SV) (S:SS):List (R Bool):=opt (ymj op a b S) λv=>ybQ v S
noncomputable def xEs (F:Fns) (p:Pl):List PySem.Expr->SS->List (R (List SV))
 | [],S=>one [] S
 | e::r,S=>ybl (!ycb e) (rb (λv S=>rb (λvs S=>one (v::vs) S) (xEs F p r S)) (F.E p e S))
noncomputable def ylL (k:SS->List (R FL)) (fl:FL) (S:SS):List (R FL):=match fl with
 | .nx=>k S
 | fl=>one fl S
noncomputable def xSs (F:Fns) (p:Pl):List Stmt->SS->List (R FL)
 | [],S=>one .nx S
 | st::r,S=>rb (ylL (xSs F p r)) (F.S p st S)
noncomputable def yob (S:SS) (code told:SV):SS:=(S.new (.exc (S.os.length+1))).new (.exd code told)
noncomputable def yoV (c:SV) (r:List SV) (S:SS):List (R SV):=match r with
 | []=>one (.r S.os.length) (yob S c (.s (Str.ofString "")))
 | [v]=>one (.r S.os.length) (yob S c v)
 | _=>no
noncomputable def yoW (vs:List SV) (S:SS):List (R SV):=match vs with
 | c::r=>ybl (kd c==1) (yoV c r S)
 | _=>no
noncomputable def ykl (S0:SS):R FL->R SV
 | .ok (.ret v) S=>.ok v (S.home S0)
 | .ok .nx S=>.ok .no (S.home S0)
 | .exc i j k S=>.exc i j k (S.home S0)
 | _=>.bad
noncomputable def ypY (S0:SS) (x:Nat):R FL->R SV
 | .ok (.ret .no) S=>.ok (.r x) (S.home S0)
 | .ok .nx S=>.ok (.r x) (S.home S0)
 | .exc i j k S=>.exc i j k (S.home S0)
 | _=>.bad
noncomputable def ykm (S:SS) (b:Addr):SS:=(S.new (.dct true [])).new (.inst b S.os.length)
noncomputable def yoc (F:Fns) (p:Pl) (k:Nat) (b:Addr) (I:Ini) (vs:List SV) (S:SS):List (R SV):=ybl (decide (vs.length+I.ds.length+1=I.D.ps.length))
 ((xSs F ⟨I.D.sc,k,false,p.hd⟩ I.D.body {ykm S b with m:=(I.D.ps.zip (.r (S.os.length+1)::(vs++I.ds))).reverse,cl:=[]}).map (ypY S (S.os.length+1)))
noncomputable def yml:Nat->Option Nat
 | n+2=>some n
 | _=>none
noncomputable def ybR (Y:Sys) (F:Fns) (p:Pl) (b:Addr) (vs:List SV) (S:SS):List (R SV):=ybl (!p.cells) (match p.k with
 | 0=>no
 | k+1=>cond (b==41) (yoW vs S) (match Y.fns.lookup b with
  | some D=>ybl (decide (vs.length=D.ps.length)) ((xSs F ⟨D.sc,k,false,p.hd⟩ D.body {S with m:=(D.ps.zip vs).reverse,cl:=[]}).map (ykl S))
  | none=>match Y.ini.lookup b with
   | some I=>opt (yml p.k) λk=>yoc F p k b I vs S
   | none=>opt (Y.con p b vs S) id))
noncomputable def SV.ty? : SV->Option String
 | .ty x=>some x
 | _=>none
noncomputable def ypZ (v w:SV):Option SV:=v.z?.bind λ_=>w.ty?.bind λx=>grd (x == "str" || x == "tuple") (.b (.b false))
noncomputable def yeK (id:String) (vs:List SV) (S:SS):List (R SV):=match vs with
 | [v]=>ybl (id == "len") (ret (yn9 v S) S)
 | [v,w]=>ybl (id == "isinstance") (ret (ypZ v w) S)
 | _=>no
noncomputable def ykn (Y:Sys) (p:Pl) (x:Str):Option SV:=match p.sc.names.lookup x with
 | some .globalImplicit=>Y.gl.lookup x
 | _=>none
noncomputable def one? {α:Type}:List α->Option α
 | [x]=>some x
 | _=>none
noncomputable def SV.f? : SV->Option Addr
 | .f a=>some a
 | _=>none
noncomputable def SV.bi? : SV->Option String
 | .bi a=>some a
 | _=>none
noncomputable def yoX (Y:Sys) (v:SV) (S:SS):Option Addr:=((S.at v).bind SO.inst?).bind λCd=>(S.os[Cd.2]?.bind SO.dct?).bind λ_=>Y.meth.lookup Cd.1
noncomputable def yik (Y:Sys) (F:Fns) (p:Pl) (o:PySem.Expr) (as:List PySem.Expr) (ln:Bool) (S:SS):List (R SV):=match o with
 | .Name y _=>opt (one? as) λe=>ybl (!ycb e && ln) (opt (ygy Y p y S) λov=>opt (yoX Y ov S) λb=>rb (λv S=>ybR Y F p b [ov,v] S) (F.E p e S))
 | _=>no
noncomputable def ygA (Y:Sys) (F:Fns) (p:Pl) (f:PySem.Expr) (as:List PySem.Expr) (pos:Pos) (S:SS):List (R SV):=match f with
 | .Name x _=>ybl (!as.any ycb) (opt (ykn Y p x) λg=>match g.f? with
  | some b=>rb (λvs S=>ybR Y F p b vs S) (xEs F p as S)
  | none=>opt g.bi? λid=>ybl (!as.isEmpty) (rb (λvs S=>yeK id vs S) (xEs F p as S)))
 | .Attribute o x ap=>cond (x==Str.ofString "whole") (yik Y F p o as (ap.endLine==pos.line) S) (cond (x==Str.ofString "pop") (ybl (as.isEmpty && ycs o && (ap.endLine==pos.line)) (rb (λov S=>opt (ypX ov S) λw=>one w.1 w.2) (F.E p o S))) (opt (one? as) λe=>ybl (ycs o && (ap.endLine==pos.line) && (x==Str.ofString "append") && !ycb e)
   (rb (λov S=>ybl (ymh ov S) (rb (λv S=>opt (ypS ov v S) λS=>one .no S) (F.E p e S))) (F.E p o S))))
 | _=>no
noncomputable def yoY (ops:List CmpOp) (bs:List PySem.Expr):Option (CmpOp × PySem.Expr):=(one? ops).bind λop=>(one? bs).bind λb=>grd (!ykh b) (op,b)
noncomputable def two? {α:Type}:List α->Option (α × α)
 | [x,y]=>some (x,y)
 | _=>none
noncomputable def ysd (ops:List CmpOp) (bs:List PySem.Expr):Option ((CmpOp × CmpOp) × PySem.Expr × PySem.Expr):=(two? ops).bind λop=>(two? bs).bind λb=>grd (!ykh b.2) (op,b)
noncomputable def xE (Y:Sys) (F:Fns) (p:Pl) (e:PySem.Expr) (S:SS):List (R SV):=match e with
 | .Name x _=>ret (ygy Y p x S) S
 | .Constant k _ _=>ret (yjm k) S
 | .Attribute o f _=>ybl (ycs o) (rb (λv S=>ret (yn7 Y v f S) S) (F.E p o S))
 | .Subscript a i _=>(match yec i with
  | some lu=>rb (λv S=>rb (λlo S=>rb (λhi S=>yct v lo hi S) (yed F p lu.2 S)) (yed F p lu.1 S)) (F.E p a S)
  | none=>ybl (!yb4 i) (rb (λv S=>rb (λj S=>ret (ykj v j S) S) (F.E p i S)) (F.E p a S)))
 | .BinOp a op b _=>rb (λx S=>rb (λy S=>ymk op x y S) (F.E p b S)) (F.E p a S)
 | .UnaryOp op a _=>rb (λx S=>ret (unF op x) S) (F.E p a S)
 | .Compare a ops bs _=>opt (yoY ops bs) λc=>rb (λx S=>rb (λy S=>ret (ymj c.1 x y S) S) (F.E p c.2 S)) (F.E p a S)
 | .IfExp t a b _=>rb (λq S=>cond q (F.E p a S) (F.E p b S)) (F.T p t S)
 | .Tuple es _ _=>rb (λvs S=>ybl (decide (vs.length<=100)) (one (.r S.os.length) (S.new (.tup vs)))) (xEs F p es S)
 | .Call f as ks pos=>ybl ks.isEmpty (ygA Y F p f as pos S)
 | .List es _=>rb (λvs S=>ybl (decide (vs.length<=100)) (one (.r S.os.length) (S.new (.lst vs)))) (xEs F p es S)
 | .Dict ks vs _=>ybl (ks.isEmpty && vs.isEmpty) (one (.r S.os.length) (S.new .emp))
 | _=>no
noncomputable def xB (F:Fns) (p:Pl) (o:BoolOp):List PySem.Expr->SS->List (R Bool)
 | [],S=>one (o == .And) S
 | e::r,S=>rb (λq S=>cond (q==(o == .And)) (xB F p o r S) (one q S)) (F.T p e S)
noncomputable def xT (F:Fns) (p:Pl) (e:PySem.Expr) (S:SS):List (R Bool):=match e with
 | .Compare a ops bs _=>match yoY ops bs with
  | some c=>rb (λx S=>rb (λy S=>ycu c.1 x y S) (F.E p c.2 S)) (F.E p a S)
  | none=>opt (ysd ops bs) λc=>rb (λx S=>rb (λy S=>rb (λq S=>cond q (rb (λz S=>ycu c.1.2 y z S) (F.E p c.2.2 S)) (one false S)) (ycu c.1.1 x y S)) (F.E p c.2.1 S)) (F.E p a S)
 | .UnaryOp op x _=>ybl (op == .Not) (rb (λq S=>one (!q) S) (F.T p x S))
 | .BoolOp o es _=>xB F p o es S
 | e=>ybl (yeJ e) (rb (λv S=>ybQ v S) (F.E p e S))
noncomputable def ydf (p:Pl) (x:Str) (v:SV) (S:SS):Option SS:=match p.sc.names.lookup x with
 | some .local=>some {S with m:=ylK x v S.m}
 | some .cell=>(yki S x).bind λi=>(S.os[i]?.bind SO.cell?).map λ_=>S.put i (.cell (some v))
 | _=>none
inductive Tgt where
 | n (x:Str)
 | a (y:Str) (yp:Pos) (f:Str)
noncomputable def yjo (Y:Sys) (p:Pl) (t:Tgt) (v:SV) (S:SS):Option SS:=match t with
 | .n x=>ydf p x v S
 | .a y _ f=>(ygy Y p y S).bind λo=>yn8 Y o f v S
noncomputable def ycv (Y:Sys) (p:Pl):List Tgt->List SV->SS->Option SS
 | [],[],S=>some S
 | x::xs,v::vs,S=>(yjo Y p x v S).bind (ycv Y p xs vs)
 | _,_,_=>none
noncomputable def tgt:PySem.Expr->Option Tgt
 | .Name x _=>some (.n x)
 | .Attribute o f _=>match o with
  | .Name y yp=>some (.a y yp f)
  | _=>none
 | _=>none
noncomputable def ydg:List PySem.Expr->Option (List Tgt)
 | []=>some []
 | e::r=>(tgt e).bind λt=>(ydg r).map (t::·)
noncomputable abbrev yod (sc:Scope):Env:=envX ⟨#[]⟩ sc 0 0 .none []
noncomputable def ydN {α:Type}:Sem α->Option α
 | .pure x=>some x
 | _=>none
noncomputable def ymm (p:Pl) (es:List PySem.Expr) (k:Nat) (tp:Pos) (e:PySem.Expr) (pos:Pos):Option (List Tgt × Option (List Str)):=
 (ydg es).bind λxs=>(ydN (swapsWithSole [.Tuple es k tp] e pos.line (yod p.sc))).bind λb=>(ydN (swappedStores [.Tuple es k tp] e (yod p.sc))).bind λsw=>grd (!b) (xs,sw)
noncomputable def yoZ (S:SS):Bool:=(S.hx.bind λi=>S.os[i]?.bind SO.cgt?).isSome
noncomputable def ymn (Y:Sys) (p:Pl) (ts:List Tgt) (sw:Option (List Str)) (v:SV) (S:SS):Option SS:=((S.ob v).bind SO.tup?).bind λes=>cond (decide (es.length=ts.length)) (match sw with
  | none=>cond (p.hd || yoZ S) (ycv Y p ts es S) none
  | some ns=>cond (p.hd && decide (ns.length=ts.length)) (ycv Y p (ns.reverse.map .n) es.reverse S) none) none
noncomputable def yo0 (hd:Bool) (i:Nat) (S:SS):Option (Nat × Nat × Nat):=(S.os[i]?.bind SO.exc?).bind λd=>grd (hd && !(i==d)) (i,d,i)
noncomputable def yp0 (i:Nat) (S:SS):Option (Nat × Nat × Nat):=(S.os[i]?.bind SO.cgt?).bind λdt=>grd (S.hx==some i && !(i==dt.1) && !(i==dt.2) && !(dt.1==dt.2) && (S.os[dt.2]?.bind SO.tb?).isSome) (i,dt.1,dt.2)
noncomputable def yp1 (hd:Bool) (v:SV) (S:SS):Option (Nat × Nat × Nat):=v.i?.bind λi=>match yo0 hd i S with
 | some x=>some x
 | none=>yp0 i S
noncomputable def xS (Y:Sys) (F:Fns) (p:Pl) (st:Stmt) (S:SS):List (R FL):=match st with
 | .Expr e _=>ybl (!yeI e) (rb (λ_ S=>one .nx S) (F.E p e S))
 | .Assign ts e pos=>opt (one? ts) λt=>match t with
  | .Name x _=>ybl (!yeI e) (rb (λv S=>opt (ydf p x v S) (one .nx)) (F.E p e S))
  | .Attribute o f _=>ybl (!yeI e) (rb (λv S=>rb (λov S=>opt (yn8 Y ov f v S) (one .nx)) (F.E p o S)) (F.E p e S))
  | .Tuple es k tp=>opt (ymm p es k tp e pos) λw=>rb (λv S=>opt (ymn Y p w.1 w.2 v S) (one .nx)) (F.E p e S)
  | _=>no
 | .If t a b _=>rb (λq S=>cond q (xSs F p a S) (xSs F p b S)) (F.T p t S)
 | .Return e _=>match e with
  | some e=>rb (λv S=>one (.ret v) S) (F.E p e S)
  | none=>one (.ret .no) S
 | .Pass _=>one .nx S
 | .Raise e c _=>ybl (c.isNone && !p.cells) (opt e λe=>rb (λv S=>opt (yp1 p.hd v S) λx=>[.exc x.1 x.2.1 x.2.2 S]) (F.E p e S))
 | _=>no
noncomputable def run (Y:Sys):Nat->Fns
 | 0=>⟨λ_ _ _=>no,λ_ _ _=>no,λ_ _ _=>no⟩
 | n+1=>⟨xE Y (run Y n),xT (run Y n),xS Y (run Y n)⟩
theorem yag {a b:Bool} (h:(a && b)=true):a=true/\b=true:=Bool.and_eq_true_iff.mp h
theorem ya1 {a:Bool} (h:(!a)=true):a=false:=by
 rcases a with _|_
 ·rfl
 ·first|exact yaa h|cases h
theorem yah {α:Type} {b:Bool} {x y:α} (h:grd b x=some y):b=true/\x=y:=by
 rcases b with _|_
 ·first|exact yaa h|cases h
 ·exact ⟨rfl,Option.some.inj h⟩
theorem yac {α β:Type} {x:Option α} {f:α->Option β} {y:β} (h:x.bind f=some y):∃a,x=some a/\f a=some y:=Option.bind_eq_some_iff.mp h
theorem yav {α β:Type} {x:Option α} {f:α->β} {y:β} (h:x.map f=some y):∃a,x=some a/\f a=y:=Option.map_eq_some_iff.mp h
theorem yaQ {p:Prop} [Decidable p] (h:decide p=true):p:=of_decide_eq_true h
theorem yay {α:Type} {b:Bool} {x:Option α} {y:α} (h:cond b x none=some y):b=true/\x=some y:=by
 rcases b with _|_
 ·first|exact yaa h|cases h
 ·exact ⟨rfl,h⟩
theorem Z.same_eq {a b:Z} (h:a.same b=true):a=b:=by
 induction a generalizing b with
 | v i=>
     rcases b with j|_|_|_
     ·exact congrArg _ (beq_iff_eq.mp h)
     ·first|exact yaa h|cases h
     ·first|exact yaa h|cases h
     ·first|exact yaa h|cases h
 | n i=>
     rcases b with _|j|_|_
     ·first|exact yaa h|cases h
     ·exact congrArg _ (beq_iff_eq.mp h)
     ·first|exact yaa h|cases h
     ·first|exact yaa h|cases h
 | add a b x y=>
         rcases b with _|_|⟨c,d⟩|_
         ·first|exact yaa h|cases h
         ·first|exact yaa h|cases h
         ·have h:=yag h;rw [x h.1,y h.2]
         ·first|exact yaa h|cases h
 | sub a b x y=>
         rcases b with _|_|_|⟨c,d⟩
         ·first|exact yaa h|cases h
         ·first|exact yaa h|cases h
         ·first|exact yaa h|cases h
         ·have h:=yag h;rw [x h.1,y h.2]
theorem C.same_eq {a b:C} (h:a.same b=true):a=b:=by
 induction a generalizing b with
 | v i=>
     rcases b with j|_|_|_|_|_|_|_
     ·exact congrArg _ (beq_iff_eq.mp h)
     ·first|exact yaa h|cases h
     ·first|exact yaa h|cases h
     ·first|exact yaa h|cases h
     ·first|exact yaa h|cases h
     ·first|exact yaa h|cases h
     ·first|exact yaa h|cases h
     ·first|exact yaa h|cases h
 | b i=>
     rcases b with _|j|_|_|_|_|_|_
     ·first|exact yaa h|cases h
     ·exact congrArg _ (beq_iff_eq.mp h)
     ·first|exact yaa h|cases h
     ·first|exact yaa h|cases h
     ·first|exact yaa h|cases h
     ·first|exact yaa h|cases h
     ·first|exact yaa h|cases h
     ·first|exact yaa h|cases h
 | lt x y=>
       rcases b with _|_|⟨c,d⟩|_|_|_|_|_
       ·first|exact yaa h|cases h
       ·first|exact yaa h|cases h
       ·have h:=yag h;rw [Z.same_eq h.1,Z.same_eq h.2]
       ·first|exact yaa h|cases h
       ·first|exact yaa h|cases h
       ·first|exact yaa h|cases h
       ·first|exact yaa h|cases h
       ·first|exact yaa h|cases h
 | le x y=>
       rcases b with _|_|_|⟨c,d⟩|_|_|_|_
       ·first|exact yaa h|cases h
       ·first|exact yaa h|cases h
       ·first|exact yaa h|cases h
       ·have h:=yag h;rw [Z.same_eq h.1,Z.same_eq h.2]
       ·first|exact yaa h|cases h
       ·first|exact yaa h|cases h
       ·first|exact yaa h|cases h
       ·first|exact yaa h|cases h
 | eq x y=>
       rcases b with _|_|_|_|⟨c,d⟩|_|_|_
       ·first|exact yaa h|cases h
       ·first|exact yaa h|cases h
       ·first|exact yaa h|cases h
       ·first|exact yaa h|cases h
       ·have h:=yag h;rw [Z.same_eq h.1,Z.same_eq h.2]
       ·first|exact yaa h|cases h
       ·first|exact yaa h|cases h
       ·first|exact yaa h|cases h
 | tq i x=>
       rcases b with _|_|_|_|_|⟨j,y⟩|_|_
       ·first|exact yaa h|cases h
       ·first|exact yaa h|cases h
       ·first|exact yaa h|cases h
       ·first|exact yaa h|cases h
       ·first|exact yaa h|cases h
       ·have h:=yag h;rw [beq_iff_eq.mp h.1,beq_iff_eq.mp h.2]
       ·first|exact yaa h|cases h
       ·first|exact yaa h|cases h
 | cod i x=>
       rcases b with _|_|_|_|_|_|⟨j,y⟩|_
       ·first|exact yaa h|cases h
       ·first|exact yaa h|cases h
       ·first|exact yaa h|cases h
       ·first|exact yaa h|cases h
       ·first|exact yaa h|cases h
       ·first|exact yaa h|cases h
       ·have h:=yag h;rw [beq_iff_eq.mp h.1,Z.same_eq h.2]
       ·first|exact yaa h|cases h
 | not c ih=>
        rcases b with _|_|_|_|_|_|_|d
        ·first|exact yaa h|cases h
        ·first|exact yaa h|cases h
        ·first|exact yaa h|cases h
        ·first|exact yaa h|cases h
        ·first|exact yaa h|cases h
        ·first|exact yaa h|cases h
        ·first|exact yaa h|cases h
        ·exact congrArg _ (ih h)
theorem Z.lit_eq {a:Z} {k:Int} (h:a.lit=some k):a = .n k:=by
 rcases a with _|i|_|_
 ·first|exact yaa h|cases h
 ·exact congrArg _ (Option.some.inj h)
 ·first|exact yaa h|cases h
 ·first|exact yaa h|cases h
theorem ya5 {z:List Int} {a:Z}:Kp a.lit (a.ev z):=λk h=>by rw [Z.lit_eq h];rfl
theorem C.fix_ev {ρ:Rho} {c:C}:Kp c.fix (c.ev ρ):=by
 induction c with
 | v i=>exact nofun
 | b i=>exact λ_ h=>h
 | lt x y=>exact ybw ya5 ya5
 | le x y=>exact ybw ya5 ya5
 | eq x y=>exact ybw ya5 ya5
 | tq i x=>exact nofun
 | cod i x=>exact nofun
 | not c ih=>exact ygr ih
theorem C.neg_ev {ρ:Rho} {c:C} {x:Bool} (h:c.neg.ev ρ=some x):c.ev ρ=some !x:=by
 refine yab λGG hGG=>?_
 rcases c with _|_|_|_|_|_|_|d
 ·obtain ⟨y,hy,e⟩:=yav h;refine hGG ?_;clear hGG GG;rw [hy,<-e,Bool.not_not]
 ·obtain ⟨y,hy,e⟩:=yav h;refine hGG ?_;clear hGG GG;rw [hy,<-e,Bool.not_not]
 ·obtain ⟨y,hy,e⟩:=yav h;refine hGG ?_;clear hGG GG;rw [hy,<-e,Bool.not_not]
 ·obtain ⟨y,hy,e⟩:=yav h;refine hGG ?_;clear hGG GG;rw [hy,<-e,Bool.not_not]
 ·obtain ⟨y,hy,e⟩:=yav h;refine hGG ?_;clear hGG GG;rw [hy,<-e,Bool.not_not]
 ·obtain ⟨y,hy,e⟩:=yav h;refine hGG ?_;clear hGG GG;rw [hy,<-e,Bool.not_not]
 ·obtain ⟨y,hy,e⟩:=yav h;refine hGG ?_;clear hGG GG;rw [hy,<-e,Bool.not_not]
 ·refine hGG ?_;clear hGG GG
  exact congrArg (Option.map (!·)) h
theorem C.ev_neg {ρ:Rho} {c:C} (h:c.ev ρ=some false):c.neg.ev ρ=some true:=by
 rcases c with _|_|_|_|_|_|_|d
 ·exact congrArg (Option.map (!·)) h
 ·exact congrArg (Option.map (!·)) h
 ·exact congrArg (Option.map (!·)) h
 ·exact congrArg (Option.map (!·)) h
 ·exact congrArg (Option.map (!·)) h
 ·exact congrArg (Option.map (!·)) h
 ·exact congrArg (Option.map (!·)) h
 ·obtain ⟨y,hy,e⟩:=yav h;rw [show (C.not d).neg.ev ρ=some y from hy];cases y with|true=>rfl|false=>cases e
theorem yeL {pc:List C} {c:C} (h:pc.any c.same=true):c∈pc:=by
 obtain ⟨d,hd,e⟩:=List.any_eq_true.mp h
 rw [C.same_eq e];exact hd
theorem C.known_ev {ρ:Rho} {pc:List C} {c:C} {x:Bool} (hp:∀d∈pc,d.ev ρ=some true) (h:c.known pc=some x):c.ev ρ=some x:=by
 unfold C.known at h
 generalize hf:(c.fix)=x9
 rcases x9 with _|u
 ·rw [hf] at h
  generalize h1:(pc.any c.same)=x9
  refine yab λGG hGG=>?_
  rcases x9 with _|_
  ·rw [h1] at h
   obtain ⟨h2,h⟩:=yay h
   cases h
   refine hGG ?_;clear hGG GG
   exact C.neg_ev (hp _ (yeL h2))
  ·rw [h1] at h;cases h;refine hGG ?_;clear hGG GG;exact hp _ (yeL h1)
 ·rw [hf] at h;cases h;exact C.fix_ev _ hf
section
variable {α β:Type} {f:α->SS->List (R β)} {l:List (R α)} {a:α} {S:SS}
theorem ygB {r:R β} (h : .ok a S∈l) (hr:r∈f a S):r∈rb f l:=by
 induction l with
 | nil=>cases h
 | cons x l ih=>
  rcases List.mem_cons.mp h with e|h2
  ·rw [<-e];exact List.mem_append_left _ hr
  ·rcases x with ⟨b,T⟩|_|_
   ·exact List.mem_append_right _ (ih h2)
   ·exact .tail _ (ih h2)
   ·exact .tail _ (ih h2)
theorem ygC {r:R α} {q:R β} (h:r∈l) (e:rb f [r] = [q]) (hr:∀b T,r≠.ok b T):q∈rb f l:=by
 induction l with
 | nil=>cases h
 | cons x l ih=>
  rcases List.mem_cons.mp h with e2|h2
  ·rcases r with ⟨b,T⟩|⟨i,j,k,T⟩|_
   ·exact absurd rfl (hr b T)
   ·rw [<-e2];rw [<-List.singleton_inj.mp e];exact .head _
   ·rw [<-e2];rw [<-List.singleton_inj.mp e];exact .head _
  ·rcases x with ⟨b,T⟩|_|_
   ·exact List.mem_append_right _ (ih h2)
   ·exact .tail _ (ih h2)
   ·exact .tail _ (ih h2)
theorem ymo {i j k:Nat} (h : .exc i j k S∈l) : .exc i j k S∈rb f l:=ygC h rfl nofun
theorem ymp (h:R.bad∈l):R.bad∈rb f l:=ygC h rfl nofun
end
structure ymq (c:Cx) (m:Map) (e D:Addr) (oD:Obj) (ns:Led):Prop where
 go:∀h tk a0 G,Fr c.g c.L G m->RaisedX c.base G (c.env::c.outer) e (.ref 41) a0 (some D) ((D,oD)::(ns++c.tl)) h->c.E (.ref e) (c.st h tk)
noncomputable abbrev less (ns:Led) (e D T:Addr):Led:=ns.filter λp=>p.1 != e && p.1 != D && p.1 != T
noncomputable def ybm (c:Cx) (m:Map) (ns:Led) (i j k:Nat):Prop:=(yae ns).Nodup->(∀p∈ns,∀q∈c.tl,q.1≠p.1)->∀e D T oe oD,ns[i]? = some (e,oe)->oe.dict=some D->(yae ns)[k]? = some T->ns[j]? = some (D,oD)->ymq c m e D oD (less ns e D T)
structure Good {α:Type} (c:Cx) (ρ:Rho) (ns:Led) (l:List (R α)):Prop where
 nb:R.bad ∉ l
 ex:∀i j k S',.exc i j k S'∈l->∀ρ' m' ns',Up ρ ρ' (yae ns) (yae ns')->Den c ρ' S' m' ns'->ybm c m' ns' i j k
inductive PE {α β:Type} (D:Rho->List Addr->α->β->Prop) (c:Cx) (m:Map) (ρ:Rho) (ns:Led) (l:List (R α)) (v:β) (ns':Led):Prop
 | mk {ρ':Rho} {a:α} {S':SS} (mem : .ok a S'∈l) (up:Up ρ ρ' (yae ns) (yae ns')) (d:D ρ' (yae ns') a v) (den:Den c ρ' S' m ns'):PE D c m ρ ns l v ns'
noncomputable def DB (_:Rho) (_:List Addr) (a b:Bool):Prop:=a=b
noncomputable def DU (_:Rho) (_:List Addr) (_ _:Unit):Prop:=True
inductive DFl (ρ:Rho) (as:List Addr):FL->Flow->Prop
 | nx:DFl ρ as .nx .next
 | ret {x:SV} {v:Value}:DV ρ as x v->DFl ρ as (.ret x) (.ret v)
 | brk:DFl ρ as .brk .brk
 | cnt:DFl ρ as .cnt .cont
noncomputable abbrev PS (c:Cx) (ρ:Rho) (ns:Led) (l:List (R FL)) (v:Flow) (m:Map) (ns':Led):Prop:=PE DFl c m ρ ns l v ns'
section
variable {α β γ δ:Type} {c:Cx} {m m':Map} {ρ ρ':Rho} {ns ns':Led} {f:α->SS->List (R β)} {l:List (R α)} {a:α} {S S':SS} {D:Rho->List Addr->α->γ->Prop} {D':Rho->List Addr->β->δ->Prop}
theorem Good.left (g:Good c ρ ns (rb f l)):Good c ρ ns l:=⟨λh=>g.nb (ymp h),λi j k S' h=>g.ex i j k S' (ymo h)⟩
theorem Good.right (g:Good c ρ ns (rb f l)) (h : .ok a S'∈l) (u:Up ρ ρ' (yae ns) (yae ns')):Good c ρ' ns' (f a S'):=
 ⟨λb=>g.nb (ygB h b),λi j k S2 e ρ2 m2 ns2 u2 d=>g.ex i j k S2 (ygB h e) ρ2 m2 ns2 (u.trans u2) d⟩
theorem Good.nob {x:Prop} (g:Good c ρ ns (no:List (R α))):x:=absurd (.head _) g.nb
theorem Good.opt {o:Option γ} {k:γ->List (R α)} (g:Good c ρ ns (opt o k)):∃x,o=some x/\opt o k=k x:=by
 rcases o with _|x
 ·exact g.nob
 ·exact ⟨x,rfl,rfl⟩
theorem Good.iff {b:Bool} {l:List (R α)} (g:Good c ρ ns (ybl b l)):b=true/\ybl b l=l:=by
 rcases b with _|_
 ·exact g.nob
 ·exact ⟨rfl,rfl⟩
theorem ybS:Good c ρ ns (one a S):=⟨λh=>(List.mem_cons.mp h).elim nofun nofun,λi j k S' h=>(List.mem_cons.mp h).elim nofun nofun⟩
theorem yaP {v:γ} (d:Den c ρ S m ns) (dv:D ρ (yae ns) a v):PE D c m ρ ns (one a S) v ns:=⟨.head _,.refl,dv,d⟩
theorem PE.up {v:δ} {ns2:Led} (p:PE D' c m ρ' ns' (f a S') v ns2) (h : .ok a S'∈l) (u:Up ρ ρ' (yae ns) (yae ns')):PE D' c m ρ ns (rb f l) v ns2:=by
 obtain ⟨hm,u2,d,den⟩:=p;exact ⟨ygB h hm,u.trans u2,d,den⟩
theorem PE.at {v:δ} {ns2:Led} (h : .ok a S'∈l) (u:Up ρ ρ' (yae ns) (yae ns')) (p:PE D' c m ρ' ns' (f a S') v ns2):PE D' c m ρ ns (rb f l) v ns2:=p.up h u
theorem yaY {t:Sem γ} {K:γ->Led->Prop} (g:Good c ρ ns (rb f l)) (x:Good c ρ ns l->WE c m ns t (PE D c m ρ ns l))
  (k:∀a v S' ρ' ns',Up ρ ρ' (yae ns) (yae ns')->D ρ' (yae ns') a v->Den c ρ' S' m ns'->Good c ρ' ns' (f a S')->(∀{β':Type} {D2:Rho->List Addr->β->β'->Prop} {m2:Map} {w:β'} {n2:Led},PE D2 c m2 ρ' ns' (f a S') w n2->PE D2 c m2 ρ ns (rb f l) w n2)->K v ns'):WE c m ns t K:=
 (x g.left).mono λv ns' p=>by obtain ⟨hm,up,d,den⟩:=p;exact k _ v _ _ ns' up d den (g.right hm up) λp=>p.up hm up
theorem yee {ε ζ:Type} {l:List (R α)} {G:SS->List (R ε)} {h:α->ε->SS->List (R β)} {t:Sem γ} {t2:Sem ζ} {D2:Rho->List Addr->ε->ζ->Prop} {K:γ->ζ->Led->Prop}
  (g:Good c ρ ns (rb (λa S=>rb (λb S=>h a b S) (G S)) l)) (x:Good c ρ ns l->WE c m ns t (PE D c m ρ ns l)) (y:∀ρ1 S1 n1,Den c ρ1 S1 m n1->Good c ρ1 n1 (G S1)->WE c m n1 t2 (PE D2 c m ρ1 n1 (G S1)))
  (hD:∀{ρ ρ' as as' a v},Up ρ ρ' as as'->D ρ as a v->D ρ' as' a v)
  (k:∀a b v w ρ2 S2 n2,D ρ2 (yae n2) a v->D2 ρ2 (yae n2) b w->Den c ρ2 S2 m n2->Good c ρ2 n2 (h a b S2)->(∀{β':Type} {D3:Rho->List Addr->β->β'->Prop} {m3:Map} {w:β'} {n3:Led},PE D3 c m3 ρ2 n2 (h a b S2) w n3->PE D3 c m3 ρ ns (rb (λa S=>rb (λb S=>h a b S) (G S)) l) w n3)->K v w n2) :
  WE c m ns t λv n1=>WE c m n1 t2 λw n2=>K v w n2:=
 yaY g x λa v S1 ρ1 n1 u d den g1 up=>yaY g1 (y ρ1 S1 n1 den) λb w S2 ρ2 n2 u2 d2 den2 g2 up2=>k a b v w ρ2 S2 n2 (hD u2 d) d2 den2 g2 λp=>up (up2 p)
theorem ycc {o:Option SV} {t:Sem Value} (d:Den c ρ S m ns) (g:Good c ρ ns (ret o S)) (h:∀u,o=some u->WE c m ns t λv n=>n=ns/\DV ρ (yae ns) u v):WE c m ns t (PE DV c m ρ ns (ret o S)):=by
 obtain ⟨u,hu,e⟩:=g.opt
 unfold ret
 rw [e]
 exact (h u hu).mono λv n k=>by obtain ⟨rfl,dv⟩:=k;exact yaP d dv
end
theorem yo1 {c:Cx} {m:Map} {ρ:Rho} {ns:Led} {S:SS} {C:Mine.C} {q:Bool} (d:Den c ρ S m ns) (h:C.ev ρ=some q):PE DB c m ρ ns (xC C S) q ns:=by
 unfold xC
 generalize hk:(C.known S.pc)=x9
 rcases x9 with _|x
 ·rcases q with _|_
  ·exact ⟨.tail _ (.head _),.refl,rfl,⟨d.loc,d.obs,fC (C.ev_neg h) d.pcs,d.tls,d.cls,d.hx⟩⟩
  ·exact ⟨.head _,.refl,rfl,⟨d.loc,d.obs,fC h d.pcs,d.tls,d.cls,d.hx⟩⟩
 ·cases (C.known_ev d.pcs hk).symm.trans h;exact yaP d rfl
section
variable {c:Cx} {m m':Map} {ρ:Rho} {ns:Led} {S:SS} {i:Nat} {x:SO} {a:Addr} {o o':Obj} {v:SV} {u:Value}
theorem Den.ob (d:Den c ρ S m ns) (h:S.ob v=some x) (dv:DV ρ (yae ns) v u):∃a o,u = .ref a/\(a,o)∈ns++c.tl/\DO c.w ρ (yae ns) x a o:=by
 refine yab λGG hGG=>?_
 rcases v with _|_|_|_|_|i|i|_|_|_|_
 ·first|exact yaa h|cases h
 ·first|exact yaa h|cases h
 ·first|exact yaa h|cases h
 ·first|exact yaa h|cases h
 ·first|exact yaa h|cases h
 ·obtain ⟨a,ha,e⟩:=dv
  obtain ⟨o,eb,k⟩:=d.atA h ha
  refine hGG ?_;clear hGG GG
  exact ⟨a,o,e,List.mem_append_left _ (List.mem_of_getElem? eb),k⟩
 ·obtain ⟨a,ha,e⟩:=dv
  obtain ⟨eb,hm,k⟩:=d.tls i x h
  cases eb.symm.trans ha
  refine hGG ?_;clear hGG GG
  exact ⟨_,_,e,List.mem_append_right _ hm,k.up ⟨List.prefix_refl _,List.prefix_refl _,List.prefix_refl _,List.prefix_refl _,List.prefix_refl _,List.prefix_refl _,List.prefix_refl _,List.nil_prefix⟩⟩
 ·first|exact yaa h|cases h
 ·first|exact yaa h|cases h
 ·first|exact yaa h|cases h
 ·first|exact yaa h|cases h
theorem Den.ref (d:Den c ρ S m ns) (h:v.i? = some i) (hx:S.os[i]? = some x) (dv:DV ρ (yae ns) v u):∃a o,u = .ref a/\ns[i]? = some (a,o)/\DO c.w ρ (yae ns) x a o:=by
 refine yab λGG hGG=>?_
 rcases v with _|_|_|_|_|j|_|_|_|_|_
 ·first|exact yaa h|cases h
 ·first|exact yaa h|cases h
 ·first|exact yaa h|cases h
 ·first|exact yaa h|cases h
 ·first|exact yaa h|cases h
 ·cases h
  obtain ⟨a,ha,e⟩:=dv
  obtain ⟨o,eb,k⟩:=d.atA hx ha
  refine hGG ?_;clear hGG GG
  exact ⟨a,o,e,eb,k⟩
 ·first|exact yaa h|cases h
 ·first|exact yaa h|cases h
 ·first|exact yaa h|cases h
 ·first|exact yaa h|cases h
 ·first|exact yaa h|cases h
theorem Den.put (d:Den c ρ S m ns) (h:ns[i]? = some (a,o)) (k:DO c.w ρ (yae ns) x a o'):Den c ρ (S.put i x) m (ns.set i (a,o')):=by
 have ek:=yaU (o':=o') h
 refine ⟨λy=>by rw [ek];exact d.loc y,⟨by rw [List.length_set];exact (List.length_set ..).trans d.obs.len,λj y p hj hp=>?_⟩,d.pcs,d.tls,λy j hj=>by rw [ek];exact d.cls y j hj,λj hj=>by rw [ek];exact d.hx j hj⟩
 rw [ek]
 have hj:(S.os.set i x)[j]? = some y:=hj
 have hi:=(List.getElem?_eq_some_iff.mp h).1
 by_cases e:i=j
 ·subst e
  rw [List.getElem?_set_self (by rw [d.obs.len];exact hi)] at hj
  rw [List.getElem?_set_self hi] at hp
  cases hj;cases hp;exact k
 ·rw [List.getElem?_set_ne e] at hj hp
  exact d.obs.all j y p hj hp
theorem ygD {α:Type} {l:List α} {x y:α} {j:Nat} (h:(l ++ [x])[j]? = some y):l[j]? = some y∨(j=l.length/\x=y):=by
 rcases Nat.lt_or_ge j l.length with q|q
 ·rw [List.getElem?_append_left q] at h;exact .inl h
 ·rw [List.getElem?_append_right q] at h
  have:=(List.getElem?_eq_some_iff.mp h).1
  have e:j=l.length:=Nat.le_antisymm (Nat.le_of_sub_eq_zero (Nat.lt_one_iff.mp this)) q
  rw [e,Nat.sub_self] at h
  exact .inr ⟨e,Option.some.inj h⟩
theorem ycw {α:Type} {l:List α} {x:α}:(l ++ [x])[l.length]? = some x:=by rw [List.getElem?_append_right (Nat.le_refl _),Nat.sub_self];rfl
theorem Den.new (d:Den c ρ S m ns) (k:DO c.w ρ (yae (ns ++ [(a,o)])) x a o):Den c ρ (S.new x) m (ns ++ [(a,o)]):=by
 have u:Up ρ ρ (yae ns) (yae (ns ++ [(a,o)])):=yas
 refine ⟨λy=>(d.loc y).up u,⟨by rw [List.length_append];exact (List.length_append ..).trans (congrArg (· + 1) d.obs.len),λj y p hj hp=>?_⟩,d.pcs,d.tls,λy j hj=>(d.cls y j hj).imp λb h=>⟨yad u.a b h.1,h.2⟩,λj hj=>(d.hx j hj).imp λb h=>⟨yad u.a b h.1,h.2⟩⟩
 rcases ygD hj with hj|⟨e,rfl⟩
 ·rcases ygD hp with hp|⟨e,_⟩
  ·exact (d.obs.all j y p hj hp).up u
  ·exact absurd (List.getElem?_eq_some_iff.mp hj).1 (by rw [e,d.obs.len];exact Nat.lt_irrefl _)
 ·rw [e,d.obs.len,ycw] at hp
  cases hp;exact k
theorem Den.last (d:Den c ρ S m ns):(yae (ns ++ [(a,o)]))[S.os.length]? = some a:=by
 rw [d.obs.len,yae,List.map_append,<-List.length_map (as:=ns) (f:=(·.1))]
 exact ycw
end
noncomputable def yjp (w:World) (x:Str) (u:SV):Prop:=∃v,(∀ρ as,DV ρ as u v)/\(nsIn (KK w.params) mainGlobals x=some (some v)∨(nsIn (KK w.params) mainGlobals x=some none/\bootBuiltins x=some v/\x≠"__name__"))
noncomputable def ygE:Option NameKind->Bool
 | some .local=>true
 | _=>false
noncomputable def ymr:NameKind->Bool
 | .cell=>true
 | _=>false
noncomputable def isFn:ScopeKind->Bool
 | .function=>true
 | _=>false
noncomputable def ycd (D:Def):Bool:=(D.ps.all λx=>ygE (D.sc.names.lookup x)) && (D.sc.names.lookup (Str.ofString "__debug__")).isNone && !D.sc.isCoroutine && !D.sc.isGenerator && isFn D.sc.kind && !D.sc.names.any λx=>ymr x.2
structure DefOk (w:World) (b:Addr) (D:Def):Prop where
 there:∃oc od osl dV kV doc pm an cdv ct,(KK w.params).lookup b=some ⟨oc,od,.func (fnOf D.name D.qual D.params D.body D.sc dV kV doc pm an cdv ct),osl⟩/\codeIn (KK w.params) cdv D.qual=true /\
  ∀s vs,vs.length=D.ps.length->BindsTo s (fnOf D.name D.qual D.params D.body D.sc dV kV doc pm an cdv ct) ⟨vs,[]⟩ (D.ps.zip vs)
 chk:ycd D=true
theorem ycW {x:Option NameKind} (h:ygE x=true):x=some .local:=by
 rcases x with _|x
 ·cases h
 ·rcases x<;>first|rfl|cases h
section
variable {w:World} {b:Addr} {D:Def}
theorem DefOk.loc (d:DefOk w b D):∀x∈D.ps,D.sc.names.lookup x=some .local:=λx hx=>ycW (List.all_eq_true.mp (yag (yag (yag (yag (yag d.chk).1).1).1).1).1 x hx)
end
structure IniOk (w:World) (C:Addr) (I:Ini):Prop where
 makes:makesIn (KK w.params) C=true
 look:findIn (KK w.params) (.ref C) "__init__" = some (some (.ref I.f))
 fn:PySem.W.isFn (KK w.params) (.ref I.f)=true
 there:∃dvs oc od osl dV kV doc pm an cdv ct,(∀ρ as,DVs ρ as I.ds dvs)/\(KK w.params).lookup I.f=some ⟨oc,od,.func (fnOf I.D.name I.D.qual I.D.params I.D.body I.D.sc dV kV doc pm an cdv ct),osl⟩/\codeIn (KK w.params) cdv I.D.qual=true /\
  ∀s vs,(KK w.params).In s.heap->vs.length+I.ds.length=I.D.ps.length->BindsTo s (fnOf I.D.name I.D.qual I.D.params I.D.body I.D.sc dV kV doc pm an cdv ct) ⟨vs,[]⟩ (I.D.ps.zip (vs++dvs))
 chk:ycd I.D=true
theorem IniOk.loc {w:World} {C:Addr} {I:Ini} (d:IniOk w C I):∀x∈I.D.ps,I.D.sc.names.lookup x=some .local:=λx hx=>ycW (List.all_eq_true.mp (yag (yag (yag (yag (yag d.chk).1).1).1).1).1 x hx)
theorem ydh {D:Def} (h:ycd D=true):D.sc.names.lookup (Str.ofString "__debug__")=none:=Option.isNone_iff_eq_none.mp (yag (yag (yag (yag (yag h).1).1).1).1).2
theorem ygF {D:Def} (h:ycd D=true):D.sc.isCoroutine=false:=ya1 (yag (yag (yag (yag h).1).1).1).2
theorem ygG {D:Def} (h:ycd D=true):D.sc.isGenerator=false:=ya1 (yag (yag (yag h).1).1).2
theorem ycx {D:Def} (h:ycd D=true):D.sc.kind = .function:=by
 have h:=(yag (yag h).1).2
 generalize D.sc.kind=k at h
 rcases k<;>first|rfl|cases h
theorem ydi {D:Def} (h:ycd D=true):∀x∈D.sc.names,x.2≠.cell:=λx hx e=>by
 have h:=List.any_eq_false.mp (ya1 (yag h).2) x hx
 rw [e] at h
 exact h rfl
structure yjq (w:World) (C b:Addr):Prop where
 m1:plainGet (KK w.params) C (Str.ofString "whole")=true
 m2:findIn (KK w.params) (.ref C) (Str.ofString "whole")=some (some (.ref b))
 m3:PySem.W.isFn (KK w.params) (.ref b)=true
 m4:keepIn (KK w.params) (.ref b)=true
structure Cx.At (c:Cx) (p:Pl):Prop where
 f:c.Fit
 sc:c.sc=p.sc
 dp:c.A.depth+p.k<=600
 un:c.A.units+3 * p.k<=3000
 cl:p.cells=false->c.cl = []
 hh:p.hd=true->c.A.handled=none
structure Sys.Ok (Y:Sys) (w:World):Prop where
 gl:∀x u,Y.gl.lookup x=some u->yjp w x u
 keep:∀x b,Y.gl.lookup x=some (.f b)->keepIn (KK w.params) (.ref b)=true
 fns:∀b D,Y.fns.lookup b=some D->DefOk w b D
 ini:∀C I,Y.ini.lookup C=some I->IniOk w C I
 meth:∀C b,Y.meth.lookup C=some b->yjq w C b
 gets:∀g∈Y.gets,ygt w.params g.1 g.2
 sets:∀g∈Y.sets,ygu w.params g.1 g.2
 con:∀p b vs S l,Y.con p b vs S=some l->p.cells=false->∀c ρ m ns us,c.w=w->Cx.At c p->DVs ρ (yae ns) vs us->Den c ρ S m ns->Good c ρ ns l->WE c m ns (call (.ref b) us) (PE DV c m ρ ns l)
structure ybJ (w:World) (F:Fns):Prop where
 E:∀c p e S ρ m ns,c.w=w->Cx.At c p->Den c ρ S m ns->Good c ρ ns (F.E p e S)->WE c m ns (eval e c.env) (PE DV c m ρ ns (F.E p e S))
 T:∀c p e S ρ m ns,c.w=w->Cx.At c p->Den c ρ S m ns->Good c ρ ns (F.T p e S)->WE c m ns (PySem.isTrue e c.env (eval e c.env)) (PE DB c m ρ ns (F.T p e S))
 S:∀c p st S ρ m ns,c.w=w->Cx.At c p->Den c ρ S m ns->Good c ρ ns (F.S p st S)->WS c m ns (exec st c.env) (PS c ρ ns (F.S p st S))
theorem ygH {x:SO} {y:Addr × Nat} (h:x.inst? = some y):x = .inst y.1 y.2:=by
 refine yab λGG hGG=>?_
 rcases x with ⟨C,j⟩|_|_|_|_|_|_|_|_|_|_|_|_|_|_
 ·cases h;refine hGG ?_;clear hGG GG;rfl
 ·first|exact yaa h|cases h
 ·first|exact yaa h|cases h
 ·first|exact yaa h|cases h
 ·first|exact yaa h|cases h
 ·first|exact yaa h|cases h
 ·first|exact yaa h|cases h
 ·first|exact yaa h|cases h
 ·first|exact yaa h|cases h
 ·first|exact yaa h|cases h
 ·first|exact yaa h|cases h
 ·first|exact yaa h|cases h
 ·first|exact yaa h|cases h
 ·first|exact yaa h|cases h
 ·first|exact yaa h|cases h
theorem yjr {x:SO} {y:Bool × List (Str × SV)} (h:x.dct? = some y):x = .dct y.1 y.2:=by
 refine yab λGG hGG=>?_
 rcases x with _|⟨C,j⟩|_|_|_|_|_|_|_|_|_|_|_|_|_
 ·first|exact yaa h|cases h
 ·cases h;refine hGG ?_;clear hGG GG;rfl
 ·first|exact yaa h|cases h
 ·first|exact yaa h|cases h
 ·first|exact yaa h|cases h
 ·first|exact yaa h|cases h
 ·first|exact yaa h|cases h
 ·first|exact yaa h|cases h
 ·first|exact yaa h|cases h
 ·first|exact yaa h|cases h
 ·first|exact yaa h|cases h
 ·first|exact yaa h|cases h
 ·first|exact yaa h|cases h
 ·first|exact yaa h|cases h
 ·first|exact yaa h|cases h
theorem ygI {x:SO} {y:List SV} (h:x.tup? = some y):x = .tup y:=by
 refine yab λGG hGG=>?_
 rcases x with _|_|C|_|_|_|_|_|_|_|_|_|_|_|_
 ·first|exact yaa h|cases h
 ·first|exact yaa h|cases h
 ·cases h;refine hGG ?_;clear hGG GG;rfl
 ·first|exact yaa h|cases h
 ·first|exact yaa h|cases h
 ·first|exact yaa h|cases h
 ·first|exact yaa h|cases h
 ·first|exact yaa h|cases h
 ·first|exact yaa h|cases h
 ·first|exact yaa h|cases h
 ·first|exact yaa h|cases h
 ·first|exact yaa h|cases h
 ·first|exact yaa h|cases h
 ·first|exact yaa h|cases h
 ·first|exact yaa h|cases h
theorem yms {x:SO} {y:Nat} (h:x.exc? = some y):x = .exc y:=by
 refine yab λGG hGG=>?_
 rcases x with _|_|_|_|_|_|_|C|_|_|_|_|_|_|_
 ·first|exact yaa h|cases h
 ·first|exact yaa h|cases h
 ·first|exact yaa h|cases h
 ·first|exact yaa h|cases h
 ·first|exact yaa h|cases h
 ·first|exact yaa h|cases h
 ·first|exact yaa h|cases h
 ·cases h;refine hGG ?_;clear hGG GG;rfl
 ·first|exact yaa h|cases h
 ·first|exact yaa h|cases h
 ·first|exact yaa h|cases h
 ·first|exact yaa h|cases h
 ·first|exact yaa h|cases h
 ·first|exact yaa h|cases h
 ·first|exact yaa h|cases h
theorem ymt {x:SO} {y:Nat × List (Z × Option SV)} (h:x.map? = some y):x = .map y.1 y.2:=by
 refine yab λGG hGG=>?_
 rcases x with _|_|_|_|_|_|⟨i,C⟩|_|_|_|_|_|_|_|_
 ·first|exact yaa h|cases h
 ·first|exact yaa h|cases h
 ·first|exact yaa h|cases h
 ·first|exact yaa h|cases h
 ·first|exact yaa h|cases h
 ·first|exact yaa h|cases h
 ·cases h;refine hGG ?_;clear hGG GG;rfl
 ·first|exact yaa h|cases h
 ·first|exact yaa h|cases h
 ·first|exact yaa h|cases h
 ·first|exact yaa h|cases h
 ·first|exact yaa h|cases h
 ·first|exact yaa h|cases h
 ·first|exact yaa h|cases h
 ·first|exact yaa h|cases h
theorem yko {x:SO} {y:Option SV} (h:x.cell? = some y):x = .cell y:=by
 refine yab λGG hGG=>?_
 rcases x with _|_|_|_|_|_|_|_|_|_|_|C|_|_|_
 ·first|exact yaa h|cases h
 ·first|exact yaa h|cases h
 ·first|exact yaa h|cases h
 ·first|exact yaa h|cases h
 ·first|exact yaa h|cases h
 ·first|exact yaa h|cases h
 ·first|exact yaa h|cases h
 ·first|exact yaa h|cases h
 ·first|exact yaa h|cases h
 ·first|exact yaa h|cases h
 ·first|exact yaa h|cases h
 ·cases h;refine hGG ?_;clear hGG GG;rfl
 ·first|exact yaa h|cases h
 ·first|exact yaa h|cases h
 ·first|exact yaa h|cases h
noncomputable abbrev yeM (ρ:Rho) (ns:Led) (u:SV) (v:Value) (n:Led):Prop:=n=ns/\DV ρ (yae ns) u v
section
variable {c:Cx} {p:Pl} {m:Map} {ρ:Rho} {ns:Led} {S:SS} {Y:Sys} {F:Fns}
theorem kind_of (f:c.At p) (x:Str):c.env.kindOf x=p.sc.names.lookup x:=by rw [<-f.sc];rfl
theorem ycX (f:c.At p) {x:Str} {y:NameKind} (h:c.env.kindOf x=some y):(x==Str.ofString "__debug__")=false:=beq_eq_false_iff_ne.mpr λe=>by rw [e,f.f.dbg] at h;cases h
theorem yef (Yo:Y.Ok c.w) (f:c.At p) {x:Str} {xp:Pos} {u:SV} (hk:c.env.kindOf x=some .globalImplicit) (hy:Y.gl.lookup x=some u):WE c m ns (eval (.Name x xp) c.env) (yeM ρ ns u):=by
 have hd:=ycX f hk
 refine yab λGG hGG=>?_
 obtain ⟨v,dv,h⟩:=Yo.gl x u hy
 obtain ⟨mean,mg,mb,T⟩:=f.f.T
 rcases h with e|⟨e,eb,hn⟩
 ·refine hGG ?_;clear hGG GG
  exact ⟨λh tk i=>nameX_K i.F f.f.X (topRead_of T) e (yap i ⟨rfl,dv _ _⟩) f.f.fn hk hd⟩
 ·refine hGG ?_;clear hGG GG
  exact ⟨λh tk i=>nameX_B i.F f.f.X (topRead_of T) e eb hn (yap i ⟨rfl,dv _ _⟩) f.f.fn hk hd⟩
inductive yjs (c:Cx) (ρ:Rho) (ns:Led) (x:Str) (i:Nat) (u:Option SV):Prop
 | mk {a:Addr} {o:Obj} {v:Option Value} (e:ns[i]? = some (a,o)) (l:c.cl.lookup x=some a) (d:o.data = .cell v) (k:DQ ρ (yae ns) u v):yjs c ρ ns x i u
theorem ygJ {x:Str} {i:Nat} {u:Option SV} (d:Den c ρ S m ns) (h1:yki S x=some i) (h2:S.os[i]?.bind SO.cell? = some u):yjs c ρ ns x i u:=by
 refine yab λGG hGG=>?_
 obtain ⟨a,ea,ec⟩:=d.cls x i h1
 obtain ⟨y,hy,h2⟩:=yac h2
 cases yko h2
 obtain ⟨o,eb,e1,e2⟩:=d.atA hy ea
 refine hGG ?_;clear hGG GG
 exact ⟨eb,ec,e1,e2⟩
theorem ydj (Yo:Y.Ok c.w) (f:c.At p) {x:Str} {xp:Pos} {u:SV} (d:Den c ρ S m ns) (h:ygy Y p x S=some u):WE c m ns (eval (.Name x xp) c.env) (yeM ρ ns u):=by
 have hk:=kind_of f x
 unfold ygy at h
 generalize q:(p.sc.names.lookup x)=x9
 rcases x9 with _|y
 ·rw [q] at h;cases h
 ·rw [q] at h hk
  refine yab λGG hGG=>?_
  rcases y with _|_|_|_|_
  ·have hl:=d.loc x
   rw [show S.m.lookup x=some u from h] at hl
   obtain ⟨v,hv,dv⟩:=ya3 hl
   refine hGG ?_;clear hGG GG
   exact ⟨λh tk i=>nameX_L i.F hv (yap i ⟨rfl,dv⟩) f.f.fn hk (ycX f hk)⟩
  ·obtain ⟨j,h1,h⟩:=yac h
   obtain ⟨w,h2,h3⟩:=yac h
   cases (show w=some u from h3)
   obtain ⟨eb,ec,e1,e2⟩:=ygJ d h1 h2
   obtain ⟨v,rfl,dv⟩:=ya3 e2
   refine hGG ?_;clear hGG GG
   exact ⟨λh tk i=>nameX_C i.N ec (i.mem eb) e1 (yap i ⟨rfl,dv⟩) f.f.fn hk (ycX f hk)⟩
  ·first|exact yaa h|cases h
  ·first|exact yaa h|cases h
  ·refine hGG ?_;clear hGG GG
   exact yef Yo f hk h
theorem ydO {k:Const} {j:Nat} {pos:Pos} {u:SV} (h:yjm k=some u):WE c m ns (eval (.Constant k j pos) c.env) (yeM ρ ns u):=by
 refine ⟨λh1 tk i=>?_⟩
 refine yab λGG hGG=>?_
 rcases k with _|b|z|_|_|x|_|_
 ·cases h;refine hGG ?_;clear hGG GG;exact wpAny_Constant_none (yap i ⟨rfl,rfl⟩)
 ·cases h;refine hGG ?_;clear hGG GG;exact wpAny_Constant_bool (yap i ⟨rfl,_,rfl,rfl⟩)
 ·cases h;refine hGG ?_;clear hGG GG;exact wpAny_Constant_int (yap (tk:=tk+1) i ⟨rfl,_,_,rfl,rfl⟩)
 ·first|exact yaa h|cases h
 ·first|exact yaa h|cases h
 ·cases h;refine hGG ?_;clear hGG GG;exact Calls.Constant_str (yap (tk:=tk+1) i ⟨rfl,_,rfl⟩)
 ·first|exact yaa h|cases h
 ·first|exact yaa h|cases h
theorem ydk {l:List (Addr × Str)} {C:Addr} {f:Str} (h:yn6 l C f=true):(C,f)∈l:=by
 refine yab λGG hGG=>?_
 obtain ⟨⟨a,b⟩,hm,e⟩:=List.any_eq_true.mp h
 have e:=yag e
 refine hGG ?_;clear hGG GG
 rw [<-beq_iff_eq.mp e.1,<-beq_iff_eq.mp e.2];exact hm
theorem ydP {as:List Addr} {u:SV} {v:Value} (h:ygx u=true) (d:DV ρ as u v):handedIn v=true:=by
 refine yab λGG hGG=>?_
 rcases u with a|x|x|x|_|i|i|a|_|_|_
 ·obtain ⟨_,_,_,rfl⟩:=d;refine hGG ?_;clear hGG GG;rfl
 ·obtain ⟨_,rfl⟩:=d;refine hGG ?_;clear hGG GG;rfl
 ·obtain ⟨_,_,_,rfl⟩:=d;refine hGG ?_;clear hGG GG;rfl
 ·obtain ⟨_,_,rfl⟩:=d;refine hGG ?_;clear hGG GG;rfl
 ·cases (show v = .none from d);refine hGG ?_;clear hGG GG;rfl
 ·obtain ⟨_,_,rfl⟩:=d;refine hGG ?_;clear hGG GG;rfl
 ·obtain ⟨_,_,rfl⟩:=d;refine hGG ?_;clear hGG GG;rfl
 ·cases (show v = .ref a from d);refine hGG ?_;clear hGG GG;rfl
 ·first|exact yaa h|cases h
 ·first|exact yaa h|cases h
 ·first|exact yaa h|cases h
inductive yjt (ρ:Rho) (ns:Led) (u:Value) (C:Addr) (j:Nat) (fs:Bool × List (Str × SV)):Prop
 | mk {i:Nat} {a dx:Addr} {es:List DictEntry} {n:Nat} {l:List (Str × Value)} (e:u = .ref a) (i:ns[i]? = some (a,yaf C dx)) (b:ns[j]? = some (dx,dictOf es n)) (H:Has es l) (O:fs.1=true->ykc es l) (D:DFs ρ (yae ns) fs.2 l):yjt ρ ns u C j fs
theorem yeg {v:SV} {u:Value} {C:Addr} {j:Nat} {fs:Bool × List (Str × SV)} (d:Den c ρ S m ns) (dv:DV ρ (yae ns) v u) (h1:(S.at v).bind SO.inst? = some (C,j)) (h2:S.os[j]?.bind SO.dct? = some fs):yjt ρ ns u C j fs:=by
 refine yab λGG hGG=>?_
 obtain ⟨x,hx,h3⟩:=yac h1
 obtain ⟨i,hi,hx⟩:=yac hx
 obtain ⟨y,hy,h4⟩:=yac h2
 cases ygH h3
 cases yjr h4
 obtain ⟨a,o,e,ea,hdx,eo⟩:=d.ref hi hx dv
 obtain ⟨o2,eb,ed,H,O,D⟩:=d.atA hy hdx
 refine hGG ?_;clear hGG GG
 exact ⟨e,eo▸ea,ed▸eb,H,O,D⟩
theorem ykp (Yo:Y.Ok c.w) (f:c.At p) {v u:SV} {o:Value} {x:Str} (d:Den c ρ S m ns) (dv:DV ρ (yae ns) v o) (h:yoM Y v x S=some u):WE c m ns (getAttr o x true) (yeM ρ ns u):=by
 refine yab λGG hGG=>?_
 obtain ⟨⟨C,j⟩,h1,h⟩:=yac h
 obtain ⟨fs,h2,h⟩:=yac h
 obtain ⟨u',h3,h⟩:=yac h
 obtain ⟨h4,rfl⟩:=yah h
 have h4:=yag h4
 obtain ⟨rfl,ea,eb,H,O,D⟩:=yeg d dv h1 h2
 have L:=D.look (x:=x)
 rw [h3] at L
 obtain ⟨w,hw,dw⟩:=ya3 L
 refine hGG ?_;clear hGG GG
 exact yl8 f.f ea eb (Yo.gets _ (ydk h4.2)) (H.get (ycU hw)) (ydP h4.1 dw) ⟨rfl,dw⟩
theorem ygK {x:SO} {y:Nat × Nat} (h:x.cgt? = some y):x = .cgt y.1 y.2:=by
 refine yab λGG hGG=>?_
 rcases x with _|_|_|_|_|_|_|_|_|⟨i,C⟩|_|_|_|_|_
 ·first|exact yaa h|cases h
 ·first|exact yaa h|cases h
 ·first|exact yaa h|cases h
 ·first|exact yaa h|cases h
 ·first|exact yaa h|cases h
 ·first|exact yaa h|cases h
 ·first|exact yaa h|cases h
 ·first|exact yaa h|cases h
 ·first|exact yaa h|cases h
 ·cases h;refine hGG ?_;clear hGG GG;rfl
 ·first|exact yaa h|cases h
 ·first|exact yaa h|cases h
 ·first|exact yaa h|cases h
 ·first|exact yaa h|cases h
 ·first|exact yaa h|cases h
theorem ymu {x:SO} {y:SV × SV} (h:x.exd? = some y):x = .exd y.1 y.2:=by
 refine yab λGG hGG=>?_
 rcases x with _|_|_|_|_|_|_|_|⟨i,C⟩|_|_|_|_|_|_
 ·first|exact yaa h|cases h
 ·first|exact yaa h|cases h
 ·first|exact yaa h|cases h
 ·first|exact yaa h|cases h
 ·first|exact yaa h|cases h
 ·first|exact yaa h|cases h
 ·first|exact yaa h|cases h
 ·first|exact yaa h|cases h
 ·cases h;refine hGG ?_;clear hGG GG;rfl
 ·first|exact yaa h|cases h
 ·first|exact yaa h|cases h
 ·first|exact yaa h|cases h
 ·first|exact yaa h|cases h
 ·first|exact yaa h|cases h
 ·first|exact yaa h|cases h
theorem ygL (f:c.At p) {e D:Addr} {oe oD:Obj} {vs:Array Value} {x:Str} {v:Value} {mA:Str->Option Value} (i1:(e,oe)∈ns) (i2:(D,oD)∈ns) (hc:oe.cls = .ref 41) (hd:oe.dict=some D) (hdt:oe.data = .fields vs) (nd:NsObj oD mA) (hv:mA x=some v) (hh:handedIn v=true) (hn:x∈yax) (hB:typeLookup (.type "Exception") x=pure none):WE c m ns (getAttr (.ref e) x true) λr n=>n=ns/\r=v:=
 ⟨λh tk i=>yoA i.F i.N f.f.X yj1 hn hB (List.mem_append_left _ i1) hc hd hdt (List.mem_append_left _ i2) nd hv hh (yap (tk:=tk+1) i ⟨rfl,rfl⟩)⟩
theorem ykq (f:c.At p) {v u:SV} {o:Value} {x:Str} (d:Den c ρ S m ns) (dv:DV ρ (yae ns) v o) (h:yoN v x S=some u):WE c m ns (getAttr o x true) (yeM ρ ns u):=by
 refine yab λGG hGG=>?_
 obtain ⟨⟨j,t⟩,h1,h⟩:=yac h
 obtain ⟨ct,h2,h⟩:=yac h
 obtain ⟨u',h3,h⟩:=yac h
 obtain ⟨h4,rfl⟩:=yah h
 obtain ⟨y,hy,h1⟩:=yac h1
 obtain ⟨i,hi,hy⟩:=yac hy
 obtain ⟨z,hz,h2⟩:=yac h2
 cases ygK h1
 cases ymu h2
 obtain ⟨a,oe,rfl,ea,hdx,_,hc,hd,hdt,_,_⟩:=d.ref hi hy dv
 obtain ⟨oD,eb,dc,dt,nd⟩:=d.atA hz hdx
 unfold ypP at h3
 refine hGG ?_;clear hGG GG
 generalize q:(x==Str.ofString "code")=x9
 refine yab λGG hGG=>?_
 rcases x9 with _|_
 ·rw [q,cond_false] at h3
  obtain ⟨q2,h3⟩:=yay h3
  cases h3
  cases beq_iff_eq.mp q2
  refine hGG ?_;clear hGG GG
  exact (ygL f (List.mem_of_getElem? ea) (List.mem_of_getElem? eb) hc hd hdt nd rfl (ydP h4 dt) (by simp [yax]) SF.no_told).mono λr n k=>⟨k.1,k.2▸dt⟩
 ·rw [q] at h3
  cases h3
  cases beq_iff_eq.mp q
  refine hGG ?_;clear hGG GG
  exact (ygL f (List.mem_of_getElem? ea) (List.mem_of_getElem? eb) hc hd hdt nd rfl rfl (by simp [yax]) SF.no_code).mono λr n k=>⟨k.1,k.2▸dc⟩
theorem yeh {x:SO} {y:Nat × Nat} (h:x.op? = some y):x = .op y.1 y.2:=by
 refine yab λGG hGG=>?_
 rcases x with _|_|_|_|_|_|_|_|_|_|_|_|⟨t,j⟩|_|_
 ·first|exact yaa h|cases h
 ·first|exact yaa h|cases h
 ·first|exact yaa h|cases h
 ·first|exact yaa h|cases h
 ·first|exact yaa h|cases h
 ·first|exact yaa h|cases h
 ·first|exact yaa h|cases h
 ·first|exact yaa h|cases h
 ·first|exact yaa h|cases h
 ·first|exact yaa h|cases h
 ·first|exact yaa h|cases h
 ·first|exact yaa h|cases h
 ·cases h;refine hGG ?_;clear hGG GG;rfl
 ·first|exact yaa h|cases h
 ·first|exact yaa h|cases h
theorem yil {v:SV} {i:Nat} (h:v.q? = some i):v = .q i:=by
 refine yab λGG hGG=>?_
 rcases v with _|_|_|_|_|_|j|_|_|_|_
 ·first|exact yaa h|cases h
 ·first|exact yaa h|cases h
 ·first|exact yaa h|cases h
 ·first|exact yaa h|cases h
 ·first|exact yaa h|cases h
 ·first|exact yaa h|cases h
 ·cases h;refine hGG ?_;clear hGG GG;rfl
 ·first|exact yaa h|cases h
 ·first|exact yaa h|cases h
 ·first|exact yaa h|cases h
 ·first|exact yaa h|cases h
theorem yo2 {x:Str} {u:SV} (h:hkF x=some u) (tb td:Tok):∃w,(x,w)∈[(Str.ofString "bits",Value.int 16 tb),(Str.ofString "digits",Value.int 9 td)]/\handedIn w=true/\∀ρ as,DV ρ as u w:=by
 unfold hkF at h
 generalize q:(x==Str.ofString "bits")=x9
 refine yab λGG hGG=>?_
 rcases x9 with _|_
 ·rw [q,cond_false] at h
  obtain ⟨q2,h3⟩:=yay h
  cases h3
  cases beq_iff_eq.mp q2
  refine hGG ?_;clear hGG GG
  exact ⟨_,.tail _ (.head _),rfl,λ_ _=>⟨_,_,rfl,rfl⟩⟩
 ·rw [q] at h
  cases h
  cases beq_iff_eq.mp q
  refine hGG ?_;clear hGG GG
  exact ⟨_,.head _,rfl,λ_ _=>⟨_,_,rfl,rfl⟩⟩
theorem ykr (Yo:Y.Ok c.w) (f:c.At p) {v u:SV} {o:Value} {x:Str} (d:Den c ρ S m ns) (dv:DV ρ (yae ns) v o) (h:ypQ Y v x S=some u):WE c m ns (getAttr o x true) (yeM ρ ns u):=by
 refine yab λGG hGG=>?_
 obtain ⟨i,hi,h⟩:=yac h
 obtain ⟨⟨t,j⟩,h1,h⟩:=yac h
 obtain ⟨⟨t2,j2⟩,h2,h⟩:=yac h
 obtain ⟨u',h3,h⟩:=yac h
 obtain ⟨h4,rfl⟩:=yah h
 have h4:=yag h4
 have h5:=yag h4.1
 cases beq_iff_eq.mp h5.1
 cases beq_iff_eq.mp h5.2
 cases yil hi
 obtain ⟨y,hy,h1⟩:=yac h1
 obtain ⟨z,hz,h2⟩:=yac h2
 cases yeh h1
 cases yeh h2
 obtain ⟨a,qa,rfl⟩:=dv
 obtain ⟨q1,m1,⟨q3,rfl⟩⟩:=d.tls _ _ hy
 obtain ⟨q2,m2,@⟨es,n,tb,td,rfl,H⟩⟩:=d.tls _ _ hz
 cases q1.symm.trans qa
 cases q3.symm.trans q2
 obtain ⟨w,hw,hh,D⟩:=yo2 h3 tb td
 have G:=Yo.gets _ (ydk h4.2)
 obtain ⟨u,e1,e2⟩:=G.c
 refine hGG ?_;clear hGG GG
 exact ⟨λh tk i=>get_own i.F f.f.X (InstAt.of_news i.N (List.mem_append_right _ m1) (List.mem_append_right _ m2)) G.a G.b e1 e2 (H.all _ hw) hh (yap (tk:=tk+1) i ⟨rfl,D _ _⟩)⟩
theorem yks (Yo:Y.Ok c.w) (f:c.At p) {v u:SV} {o:Value} {x:Str} (d:Den c ρ S m ns) (dv:DV ρ (yae ns) v o) (h:yn7 Y v x S=some u):WE c m ns (getAttr o x true) (yeM ρ ns u):=by
 unfold yn7 at h
 generalize q:(yoM Y v x S)=x9
 rcases x9 with _|u'
 ·rw [q] at h
  generalize q2:(yoN v x S)=x9
  rcases x9 with _|u'
  ·rw [q2] at h;exact ykr Yo f d dv h
  ·rw [q2] at h;cases h;exact ykq f d dv q2
 ·rw [q] at h;cases h;exact ykp Yo f d dv q
theorem ygM {as:List Addr} {x:Str} {fs:List (Str × SV)} {l:List (Str × Value)} (D:DFs ρ as fs l) (h:yoL x fs=false):∀p∈l,p.1≠x:=by
 induction D with
 | nil=>exact fN
 | cons d _ ih=>
  have h:=Bool.or_eq_false_iff.mp h
  exact fC (λe=>beq_eq_false_iff_ne.mp h.1 (d.1.trans e)) (ih h.2)
theorem ykt {as:List Addr} {x:Str} {u:SV} {v:Value} (dv:DV ρ as u v) {fs fs':List (Str × SV)} {l:List (Str × Value)} (D:DFs ρ as fs l) (h:ymf x u fs=some fs'):∃l',HPut x v l l'/\DFs ρ as fs' l':=by
 induction D generalizing fs' with
 | nil=>cases h
 | @cons y z ys zs d D ih=>
  unfold ymf at h
  generalize q:(x==y.1)=x9
  rcases x9 with _|_
  ·rw [q] at h
   obtain ⟨r,hr,rfl⟩:=yav h
   obtain ⟨l',P,D'⟩:=ih hr
   exact ⟨_,.tail (λe=>by rw [d.1,e,beq_self_eq_true] at q;cases q) P,.cons d D'⟩
  ·rw [q] at h
   obtain ⟨h1,rfl⟩:=yah h
   obtain ⟨z1,z2⟩:=z
   have e:z1=x:=d.1.symm.trans (beq_iff_eq.mp q).symm
   subst e
   exact ⟨_,.head (ygM D (ya1 h1)),.cons ⟨d.1,dv⟩ D⟩
theorem yku {as:List Addr} {x:Str} {u:SV} {v:Value} {es:List DictEntry} {fs:List (Str × SV)} {ex:Bool} {fs':Bool × List (Str × SV)} {l:List (Str × Value)} (H:Has es l) (O:ex=true->ykc es l) (dv:DV ρ as u v) (D:DFs ρ as fs l) (h:yoO ex fs x u=some fs') :
  ∃l',(getL x es).isSome=true/\DFs ρ as fs'.2 l'/\∀hs t,Has (putL x hs (.str x t) v es) l'/\(fs'.1=true->ykc (putL x hs (.str x t) v es) l'):=by
 unfold yoO at h
 generalize q:(ymf x u fs)=x9
 refine yab λGG hGG=>?_
 rcases x9 with _|r
 ·rw [q] at h
  obtain ⟨h1,rfl⟩:=yah h
  have ⟨h1,h4⟩:=yag h1
  have ⟨h1,h3⟩:=yag h1
  have ⟨h1,h2⟩:=yag h1
  have N:=ygM D (ya1 h2)
  have hl:l.length<60:=by have:=yaQ h3;rw [D.len];omega
  refine hGG ?_;clear hGG GG
  refine ⟨l ++ [(x,v)],by rw [(O h1).2 x N];rfl,D.snoc ⟨rfl,dv⟩,λhs t=>?_⟩
  have:=ykg (v:=v) H (O h1) N (beq_eq_false_iff_ne.mp (ya1 h4)) hl hs t
  exact ⟨this.1,λ_=>this.2⟩
 ·rw [q] at h
  cases h
  obtain ⟨l',P,D'⟩:=ykt dv D q
  obtain ⟨o,ho⟩:=P.old
  refine hGG ?_;clear hGG GG
  exact ⟨l',by rw [H.all _ ho];rfl,D',λhs t=>⟨H.put P hs _,nofun⟩⟩
theorem ygN (Yo:Y.Ok c.w) (f:c.At p) {v u:SV} {o u':Value} {x:Str} {S':SS} (d:Den c ρ S m ns) (dv:DV ρ (yae ns) v o) (du:DV ρ (yae ns) u u') (h:yn8 Y v x u S=some S'):WE c m ns (setAttr o x u') λ_ n=>yae n=yae ns/\Den c ρ S' m n:=by
 refine yab λGG hGG=>?_
 obtain ⟨⟨C,j⟩,h1,h⟩:=yac h
 obtain ⟨fs,h2,h⟩:=yac h
 obtain ⟨fs',h3,h⟩:=yac h
 obtain ⟨h4,rfl⟩:=yah h
 obtain ⟨rfl,ea,eb,H,O,D⟩:=yeg d dv h1 h2
 obtain ⟨l',hl,D',k⟩:=yku H O du D h3
 refine hGG ?_;clear hGG GG
 exact yme (R:=λes'=>Has es' l'/\(fs'.1=true->ykc es' l')) f.f ea eb (Yo.sets _ (ydk h4)) hl k (λes' h=>Nat.le_trans h.1.len (by decide)) λes' n' h=>⟨yaU eb,d.put eb ⟨rfl,h.1,h.2,D'⟩⟩
theorem ykv {z:Z} {x:SV} {kn:List (Z × SV)} (h:find? z kn=some x):(z,x)∈kn:=by
 induction kn with
 | nil=>cases h
 | cons p r ih=>
  unfold find? at h
  generalize q:(z.same p.1)=x9
  rcases x9 with _|_
  ·rw [q] at h;exact .tail _ (ih h)
  ·rw [q] at h;cases h;rw [Z.same_eq q];exact .head _
theorem yeN {z:Z} {x:Option SV} {kn:List (Z × Option SV)} (h:ygz z kn=some x):(z,x)∈kn:=by
 induction kn with
 | nil=>cases h
 | cons p r ih=>
  unfold ygz at h
  generalize q:(z.same p.1)=x9
  rcases x9 with _|_
  ·rw [q] at h;exact .tail _ (ih h)
  ·rw [q] at h;cases h;rw [Z.same_eq q];exact .head _
theorem yhW {as:List Addr} {j:SV} {z:Z} {w:Value} (h:j.z? = some z) (d:DV ρ as j w):∃k t,z.ev ρ.z=some k/\w = .int k t:=by
 refine yab λGG hGG=>?_
 rcases j with a|_|_|_|_|_|_|_|_|_|_
 ·cases h;refine hGG ?_;clear hGG GG;exact d
 ·first|exact yaa h|cases h
 ·first|exact yaa h|cases h
 ·first|exact yaa h|cases h
 ·first|exact yaa h|cases h
 ·first|exact yaa h|cases h
 ·first|exact yaa h|cases h
 ·first|exact yaa h|cases h
 ·first|exact yaa h|cases h
 ·first|exact yaa h|cases h
 ·first|exact yaa h|cases h
inductive yoe (w:World) (o:Obj) (k:Int) (v:Value):Prop
 | tup {vs:List Value} {n j:Nat}:o=yal vs n->-100<=k->k<100->seqIndex? k vs.length=some j->vs[j]? = some v->yoe w o k v
 | lst {vs:List Value} {n:Nat}:o=listOf vs.toArray n->0<=k->k<2 ^ 63->vs[k.toNat]? = some v->yoe w o k v
 | map {kvs:List (Int × Value)}:o.IsDictOf (PySem.intKind PP w) kvs->valueAt kvs k=some v->yoe w o k v
theorem ymv {n p:Nat} {k:Int} (h:0<=k) (q:k.toNat<n):seqIndex? k (n+p)=some k.toNat:=by
 unfold seqIndex?
 rw [if_neg (Int.not_lt.mpr h)]
 refine if_pos ?_
 rw [decide_eq_true h,decide_eq_true (show k<((n+p:Nat):Int) from (Int.toNat_lt h).mp (Nat.lt_add_right p q))]
 rfl
theorem yim {w:World} {as:List Addr} {z:Z} {x:SO} {u:SV} {a:Addr} {o:Obj} {k:Int} (h:ymg z x=some u) (D:DO w ρ as x a o) (hk:z.ev ρ.z=some k):∃v,yoe w o k v/\DV ρ as u v:=by
 refine yab λGG hGG=>?_
 rcases x with _|_|es|es|es|⟨l,n,kn,app⟩|⟨i,kn⟩|_|_|_|_|_|_|_|_
 ·first|exact yaa h|cases h
 ·first|exact yaa h|cases h
 ·obtain ⟨k',h1,h2⟩:=yac h
  obtain ⟨i,h3,h4⟩:=yac h2
  obtain ⟨h5,h3⟩:=yay h3
  obtain ⟨rfl,D⟩:=D
  cases (ya5 _ h1).symm.trans hk
  obtain ⟨v,hv,dv⟩:=D.at h4
  refine hGG ?_;clear hGG GG
  exact ⟨v,.tup rfl (yaQ (yag h5).1) (yaQ (yag h5).2) (D.len▸h3) hv,dv⟩
 ·obtain ⟨k',h1,h2⟩:=yac h
  obtain ⟨h5,h3⟩:=yay h2
  obtain ⟨rfl,D⟩:=D
  cases (ya5 _ h1).symm.trans hk
  obtain ⟨v,hv,dv⟩:=D.at h3
  have h6:=yaQ (yag h5).1
  refine hGG ?_;clear hGG GG
  have h7:=(List.getElem?_eq_some_iff.mp hv).1
  refine ⟨v,.tup rfl (by omega) (yaQ (yag h5).2) (j:=k.toNat) ?_ (by rw [List.getElem?_append_left h7];exact hv),dv⟩
  rw [List.length_append]
  exact ymv (yaQ (yag h5).1) (by omega)
 ·obtain ⟨k',h1,h2⟩:=yac h
  obtain ⟨h5,h3⟩:=yay h2
  obtain ⟨rfl,D⟩:=D
  cases (ya5 _ h1).symm.trans hk
  obtain ⟨v,hv,dv⟩:=D.at h3
  have:=yaQ (yag h5).2
  refine hGG ?_;clear hGG GG
  exact ⟨v,.lst rfl (yaQ (yag h5).1) (by omega) hv,dv⟩
 ·obtain ⟨h1,rfl,h2,h3,D,K⟩:=D
  obtain ⟨e,h0,hv,dv⟩:=K _ (ykv h)
  cases e.symm.trans hk
  refine hGG ?_;clear hGG GG
  have hlt:=(List.getElem?_eq_some_iff.mp hv).1
  exact ⟨_,.lst rfl h0 (by omega) (by rw [List.getElem?_append_left hlt];exact hv),dv⟩
 ·obtain ⟨y,h1,h2⟩:=yac h
  cases (show y=some u from h2)
  obtain ⟨lo,hk2,hd,K⟩:=D
  obtain ⟨e,L⟩:=K _ (yeN h1)
  cases e.symm.trans hk
  obtain ⟨v,hv,dv⟩:=yoF L
  refine hGG ?_;clear hGG GG
  exact ⟨v,.map hd hv,dv⟩
 ·first|exact yaa h|cases h
 ·first|exact yaa h|cases h
 ·first|exact yaa h|cases h
 ·first|exact yaa h|cases h
 ·first|exact yaa h|cases h
 ·first|exact yaa h|cases h
 ·first|exact yaa h|cases h
 ·first|exact yaa h|cases h
theorem yin {value slice:PySem.Expr} {v j u:SV} {o w:Value} (d:Den c ρ S m ns) (dv:DV ρ (yae ns) v o) (dj:DV ρ (yae ns) j w) (hs:yb4 slice=false) (h:ykj v j S=some u):WE c m ns (subscriptTail value slice o w) (yeM ρ ns u):=by
 refine yab λGG hGG=>?_
 obtain ⟨z,hz,g1⟩:=yac h
 obtain ⟨x,hx,g2⟩:=yac g1
 obtain ⟨k,t,hk,rfl⟩:=yhW hz dj
 obtain ⟨a,o',rfl,hm,D⟩:=d.ob hx dv
 obtain ⟨v,I,dv⟩:=yim g2 D hk
 rcases I with ⟨e,h1,h2,h3,h4⟩|⟨e,h1,h2,h3⟩|⟨h1,h2⟩
 ·refine hGG ?_;clear hGG GG
  exact yl9 (e▸hm) h1 h2 h3 h4 ⟨rfl,dv⟩ hs
 ·refine hGG ?_;clear hGG GG
  exact yke (e▸hm) h1 h2 h3 ⟨rfl,dv⟩ hs
 ·refine hGG ?_;clear hGG GG
  exact yma hm h1 h2 ⟨rfl,dv⟩ hs
theorem Z.plus_ev {z:List Int} {a b:Z} {x y:Int} (ha:a.ev z=some x) (hb:b.ev z=some y):(a.plus b).ev z=some (x+y):=by
 have e:two (· + ·) (a.ev z) (b.ev z)=some (x+y):=by rw [ha,hb];rfl
 unfold Z.plus
 generalize h:(two (· + ·) a.lit b.lit)=x9
 rcases x9 with _|k
 ·exact e
 ·exact (ybw ya5 ya5 k h).symm.trans e▸rfl
theorem Z.less_ev {z:List Int} {a b:Z} {x y:Int} (ha:a.ev z=some x) (hb:b.ev z=some y):(a.less b).ev z=some (x - y):=by
 have e:two (· - ·) (a.ev z) (b.ev z)=some (x - y):=by rw [ha,hb];rfl
 unfold Z.less
 generalize h:(two (· - ·) a.lit b.lit)=x9
 rcases x9 with _|k
 ·exact e
 ·exact (ybw ya5 ya5 k h).symm.trans e▸rfl
inductive yju (ρ:Rho) (z:Z) (o:Obj):Prop
 | mk {vs:List Value} {n:Nat} (e:o=listOf vs.toArray n) (lt:vs.length<=16384) (k:z.ev ρ.z=some (vs.length:Int)):yju ρ z o
inductive ymw (w:World) (ρ:Rho) (as:List Addr) (x:SO) (u:SV) (a:Addr) (o:Obj):Prop
 | mk {vs:List Value} {n:Nat} (e:o=listOf vs.toArray n) (lt:vs.length<=16384) (k:∀y,DV ρ as u y->∀n',DO w ρ as x a (listOf (vs ++ [y]).toArray n')):ymw w ρ as x u a o
theorem ykw {w:World} {as:List Addr} {x:SO} {z:Z} {a:Addr} {o:Obj} (h:ypR x=some z) (D:DO w ρ as x a o):yju ρ z o:=by
 refine yab λGG hGG=>?_
 rcases x with _|_|_|_|es|⟨l,n,kn,app⟩|_|_|_|_|_|_|_|_|_
 ·first|exact yaa h|cases h
 ·first|exact yaa h|cases h
 ·first|exact yaa h|cases h
 ·first|exact yaa h|cases h
 ·obtain ⟨h1,rfl⟩:=yah h
  obtain ⟨rfl,D⟩:=D
  have h1:=yaQ h1
  have hw:=D.len
  refine hGG ?_;clear hGG GG
  exact ⟨rfl,by omega,congrArg some (congrArg Int.ofNat hw.symm)⟩
 ·obtain ⟨h4,rfl⟩:=yah h
  obtain ⟨h1,rfl,h2,h3,D,K⟩:=D
  have h4:=yaQ h4
  have hw:=D.len
  refine hGG ?_;clear hGG GG
  refine ⟨rfl,by rw [List.length_append];omega,?_⟩
  rcases D with _|⟨_,D⟩
  ·rw [List.append_nil];exact h2
  ·exact (Z.plus_ev h2 rfl).trans (by rw [List.length_append,hw,Int.natCast_add])
 ·first|exact yaa h|cases h
 ·first|exact yaa h|cases h
 ·first|exact yaa h|cases h
 ·first|exact yaa h|cases h
 ·first|exact yaa h|cases h
 ·first|exact yaa h|cases h
 ·first|exact yaa h|cases h
 ·first|exact yaa h|cases h
 ·first|exact yaa h|cases h
theorem ykx {v u:SV} {o:Value} (d:Den c ρ S m ns) (dv:DV ρ (yae ns) v o) (h:yn9 v S=some u):WE c m ns (call (.builtin "len") [o]) (yeM ρ ns u):=by
 refine yab λGG hGG=>?_
 obtain ⟨x,hx,g1⟩:=yac h
 obtain ⟨z,g2,rfl⟩:=yav g1
 obtain ⟨a,o',rfl,hm,D⟩:=d.ob hx dv
 obtain ⟨rfl,hz,e⟩:=ykw g2 D
 refine hGG ?_;clear hGG GG
 exact ymb hm hz λt=>⟨rfl,_,t,e,rfl⟩
theorem ygO {w:World} {as:List Addr} {x x':SO} {u:SV} {a:Addr} {o:Obj} (h:yoP u x=some x') (D:DO w ρ as x a o):ymw w ρ as x' u a o:=by
 refine yab λGG hGG=>?_
 rcases x with _|_|_|_|es|⟨l,n,kn,app⟩|_|_|_|_|_|_|_|_|_
 ·first|exact yaa h|cases h
 ·first|exact yaa h|cases h
 ·first|exact yaa h|cases h
 ·first|exact yaa h|cases h
 ·obtain ⟨h1,rfl⟩:=yah h
  obtain ⟨rfl,D⟩:=D
  have h1:=yaQ h1
  refine hGG ?_;clear hGG GG
  exact ⟨rfl,by rw [D.len];omega,λy dx n'=>⟨rfl,D.snoc dx⟩⟩
 ·obtain ⟨h4,rfl⟩:=yah h
  obtain ⟨h1,rfl,h2,h3,D,K⟩:=D
  have h4:=yaQ h4
  have hw:=D.len
  refine hGG ?_;clear hGG GG
  exact ⟨rfl,by rw [List.length_append];omega,λy dx n'=>⟨h1,by rw [List.append_assoc],h2,h3,D.snoc dx,K⟩⟩
 ·first|exact yaa h|cases h
 ·first|exact yaa h|cases h
 ·first|exact yaa h|cases h
 ·first|exact yaa h|cases h
 ·first|exact yaa h|cases h
 ·first|exact yaa h|cases h
 ·first|exact yaa h|cases h
 ·first|exact yaa h|cases h
 ·first|exact yaa h|cases h
theorem yio {v:SV} {u:Value} (d:Den c ρ S m ns) (dv:DV ρ (yae ns) v u) (h:ymh v S=true):∃a vs n,u = .ref a/\(a,listOf (vs:List Value).toArray n)∈ns:=by
 refine yab λGG hGG=>?_
 obtain ⟨x',h⟩:=Option.isSome_iff_exists.mp h
 obtain ⟨x,hx,h2⟩:=yac h
 obtain ⟨i,hi,hx⟩:=yac hx
 obtain ⟨a,o,rfl,ea,D⟩:=d.ref hi hx dv
 obtain ⟨rfl,_,_⟩:=ygO h2 D
 refine hGG ?_;clear hGG GG
 exact ⟨a,_,_,rfl,List.mem_of_getElem? ea⟩
theorem yky {v x:SV} {u y:Value} {S':SS} (d:Den c ρ S m ns) (dv:DV ρ (yae ns) v u) (dx:DV ρ (yae ns) x y) (h:ypS v x S=some S'):WE c m ns (call (.builtin "list.append") [u,y]) λr n=>r = .none/\yae n=yae ns/\Den c ρ S' m n:=by
 refine yab λGG hGG=>?_
 obtain ⟨i,hi,g1⟩:=yac h
 obtain ⟨q,hq,g2⟩:=yac g1
 obtain ⟨q',g3,rfl⟩:=yav g2
 obtain ⟨a,o,rfl,ea,k⟩:=d.ref hi hq dv
 obtain ⟨rfl,hz,k2⟩:=ygO g3 k
 refine hGG ?_;clear hGG GG
 exact ygv ea hz ⟨rfl,yaU ea,d.put ea (k2 _ dx _)⟩
end
noncomputable def yip (w:World) (t:Sem Value) (v:Value):Prop:=∀(A:Around) (E:Value->Shared->Prop) (s:Shared) (Q:Value->Shared->Prop),Q v s->wpAny (MM w) A t Q E s
inductive yei (w:World) (ρ:Rho) (C:C) (t:Sem Value):Prop
 | mk {q:Bool} (e:C.ev ρ=some q) (g:yip w t (.bool q)):yei w ρ C t
theorem ycY {f:Int->Int->Bool} {z:List Int} {a b:Z} {x y:Int} (ha:a.ev z=some x) (hb:b.ev z=some y):two f (a.ev z) (b.ev z)=some (f x y):=by rw [ha,hb];rfl
theorem ykz {w:World} {ρ:Rho} {op:CmpOp} {x y:Z} {C:Mine.C} {k k2:Int} {t t2:Tok} (h:yoQ op x y=some C) (hk:x.ev ρ.z=some k) (hk2:y.ev ρ.z=some k2):yei w ρ C (compareOp op (.int k t) (.int k2 t2)):=by
 refine yab λGG hGG=>?_
 rcases op with _|_|_|_|_|_|_|_|_|_
 ·cases h;refine hGG ?_;clear hGG GG;exact ⟨ycY hk hk2,λ_ _ _ _ q=>eq_int q⟩
 ·cases h;refine hGG ?_;clear hGG GG;exact ⟨congrArg (Option.map (!·)) (ycY (f:=λx y=>decide (x=y)) hk hk2),λ_ _ _ _ q=>ne_int q⟩
 ·cases h;refine hGG ?_;clear hGG GG;exact ⟨ycY hk hk2,λ_ _ _ _ q=>lt_int q⟩
 ·cases h;refine hGG ?_;clear hGG GG;exact ⟨ycY hk hk2,λ_ _ _ _ q=>le_int q⟩
 ·cases h;refine hGG ?_;clear hGG GG;exact ⟨ycY hk2 hk,λ_ _ _ _ q=>gt_int q⟩
 ·cases h;refine hGG ?_;clear hGG GG;exact ⟨ycY hk2 hk,λ_ _ _ _ q=>ge_int q⟩
 ·first|exact yaa h|cases h
 ·first|exact yaa h|cases h
 ·first|exact yaa h|cases h
 ·first|exact yaa h|cases h
theorem ygP {w:World} {ρ:Rho} {op:CmpOp} {c C:Mine.C} {x y:Str} {t u:Tok} (h:yoR op c=some C) (e:c.ev ρ=some (x==y)):yei w ρ C (compareOp op (.str x t) (.str y u)):=by
 refine yab λGG hGG=>?_
 rcases op with _|_|_|_|_|_|_|_|_|_
 ·cases h;refine hGG ?_;clear hGG GG;exact ⟨e,λ_ _ _ _ q=>eq_str q⟩
 ·cases h;refine hGG ?_;clear hGG GG;exact ⟨congrArg (Option.map (!·)) e,λ_ _ _ _ q=>PyProof.Rows.ne_str q⟩
 ·first|exact yaa h|cases h
 ·first|exact yaa h|cases h
 ·first|exact yaa h|cases h
 ·first|exact yaa h|cases h
 ·first|exact yaa h|cases h
 ·first|exact yaa h|cases h
 ·first|exact yaa h|cases h
 ·first|exact yaa h|cases h
theorem ykA {w:World} {ρ:Rho} {op:CmpOp} {C:Mine.C} (h:ypU op=some C):yei w ρ C (compareOp op .none .none):=by
 refine yab λGG hGG=>?_
 rcases op with _|_|_|_|_|_|_|_|_|_
 ·cases h;refine hGG ?_;clear hGG GG;exact ⟨rfl,λ_ _ _ _ q=>EqNone.eq_none_none q⟩
 ·first|exact yaa h|cases h
 ·first|exact yaa h|cases h
 ·first|exact yaa h|cases h
 ·first|exact yaa h|cases h
 ·first|exact yaa h|cases h
 ·cases h;refine hGG ?_;clear hGG GG;exact ⟨rfl,λ_ _ _ _ q=>wpAny_is_self rfl q⟩
 ·cases h;refine hGG ?_;clear hGG GG;exact ⟨rfl,λ_ _ _ _ q=>wpAny_isNot_self rfl q⟩
 ·first|exact yaa h|cases h
 ·first|exact yaa h|cases h
structure yjv (w:World) (u v:Value):Prop where
 e:yip w (compareOp .Eq u v) (.bool false)
 n:yip w (compareOp .NotEq u v) (.bool true)
theorem ykB {w:World} {ρ:Rho} {op:CmpOp} {isno:Bool} {C:Mine.C} {u v:Value} (h:ypT op isno=some C) (D:yjv w u v) (hi:isno=true->plainIs u v=true/\u≠v):yei w ρ C (compareOp op u v):=by
 refine yab λGG hGG=>?_
 rcases op with _|_|_|_|_|_|_|_|_|_
 ·cases h;refine hGG ?_;clear hGG GG;exact ⟨rfl,D.e⟩
 ·cases h;refine hGG ?_;clear hGG GG;exact ⟨rfl,D.n⟩
 ·first|exact yaa h|cases h
 ·first|exact yaa h|cases h
 ·first|exact yaa h|cases h
 ·first|exact yaa h|cases h
 ·obtain ⟨h1,rfl⟩:=yah h;refine hGG ?_;clear hGG GG;exact ⟨rfl,λ_ _ _ _ q=>wpAny_is_other (hi h1).1 (hi h1).2 q⟩
 ·obtain ⟨h1,rfl⟩:=yah h;refine hGG ?_;clear hGG GG;exact ⟨rfl,λ_ _ _ _ q=>wpAny_isNot_other (hi h1).1 (hi h1).2 q⟩
 ·first|exact yaa h|cases h
 ·first|exact yaa h|cases h
inductive Kd:Nat->Value->Prop
 | z (k:Int) (t:Tok):Kd 0 (.int k t)
 | s (x:Str) (t:Tok):Kd 1 (.str x t)
 | no:Kd 2 .none
theorem ykC {ρ:Rho} {as:List Addr} {a:SV} {u:Value} (h:kd a<3) (d:DV ρ as a u):Kd (kd a) u:=by
 refine yab λGG hGG=>?_
 rcases a with x|x|i|_|_|_|_|_|_|_|_
 ·obtain ⟨k,t,_,rfl⟩:=d;refine hGG ?_;clear hGG GG;exact .z k t
 ·obtain ⟨t,rfl⟩:=d;refine hGG ?_;clear hGG GG;exact .s x t
 ·obtain ⟨x,t,_,rfl⟩:=d;refine hGG ?_;clear hGG GG;exact .s x t
 ·exact absurd h (Nat.lt_irrefl 3)
 ·cases (show u = .none from d);refine hGG ?_;clear hGG GG;exact .no
 ·exact absurd h (Nat.lt_irrefl 3)
 ·exact absurd h (Nat.lt_irrefl 3)
 ·exact absurd h (Nat.lt_irrefl 3)
 ·exact absurd h (Nat.lt_irrefl 3)
 ·exact absurd h (Nat.lt_irrefl 3)
 ·exact absurd h (Nat.lt_irrefl 3)
theorem ygQ {w:World} {i j:Nat} {u v:Value} (x:Kd i u) (y:Kd j v) (h:i≠j):yjv w u v/\(j=2->plainIs u v=true/\u≠v):=by
 rcases x with ⟨k,t⟩|⟨x,t⟩|_
 ·rcases y with ⟨k,t⟩|⟨x,t⟩|_
  ·exact absurd rfl h
  ·exact ⟨⟨λ_ _ _ _ q=>EqMixed.eq_int_str q,λ_ _ _ _ q=>EqMixed.ne_int_str q⟩,nofun⟩
  ·exact ⟨⟨λ_ _ _ _ q=>EqNone.eq_int_none q,λ_ _ _ _ q=>EqNone.ne_int_none q⟩,λ_=>⟨rfl,nofun⟩⟩
 ·rcases y with ⟨k,t⟩|⟨x,t⟩|_
  ·exact ⟨⟨λ_ _ _ _ q=>EqMixed.eq_str_int q,λ_ _ _ _ q=>EqMixed.ne_str_int q⟩,nofun⟩
  ·exact absurd rfl h
  ·exact ⟨⟨λ_ _ _ _ q=>EqNone.eq_str_none q,λ_ _ _ _ q=>EqNone.ne_str_none q⟩,λ_=>⟨rfl,nofun⟩⟩
 ·rcases y with ⟨k,t⟩|⟨x,t⟩|_
  ·exact ⟨⟨λ_ _ _ _ q=>EqNone.eq_none_int q,λ_ _ _ _ q=>EqNone.ne_none_int q⟩,nofun⟩
  ·exact ⟨⟨λ_ _ _ _ q=>EqNone.eq_none_str q,λ_ _ _ _ q=>EqNone.ne_none_str q⟩,nofun⟩
  ·exact absurd rfl h
theorem ykD {w:World} {ρ:Rho} {as:List Addr} {op:CmpOp} {a b:SV} {u v:Value} {C:Mine.C} (h:ypV op a b=some C) (da:DV ρ as a u) (db:DV ρ as b v):yei w ρ C (compareOp op u v):=by
 refine yab λGG hGG=>?_
 rcases b with _|y|_|_|_|_|_|_|_|_|_
 ·first|exact yaa h|cases h
 ·obtain ⟨t2,rfl⟩:=db
  rcases a with _|x|i|_|_|_|_|_|_|_|_
  ·first|exact yaa h|cases h
  ·obtain ⟨t,rfl⟩:=da;refine hGG ?_;clear hGG GG;exact ygP h rfl
  ·obtain ⟨x,t,hx,rfl⟩:=da;refine hGG ?_;clear hGG GG;exact ygP h (congrArg (Option.map λx=>x==y) hx)
  ·first|exact yaa h|cases h
  ·first|exact yaa h|cases h
  ·first|exact yaa h|cases h
  ·first|exact yaa h|cases h
  ·first|exact yaa h|cases h
  ·first|exact yaa h|cases h
  ·first|exact yaa h|cases h
  ·first|exact yaa h|cases h
 ·first|exact yaa h|cases h
 ·first|exact yaa h|cases h
 ·first|exact yaa h|cases h
 ·first|exact yaa h|cases h
 ·first|exact yaa h|cases h
 ·first|exact yaa h|cases h
 ·first|exact yaa h|cases h
 ·first|exact yaa h|cases h
 ·first|exact yaa h|cases h
theorem yp2 {a:SV} (h:kd a=0):∃z,a = .z z:=by
 refine yab λGG hGG=>?_
 rcases a with z|_|_|_|_|_|_|_|_|_|_
 ·refine hGG ?_;clear hGG GG
  exact ⟨z,rfl⟩
 ·first|exact yaa h|cases h
 ·first|exact yaa h|cases h
 ·first|exact yaa h|cases h
 ·first|exact yaa h|cases h
 ·first|exact yaa h|cases h
 ·first|exact yaa h|cases h
 ·first|exact yaa h|cases h
 ·first|exact yaa h|cases h
 ·first|exact yaa h|cases h
 ·first|exact yaa h|cases h
theorem ymx {a:SV} (h:kd a=2):a = .no:=by
 refine yab λGG hGG=>?_
 rcases a with _|_|_|_|_|_|_|_|_|_|_
 ·first|exact yaa h|cases h
 ·first|exact yaa h|cases h
 ·first|exact yaa h|cases h
 ·first|exact yaa h|cases h
 ·refine hGG ?_;clear hGG GG
  rfl
 ·first|exact yaa h|cases h
 ·first|exact yaa h|cases h
 ·first|exact yaa h|cases h
 ·first|exact yaa h|cases h
 ·first|exact yaa h|cases h
 ·first|exact yaa h|cases h
theorem ykE {w:World} {ρ:Rho} {as:List Addr} {op:CmpOp} {a b:SV} {u v:Value} {C:Mine.C} (h:yoS op a b=some C) (da:DV ρ as a u) (db:DV ρ as b v):yei w ρ C (compareOp op u v):=by
 unfold yoS at h
 generalize q:(kd a==kd b)=x9
 refine yab λGG hGG=>?_
 rcases x9 with _|_
 ·rw [q,cond_false] at h
  obtain ⟨h1,h⟩:=yay h
  have h1:=yag h1
  obtain ⟨D,k⟩:=ygQ (w:=w) (ykC (yaQ h1.1) da) (ykC (yaQ h1.2) db) (beq_eq_false_iff_ne.mp q)
  refine hGG ?_;clear hGG GG
  exact ykB h D λe=>k (beq_iff_eq.mp e)
 ·rw [q,cond_true] at h
  have e:=beq_iff_eq.mp q
  refine hGG ?_;clear hGG GG
  match hk:kd a with
  | 0=>
   rw [hk] at h
   obtain ⟨x,rfl⟩:=yp2 hk
   obtain ⟨y,rfl⟩:=yp2 (e.symm.trans hk)
   obtain ⟨k,t,e1,rfl⟩:=da
   obtain ⟨k2,t2,e2,rfl⟩:=db
   exact ykz (show yoQ op x y=some C from h) e1 e2
  | 1=>rw [hk] at h;exact ykD h da db
  | 2=>
   rw [hk] at h
   cases ymx hk
   cases ymx (e.symm.trans hk)
   cases (show u = .none from da)
   cases (show v = .none from db)
   exact ykA h
  | n+3=>rw [hk] at h;cases h
theorem ykF {ρ:Rho} {as:List Addr} {x:Option SV} {v:Option Value} (L:DL ρ as x v):v.isSome=x.isSome:=by
 rcases L with _|_
 ·rfl
 ·rfl
section
variable {c:Cx} {p:Pl} {m:Map} {ρ:Rho} {ns:Led} {S:SS} {Y:Sys} {F:Fns}
theorem yiq {t:Sem Value} {v:Value} {K:Value->Led->Prop} (g:yip c.w t v) (k:K v ns):WE c m ns t K:=⟨λh tk i=>g _ _ _ _ (yap i k)⟩
theorem yo3 {a:SV} {x:Str} (h:a.s? = some x):a = .s x:=by
 refine yab λGG hGG=>?_
 rcases a with _|x|_|_|_|_|_|_|_|_|_
 ·first|exact yaa h|cases h
 ·cases h;refine hGG ?_;clear hGG GG;rfl
 ·first|exact yaa h|cases h
 ·first|exact yaa h|cases h
 ·first|exact yaa h|cases h
 ·first|exact yaa h|cases h
 ·first|exact yaa h|cases h
 ·first|exact yaa h|cases h
 ·first|exact yaa h|cases h
 ·first|exact yaa h|cases h
 ·first|exact yaa h|cases h
theorem ykG {es:List SV} {ys:List Str} {vs:List Value} {ρ:Rho} {as:List Addr} (h:ykk es=some ys) (d:DVs ρ as es vs):StrsAre vs ys:=by
 induction d generalizing ys with
 | nil=>cases h;exact .nil
 | cons p _ ih=>
  obtain ⟨x,hx,h⟩:=yac h
  obtain ⟨zs,hz,rfl⟩:=yav h
  cases yo3 hx
  obtain ⟨t,rfl⟩:=p
  exact .cons _ _ (ih hz)
theorem ygR {x:Bool} {op:CmpOp} {y:Str} {b u:SV} {t:Tok} {v:Value} (d:Den c ρ S m ns) (hi:yoa op=some x) (db:DV ρ (yae ns) b v) (h:yjn x y b S=some u):WE c m ns (compareOp op (.str y t) v) (yeM ρ ns u):=by
 refine yab λGG hGG=>?_
 obtain ⟨es,he,h⟩:=yac h
 obtain ⟨ys,hy,h⟩:=yac h
 obtain ⟨hx,rfl⟩:=yah h
 obtain ⟨o,ho,he⟩:=yac he
 cases ygI he
 obtain ⟨a,o',rfl,hm,eo,D⟩:=d.ob ho db
 subst hx
 rcases op with _|_|_|_|_|_|_|_|_|_
 ·first|exact yaa hi|cases hi
 ·first|exact yaa hi|cases hi
 ·first|exact yaa hi|cases hi
 ·first|exact yaa hi|cases hi
 ·first|exact yaa hi|cases hi
 ·first|exact yaa hi|cases hi
 ·first|exact yaa hi|cases hi
 ·first|exact yaa hi|cases hi
 ·refine hGG ?_;clear hGG GG
  exact ⟨λh tk i=>in_tuple_strs (News.isTup i.N (eo▸hm)) (ykG hy D) (yap i ⟨rfl,_,rfl,rfl⟩)⟩
 ·first|exact yaa hi|cases hi
theorem yir {q:Bool} {op:CmpOp} {a b u:SV} {x v:Value} (d:Den c ρ S m ns) (hi:yoa op=some q) (da:DV ρ (yae ns) a x) (db:DV ρ (yae ns) b v) (h:ymi q a b S=some u):WE c m ns (compareOp op x v) (yeM ρ ns u):=by
 refine yab λGG hGG=>?_
 obtain ⟨z,hz,g1⟩:=yac h
 obtain ⟨kn,hkn,g2⟩:=yac g1
 obtain ⟨y,hy,rfl⟩:=yav g2
 obtain ⟨o,ho,hkn⟩:=yac hkn
 cases ymt hkn
 obtain ⟨a,o',rfl,hm,lo,hk2,hd,K⟩:=d.ob ho db
 obtain ⟨k,t,hk,rfl⟩:=yhW hz da
 obtain ⟨e,L⟩:=K _ (yeN hy)
 cases e.symm.trans hk
 have hb:=ykF L
 rcases op with _|_|_|_|_|_|_|_|_|_
 ·first|exact yaa hi|cases hi
 ·first|exact yaa hi|cases hi
 ·first|exact yaa hi|cases hi
 ·first|exact yaa hi|cases hi
 ·first|exact yaa hi|cases hi
 ·first|exact yaa hi|cases hi
 ·first|exact yaa hi|cases hi
 ·first|exact yaa hi|cases hi
 ·cases hi;refine hGG ?_;clear hGG GG;exact ⟨λh tk i=>kda_in i.N hm hd lo (intKind_is _ _ _ _) _ hb (yap (tk:=tk+1) i ⟨rfl,_,rfl,by cases y.isSome<;>rfl⟩)⟩
 ·cases hi;refine hGG ?_;clear hGG GG;exact ⟨λh tk i=>kdg_notin i.N hm hd lo (intKind_is _ _ _ _) _ hb (yap (tk:=tk+1) i ⟨rfl,_,rfl,by cases y.isSome<;>rfl⟩)⟩
theorem ygS {op:CmpOp} {a b u:SV} {x y:Value} (d:Den c ρ S m ns) (da:DV ρ (yae ns) a x) (db:DV ρ (yae ns) b y) (h:ymj op a b S=some u):WE c m ns (compareOp op x y) (yeM ρ ns u):=by
 unfold ymj at h
 generalize hi:(yoa op)=x9
 refine yab λGG hGG=>?_
 rcases x9 with _|q
 ·rw [hi] at h
  obtain ⟨C,hC,rfl⟩:=yav h
  obtain ⟨e,g⟩:=ykE (w:=c.w) hC da db
  refine hGG ?_;clear hGG GG
  exact yiq g ⟨rfl,_,e,rfl⟩
 ·rw [hi] at h
  dsimp only at h
  refine hGG ?_;clear hGG GG
  generalize hs:(a.s?)=x9
  refine yab λGG hGG=>?_
  rcases x9 with _|z
  ·rw [hs] at h
   refine hGG ?_;clear hGG GG
   exact yir d hi da db h
  ·rw [hs] at h
   cases yo3 hs
   obtain ⟨t,rfl⟩:=da
   refine hGG ?_;clear hGG GG
   exact ygR d hi db h
theorem ykH {op:Operator} {a b u:SV} {x y:Value} (da:DV ρ (yae ns) a x) (db:DV ρ (yae ns) b y) (h:yoT op a b=some u):WE c m ns (binaryOp op x y) (yeM ρ ns u):=by
 refine yab λGG hGG=>?_
 obtain ⟨z,hz,g1⟩:=yac h
 obtain ⟨z2,hz2,g2⟩:=yac g1
 obtain ⟨k,t,hk,rfl⟩:=yhW hz da
 obtain ⟨k2,t2,hk2,rfl⟩:=yhW hz2 db
 rcases op with _|_|_|_|_|_|_|_|_|_|_|_|_
 ·cases g2;refine hGG ?_;clear hGG GG;exact ⟨λh tk i=>add_int (yap (tk:=tk+1) i ⟨rfl,_,_,Z.plus_ev hk hk2,rfl⟩)⟩
 ·cases g2;refine hGG ?_;clear hGG GG;exact ⟨λh tk i=>sub_int (yap (tk:=tk+1) i ⟨rfl,_,_,Z.less_ev hk hk2,rfl⟩)⟩
 ·first|exact yaa g2|cases g2
 ·first|exact yaa g2|cases g2
 ·first|exact yaa g2|cases g2
 ·first|exact yaa g2|cases g2
 ·first|exact yaa g2|cases g2
 ·first|exact yaa g2|cases g2
 ·first|exact yaa g2|cases g2
 ·first|exact yaa g2|cases g2
 ·first|exact yaa g2|cases g2
 ·first|exact yaa g2|cases g2
 ·first|exact yaa g2|cases g2
theorem ymy {op:UnaryOp} {a u:SV} {x:Value} (da:DV ρ (yae ns) a x) (h:unF op a=some u):WE c m ns (unaryOp op x) (yeM ρ ns u):=by
 refine yab λGG hGG=>?_
 obtain ⟨z,hz,g1⟩:=yac h
 obtain ⟨k,t,hk,rfl⟩:=yhW hz da
 obtain ⟨h1,rfl⟩:=yah g1
 cases beq_iff_eq.mp h1
 refine hGG ?_;clear hGG GG
 exact ⟨λh tk i=>P.neg_int (yap (tk:=tk+1) i ⟨rfl,_,_,(Z.less_ev rfl hk).trans (by rw [Int.zero_sub]),rfl⟩)⟩
theorem yse {as:List Addr} {v:SV} {C:C} {u:Value} (h:v.c? = some C) (d:DV ρ as v u):∃x,C.ev ρ=some x/\u = .bool x:=by
 refine yab λGG hGG=>?_
 rcases v with _|_|_|c|_|_|_|_|_|_|_
 ·first|exact yaa h|cases h
 ·first|exact yaa h|cases h
 ·first|exact yaa h|cases h
 ·cases h;refine hGG ?_;clear hGG GG;exact d
 ·first|exact yaa h|cases h
 ·first|exact yaa h|cases h
 ·first|exact yaa h|cases h
 ·first|exact yaa h|cases h
 ·first|exact yaa h|cases h
 ·first|exact yaa h|cases h
 ·first|exact yaa h|cases h
theorem ydQ {v:SV} {u:Value} (d:Den c ρ S m ns) (dv:DV ρ (yae ns) v u) (g:Good c ρ ns (ybQ v S)):WE c m ns (truthy u) (PE DB c m ρ ns (ybQ v S)):=by
 refine yab λGG hGG=>?_
 obtain ⟨C,hC,e⟩:=g.opt
 obtain ⟨x,hx,rfl⟩:=yse hC dv
 refine hGG ?_;clear hGG GG
 unfold ybQ
 rw [e]
 exact ⟨λh tk i=>wpAny_truthy_bool (yap i (yo1 d hx))⟩
theorem ydl {op:CmpOp} {a b:SV} {x y:Value} (d:Den c ρ S m ns) (da:DV ρ (yae ns) a x) (db:DV ρ (yae ns) b y) (g:Good c ρ ns (ycu op a b S)):WE c m ns (compareOp op x y) λr n=>WE c m n (truthy r) (PE DB c m ρ ns (ycu op a b S)):=by
 obtain ⟨v,hv,e⟩:=g.opt
 have g:Good c ρ ns (ybQ v S):=e▸g
 refine (ygS d da db hv).mono λr n k=>?_
 obtain ⟨rfl,dv⟩:=k
 unfold ycu
 rw [e]
 exact ydQ d dv g
end
theorem yan {e:PySem.Expr} {r:List PySem.Expr} {env:Env} (h:ycb e=false):starEach (e::r) env=(false,eval e env)::starEach r env:=by
 cases e<;>first|rfl|cases h
theorem yaV {e:PySem.Expr} {t:Option PySem.Expr} {l:Nat} {env:Env} (h:yeI e=false):swapsWith e t l env=pure false:=by
 cases e<;>first|rfl|cases h
theorem ydm {op:CmpOp} {b:PySem.Expr} (h:ykh b=false):behindInMarks op b=false:=by
 cases b<;>first|rfl|cases h
theorem yfo {e:PySem.Expr} {env:Env} {u:Sem Value} (h:yeJ e=true):PySem.isTrue e env u=(do let v <-u;standAt e.pos;holding [v] (truthy v)):=by
 cases e<;>first|rfl|cases h
theorem yb5 {e:PySem.Expr} {a:Str} {env:Env} (h:ycs e=true):attributeBase e a env (eval e env)=eval e env:=by
 cases e<;>first|rfl|cases h
theorem yb6 {e:PySem.Expr} {a:Str} {p:Pos} {env:Env} (h:ycs e=true):eval (.Attribute e a p) env=(do let o <-eval e env;standAt p.atName;let r <-holding [o] (getAttr o a true);letTemporaryGo e o r;pure r):=
 congrArg (λt:Sem Value=>(do let o <-t;standAt p.atName;let r <-holding [o] (getAttr o a true);letTemporaryGo e o r;pure r)) (yb5 h)
theorem ycy {α:Type} {l:List α} {x:α} (h:one? l=some x):l = [x]:=by
 rcases l with _|⟨y,r⟩
 ·first|exact yaa h|cases h
 ·rcases r with _|_
  ·cases h;rfl
  ·first|exact yaa h|cases h
theorem yce {α:Type} {l:List α} {x:α × α} (h:two? l=some x):l = [x.1,x.2]:=by
 rcases l with _|⟨y,r⟩
 ·first|exact yaa h|cases h
 ·rcases r with _|⟨z,r⟩
  ·first|exact yaa h|cases h
  ·rcases r with _|_
   ·cases h;rfl
   ·first|exact yaa h|cases h
theorem yb7 {r:List PySem.Expr} (pos:Pos) {env:Env} (h:r.any ycb=false):(List.any (backTo pos (starEach r env)) λx=>x.1)=false:=by
 induction r with
 | nil=>rfl
 | cons e r ih=>
  have h:=Bool.or_eq_false_iff.mp h
  rw [yan h.1]
  exact ih h.2
section
variable {c:Cx} {p:Pl} {m:Map} {ρ:Rho} {ns:Led} {S:SS} {Y:Sys} {F:Fns} {w:World}
theorem yeO (O:ybJ w F) (hw:c.w=w) (f:c.At p) (pos:Pos) (es:List PySem.Expr):∀{S:SS} {ρ:Rho} {ns:Led},Den c ρ S m ns->Good c ρ ns (xEs F p es S)->WE c m ns (spliced (backTo pos (starEach es c.env))) (PE DVs c m ρ ns (xEs F p es S)):=by
 induction es with
 | nil=>exact λd g=>⟨λh tk i=>args_nil (yap i (yaP d .nil))⟩
 | cons e r ih=>
  intro S ρ ns d g
  obtain ⟨hs,e1⟩:=g.iff
  have g:Good c ρ ns (rb (λv S=>rb (λvs S=>one (v::vs) S) (xEs F p r S)) (F.E p e S)):=e1▸g
  have q:=yee (K:=λv vs n=>PE DVs c m ρ ns (xEs F p (e::r) S) (v::vs) n) g (O.E c p e S ρ m ns hw f d) (λρ1 S1 n1 d1 g1=>ih d1 g1) (λu d=>d.up u) λa b v w ρ2 S2 n2 d1 d2 den g2 up=>by
   unfold xEs;rw [hs]
   exact up (yaP den (.cons d1 d2))
  exact ⟨λh tk i=>args_cons (q.run i λv h1 t1 n1 i1 k=>k.run i1 λvs h2 t2 n2 i2 k=>yap i2 k) (yan (ya1 hs))⟩
theorem yfp {a:FL} {v:Flow} (d:Den c ρ S m ns) (dv:DFl ρ (yae ns) a v):PS c ρ ns (one a S) v m ns:=yaP d dv
theorem ycf (O:ybJ w F) (hw:c.w=w) (f:c.At p) (ss:List Stmt):∀{S:SS} {ρ:Rho} {m:Map} {ns:Led},Den c ρ S m ns->Good c ρ ns (xSs F p ss S)->WS c m ns (execs ss c.env) (PS c ρ ns (xSs F p ss S)):=by
 induction ss with
 | nil=>exact λd g=>⟨λh tk i=>wpAny_execs_nil (yaX i (yfp d .nx))⟩
 | cons st r ih=>
  intro S ρ m ns d g
  have g:Good c ρ ns (rb (ylL (xSs F p r)) (F.S p st S)):=g
  refine ⟨λh tk i=>wpAny_execs_cons ((O.S c p st S ρ m ns hw f d g.left).run i λfl h1 t1 m1 n1 i1 q=>?_)⟩
  obtain ⟨hm,up,dv,d1⟩:=q
  have g1:=g.right hm up
  rcases dv with _|dv|_|_
  ·exact (ih d1 g1).run i1 λv h2 t2 m2 n2 i2 k2=>yaX i2 (PE.at (f:=ylL (xSs F p r)) hm up k2)
  ·exact yaX i1 (PE.at (f:=ylL (xSs F p r)) hm up (yfp d1 (.ret dv)))
  ·exact yaX i1 (PE.at (f:=ylL (xSs F p r)) hm up (yfp d1 .brk))
  ·exact yaX i1 (PE.at (f:=ylL (xSs F p r)) hm up (yfp d1 .cnt))
noncomputable abbrev Cx.callA (c:Cx) (A:Around) (qual:Str) (scope:Scope) (b:Addr) (cdv:Value) (g:Heap) (L:Addr):Cx:=
 ⟨c.w,qual,scope,L,b,cdv,[],g,c.s,λe s'=>wpAny (MM c.w) (A.deeper (envOf qual scope L b cdv)) (leaving (envOf qual scope L b cdv) e) (λ_ s''=>c.E e s'') (λe' s''=>c.E e' s'') s',c.tl,A,c.base,c.env::c.outer⟩
noncomputable abbrev Cx.call (c:Cx) (qual:Str) (scope:Scope) (b:Addr) (cdv:Value) (g:Heap) (L:Addr):Cx:=c.callA c.A qual scope b cdv g L
noncomputable def ybF:Flow->Value
 | .ret v=>v
 | _=>.none
theorem yis {K:Value->Led->Prop} {b:Addr} {D:Def} {vs:List Value} (f:c.Fit) (DK:DefOk c.w b D) (hroom:c.A.depth<recursionLimit) (hl:vs.length=D.ps.length)
  (v:∀g L cdv,(c.call D.qual D.sc b cdv g L).Fit->Fr c.g c.L g m->g.get? L=none->WS (c.call D.qual D.sc b cdv g L) (λy=>(D.ps.zip vs).reverse.lookup y) ns (execs D.body (c.call D.qual D.sc b cdv g L).env) λfl _ ns=>K (ybF fl) ns):WE c m ns (call (.ref b) vs) K:=⟨λh tk i=>by
 obtain ⟨mean,mg,mb,T⟩:=f.T
 obtain ⟨oc,od,osl,dV,kV,doc,pm,an,cdv,ct,ho,hcd,hb⟩:=DK.there
 have hloc:∀y∈D.ps.zip vs,D.sc.names.lookup y.1=some .local:=λy hy=>DK.loc _ (List.of_mem_zip hy).1
 refine wpAny_call (code_def f.B i.F f.X i.N T f.fr rfl f.fn ho hcd hroom (hb _ _ hl) hloc (λg L' h₁ FG F' N' B' X' T'=>?_) (ygF DK.chk) (ygG DK.chk) (ycx DK.chk) (ydi DK.chk))
 have fit:(c.call D.qual D.sc b cdv g L').Fit:=⟨f.XB,f.TB,ycx DK.chk,ydh DK.chk,B'⟩
 refine (v g L' cdv fit FG (kts_self F')).run (tk:=tk+(D.ps.zip vs).length) ⟨F',N',i.nd,i.off⟩ λfl h2 t2 m2 n2 i2 k=>⟨L',m2,n2++c.tl,i2.F,i2.N,λF2 N2=>?_⟩
 have:=yap (c:=c) (m:=m) (tk:=t2) ⟨F2,N2,i2.nd,i2.off⟩ k
 cases fl<;>exact this⟩
theorem ycz {A:Around} {qual:Str} {scope:Scope} {b:Addr} {cdv:Value} {g:Heap} {L i j k:Nat} {m':Map} (hc:c.cl = []) (f:(c.callA A qual scope b cdv g L).Fit) (FG:Fr c.g c.L g m) (hL:g.get? L=none) (t:ybm c m ns i j k):ybm (c.callA A qual scope b cdv g L) m' ns i j k:=by
 refine yab λGG hGG=>?_
 obtain ⟨w,cn,sc,L0,fa,cd,cl,g0,s,E,tl,A₀,base,outer⟩:=c
 cases hc
 refine hGG ?_;clear hGG GG
 exact λnd off e D T oe oD h1 hd hT h2=>⟨λh tk a0 G F R=>ya7 f.B (ycP F R) hL λh' R'=>(t nd off e D T oe oD h1 hd hT h2).go h' tk a0 g FG R'⟩
theorem Den.home {c':Cx} {S0 S':SS} {ρ0 ρ':Rho} {ns0 ns':Led} {m':Map} (hw:c'.w=c.w) (ht:c'.tl=c.tl) (hA:c'.A.handled=c.A.handled) (d:Den c' ρ' S' m' ns') (d0:Den c ρ0 S0 m ns0) (u:Up ρ0 ρ' (yae ns0) (yae ns')):Den c ρ' (S'.home S0) m ns':=
 ⟨λx=>(d0.loc x).up u,hw▸d.obs,d.pcs,hw▸ht▸d.tls,λx i h=>(d0.cls x i h).imp λa e=>⟨yad u.a a e.1,e.2⟩,λi h=>hA▸d.hx i h⟩
theorem Cx.At.call {b:Addr} {D:Def} {cdv:Value} {g:Heap} {L k:Nat} (f:c.At p) (hk:p.k=k+1) (fit:(c.call D.qual D.sc b cdv g L).Fit):(c.call D.qual D.sc b cdv g L).At ⟨D.sc,k,false,p.hd⟩:=by
 have h1:=f.dp
 have h2:=f.un
 rw [hk] at h1 h2
 exact ⟨fit,rfl,(by omega:c.A.depth+1+k<=600),(by omega:c.A.units+3+3 * k<=3000),λ_=>rfl,f.hh⟩
theorem ykI (Yo:Y.Ok c.w) (O:ybJ c.w F) (f:c.At p) {b:Addr} {D:Def} {k:Nat} {vs:List SV} {us:List Value} (hcl:c.cl = []) (hk:p.k=k+1) (DK:DefOk c.w b D) (hl:vs.length=D.ps.length) (d:Den c ρ S m ns) (dv:DVs ρ (yae ns) vs us)
  (g:Good c ρ ns ((xSs F ⟨D.sc,k,false,p.hd⟩ D.body {S with m:=(D.ps.zip vs).reverse,cl:=[]}).map (ykl S))):WE c m ns (call (.ref b) us) (PE DV c m ρ ns ((xSs F ⟨D.sc,k,false,p.hd⟩ D.body {S with m:=(D.ps.zip vs).reverse,cl:=[]}).map (ykl S))):=by
 have h1:=f.dp
 have hr:(600:Nat)<recursionLimit:=by decide
 refine yis f.f DK (by omega) (dv.len.trans hl) λgg L cdv fit FG hL=>?_
 have d1:Den (c.call D.qual D.sc b cdv gg L) ρ {S with m:=(D.ps.zip vs).reverse,cl:=[]} (λy=>(D.ps.zip us).reverse.lookup y) ns:=⟨λx=>DFs.look (DFs.zip dv).rev,d.obs,d.pcs,d.tls,(λx i h=>nomatch h),d.hx⟩
 have g1:Good (c.call D.qual D.sc b cdv gg L) ρ ns (xSs F ⟨D.sc,k,false,p.hd⟩ D.body {S with m:=(D.ps.zip vs).reverse,cl:=[]}):=
  ⟨λh=>g.nb (List.mem_map.mpr ⟨_,h,rfl⟩),λi j k S' h ρ' m' ns' u d'=>ycz hcl fit FG hL (g.ex i j k _ (List.mem_map.mpr ⟨_,h,rfl⟩) ρ' m ns' u (Den.home (c:=c) (c':=c.call D.qual D.sc b cdv gg L) rfl rfl rfl d' d u))⟩
 refine ⟨λh tk i=>(ycf (c:=c.call D.qual D.sc b cdv gg L) (w:=c.w) O rfl (f.call hk fit) D.body d1 g1).run i λfl h1 t1 m1 n1 i1 q=>yaX i1 ?_⟩
 refine yab λGG hGG=>?_
 obtain ⟨hm,up,dfl,d2⟩:=q
 have d3:=Den.home (c:=c) (c':=c.call D.qual D.sc b cdv gg L) rfl rfl rfl d2 d up
 rcases dfl with _|dv|_|_
 ·refine hGG ?_;clear hGG GG
  exact ⟨List.mem_map.mpr ⟨_,hm,rfl⟩,up,rfl,d3⟩
 ·refine hGG ?_;clear hGG GG
  exact ⟨List.mem_map.mpr ⟨_,hm,rfl⟩,up,dv,d3⟩
 ·exact absurd (List.mem_map.mpr ⟨_,hm,rfl⟩) g.nb
 ·exact absurd (List.mem_map.mpr ⟨_,hm,rfl⟩) g.nb
noncomputable abbrev Cx.AN (c:Cx) (C:Addr) (vs:List Value):Around:=c.A.under (.builtin "type.__call__" ⟨.ref C::vs,[]⟩)
theorem yof (A:Around) (C:Addr) (vs:List Value):(A.under (.builtin "type.__call__" ⟨.ref C::vs,[]⟩)).depth=A.depth+1:=rfl
theorem yog (A:Around) (C:Addr) (vs:List Value):(A.under (.builtin "type.__call__" ⟨.ref C::vs,[]⟩)).units=A.units+1:=rfl
theorem ygT (A:Around) (C:Addr) (vs:List Value):(A.under (.builtin "type.__call__" ⟨.ref C::vs,[]⟩)).frames=A.frames:=rfl
theorem ycZ (A:Around) (C:Addr) (vs:List Value):(A.under (.builtin "type.__call__" ⟨.ref C::vs,[]⟩)).handled=A.handled:=rfl
theorem ymz {K:Value->Led->Prop} {C:Addr} {I:Ini} {vs:List Value} (f:c.Fit) (IK:IniOk c.w C I) (hroom:c.A.depth+1<recursionLimit) (hl:vs.length+I.ds.length+1=I.D.ps.length)
  (v:∀x dx g L cdv dvs,(∀ρ as,DVs ρ as I.ds dvs)->(c.callA (c.AN C vs) I.D.qual I.D.sc I.f cdv g L).Fit->Fr c.g c.L g m->g.get? L=none ->
   WS (c.callA (c.AN C vs) I.D.qual I.D.sc I.f cdv g L) (λy=>(I.D.ps.zip (.ref x::(vs++dvs))).reverse.lookup y) (ns ++ [(dx,dictOf [] 0)] ++ [(x,yaf C dx)]) (execs I.D.body (c.callA (c.AN C vs) I.D.qual I.D.sc I.f cdv g L).env) λfl _ ns=>ybF fl = .none/\K (.ref x) ns) :
  WE c m ns (call (.ref C) vs) K:=⟨λh tk i=>by
 obtain ⟨mean,mg,mb,T⟩:=f.T
 obtain ⟨dvs,oc,od,osl,dV,kV,doc,pm,an,cdv,ct,hds,ho,hcd,hb⟩:=IK.there
 refine call_cls i.F f.X i.N IK.makes IK.look IK.fn λx dx h' F1 N1 l1 l2=>?_
 have hlv:∀y∈I.D.ps.zip (Value.ref x::(vs++dvs)),I.D.sc.names.lookup y.1=some .local:=λy hy=>IK.loc _ (List.of_mem_zip hy).1
 have i1:Is c m (ns ++ [(dx,dictOf [] 0)]) h':=i.snoc F1 (λq hq=>N1 q (.tail _ hq)) λq hq=>Nat.ne_of_lt (l1 q hq)
 have i2:Is c m (ns ++ [(dx,dictOf [] 0)] ++ [(x,yaf C dx)]) h':=i1.snoc F1 (λq hq=>(List.mem_cons.mp hq).elim (λz=>z▸N1 _ (.head _)) λz=>i1.N q z) λq hq=>by
  rw [List.append_assoc] at hq
  rcases List.mem_append.mp hq with hq|hq
  ·exact Nat.ne_of_lt (Nat.lt_trans (l1 q (List.mem_append_left _ hq)) l2)
  rcases List.mem_cons.mp hq with hq|hq
  ·exact hq▸Nat.ne_of_lt l2
  ·exact Nat.ne_of_lt (Nat.lt_trans (l1 q (List.mem_append_right _ hq)) l2)
 refine code_def f.B F1 f.X i2.N T ((ygT _ _ _).trans f.fr) rfl f.fn ho hcd hroom (hb _ (.ref x::vs) (f.X.keeps F1.keep) (by rw [List.length_cons,<-hl];omega)) hlv (λg L' h₁ FG F' N' B' X' T'=>?_) (ygF IK.chk) (ygG IK.chk) (ycx IK.chk) (ydi IK.chk)
 have fit:(c.callA (c.AN C vs) I.D.qual I.D.sc I.f cdv g L').Fit:=⟨f.XB,f.TB,ycx IK.chk,ydh IK.chk,B'⟩
 refine (v x dx g L' cdv dvs hds fit FG (kts_self F')).run (tk:=tk+(I.D.ps.zip (Value.ref x::(vs++dvs))).length) ⟨F',N',i2.nd,i2.off⟩ λfl h2 t2 m2 n2 i3 k=>⟨L',m2,n2++c.tl,i3.F,i3.N,λF2 N2=>?_⟩
 have:=yap (c:=c) (m:=m) (tk:=t2) ⟨F2,N2,i3.nd,i3.off⟩ k.2
 have e:=k.1
 cases fl<;>exact ⟨e,this⟩⟩
theorem yit {n k:Nat} (h:yml n=some k):n=k+2:=by
 match n,h with
 | n+2,h=>cases h;rfl
theorem ykJ (Yo:Y.Ok c.w) (O:ybJ c.w F) (f:c.At p) {b:Addr} {I:Ini} {k:Nat} {vs:List SV} {us:List Value} (hcl:c.cl = []) (hk:p.k=k+2) (IK:IniOk c.w b I) (d:Den c ρ S m ns) (dv:DVs ρ (yae ns) vs us)
  (g:Good c ρ ns (yoc F p k b I vs S)):WE c m ns (call (.ref b) us) (PE DV c m ρ ns (yoc F p k b I vs S)):=by
 obtain ⟨hl,e⟩:=g.iff
 have hl:=yaQ hl
 unfold yoc at g ⊢
 rw [e] at g ⊢
 clear e
 have h1:=f.dp
 have h2:=f.un
 rw [hk] at h1 h2
 have hr:(600:Nat)<recursionLimit:=by decide
 refine ymz f.f IK (by omega) (by rw [dv.len];exact hl) λx dx gg L cdv dvs hds fit FG hL=>?_
 have u1:Up ρ ρ (yae ns) (yae (ns ++ [(dx,dictOf [] 0)])):=yas
 have u2:Up ρ ρ (yae (ns ++ [(dx,dictOf [] 0)])) (yae (ns ++ [(dx,dictOf [] 0)] ++ [(x,yaf b dx)])):=yas
 have d1:Den c ρ (S.new (.dct true [])) m (ns ++ [(dx,dictOf [] 0)]):=d.new ⟨rfl,⟨Nat.zero_le _,fN,fN⟩,λ_=>⟨rfl,λ_ _=>rfl⟩,.nil⟩
 have d2:Den c ρ (ykm S b) m (ns ++ [(dx,dictOf [] 0)] ++ [(x,yaf b dx)]):=d1.new ⟨yad u2.a _ d.last,rfl⟩
 have hx:(yae (ns ++ [(dx,dictOf [] 0)] ++ [(x,yaf b dx)]))[S.os.length+1]? = some x:=by
  have:=d1.last (a:=x) (o:=yaf b dx)
  rwa [show (S.new (.dct true [])).os.length=S.os.length+1 from List.length_append ..] at this
 have dv2:DVs ρ (yae (ns ++ [(dx,dictOf [] 0)] ++ [(x,yaf b dx)])) (.r (S.os.length+1)::(vs++I.ds)) (.ref x::(us++dvs)):=.cons ⟨x,hx,rfl⟩ ((dv.up (u1.trans u2)).app (hds _ _))
 have at1:(c.callA (c.AN b us) I.D.qual I.D.sc I.f cdv gg L).At ⟨I.D.sc,k,false,p.hd⟩:=⟨fit,rfl,(by show c.A.depth+1+1+k<=600;omega),(by show c.A.units+1+3+3 * k<=3000;omega),λ_=>rfl,f.hh⟩
 have d3:Den (c.callA (c.AN b us) I.D.qual I.D.sc I.f cdv gg L) ρ {ykm S b with m:=(I.D.ps.zip (.r (S.os.length+1)::(vs++I.ds))).reverse,cl:=[]} (λy=>(I.D.ps.zip (Value.ref x::(us++dvs))).reverse.lookup y) (ns ++ [(dx,dictOf [] 0)] ++ [(x,yaf b dx)]):=
  ⟨λx=>DFs.look (DFs.zip dv2).rev,d2.obs,d2.pcs,d2.tls,(λx i h=>nomatch h),d2.hx⟩
 have g1:Good (c.callA (c.AN b us) I.D.qual I.D.sc I.f cdv gg L) ρ (ns ++ [(dx,dictOf [] 0)] ++ [(x,yaf b dx)]) (xSs F ⟨I.D.sc,k,false,p.hd⟩ I.D.body {ykm S b with m:=(I.D.ps.zip (.r (S.os.length+1)::(vs++I.ds))).reverse,cl:=[]}):=
  ⟨λh=>g.nb (List.mem_map.mpr ⟨_,h,rfl⟩),λi j k S' h ρ' m' ns' u d'=>ycz hcl fit FG hL (g.ex i j k _ (List.mem_map.mpr ⟨_,h,rfl⟩) ρ' m ns' ((u1.trans u2).trans u) (Den.home (c:=c) (S0:=ykm S b) (c':=c.callA (c.AN b us) I.D.qual I.D.sc I.f cdv gg L) rfl rfl (ycZ c.A b us) d' d2 u))⟩
 refine ⟨λh tk i=>(ycf (c:=c.callA (c.AN b us) I.D.qual I.D.sc I.f cdv gg L) (w:=c.w) O rfl at1 I.D.body d3 g1).run i λfl h1 t1 m1 n1 i1 q=>yaX i1 ?_⟩
 refine yab λGG hGG=>?_
 obtain ⟨hm,up,dfl,d4⟩:=q
 have d5:=Den.home (c:=c) (S0:=ykm S b) (c':=c.callA (c.AN b us) I.D.qual I.D.sc I.f cdv gg L) rfl rfl (ycZ c.A b us) d4 d2 up
 have bad:∀{v},ypY S (S.os.length+1) v = .bad->v ∉ xSs F ⟨I.D.sc,k,false,p.hd⟩ I.D.body {ykm S b with m:=(I.D.ps.zip (.r (S.os.length+1)::(vs++I.ds))).reverse,cl:=[]}:=λe hv=>g.nb (List.mem_map.mpr ⟨_,hv,e⟩)
 rcases dfl with _ | @⟨sv,v,dv⟩|_|_
 ·refine hGG ?_;clear hGG GG
  exact ⟨rfl,List.mem_map.mpr ⟨_,hm,rfl⟩,(u1.trans u2).trans up,⟨x,yad up.a _ hx,rfl⟩,d5⟩
 ·rcases sv with _|_|_|_|_|_|_|_|_|_|_
  ·exact absurd hm (bad rfl)
  ·exact absurd hm (bad rfl)
  ·exact absurd hm (bad rfl)
  ·exact absurd hm (bad rfl)
  ·refine hGG ?_;clear hGG GG
   exact ⟨dv,List.mem_map.mpr ⟨_,hm,rfl⟩,(u1.trans u2).trans up,⟨x,yad up.a _ hx,rfl⟩,d5⟩
  ·exact absurd hm (bad rfl)
  ·exact absurd hm (bad rfl)
  ·exact absurd hm (bad rfl)
  ·exact absurd hm (bad rfl)
  ·exact absurd hm (bad rfl)
  ·exact absurd hm (bad rfl)
 ·exact absurd hm (bad rfl)
 ·exact absurd hm (bad rfl)
end
section
variable {c:Cx} {p:Pl} {m:Map} {ρ:Rho} {ns:Led} {S:SS} {Y:Sys} {F:Fns} {w:World}
theorem ygU {as:List Addr} {a:SV} {x:Str} {t t':Tok} (d:DV ρ as a (.str x t)) (h:(kd a==1)=true):DV ρ as a (.str x t'):=by
 refine yab λGG hGG=>?_
 rcases a with _|y|i|_|_|_|_|_|_|_|_
 ·cases beq_iff_eq.mp h
 ·obtain ⟨_,e⟩:=d;cases e;refine hGG ?_;clear hGG GG;exact ⟨_,rfl⟩
 ·obtain ⟨y,_,hy,e⟩:=d;cases e;refine hGG ?_;clear hGG GG;exact ⟨_,_,hy,rfl⟩
 ·cases beq_iff_eq.mp h
 ·cases beq_iff_eq.mp h
 ·cases beq_iff_eq.mp h
 ·cases beq_iff_eq.mp h
 ·cases beq_iff_eq.mp h
 ·cases beq_iff_eq.mp h
 ·cases beq_iff_eq.mp h
 ·cases beq_iff_eq.mp h
theorem ymA {as:List Addr} {a:SV} {u:Value} (h:(kd a==1)=true) (d:DV ρ as a u):∃x t,u = .str x t:=by
 have e:=beq_iff_eq.mp h
 have k:=ykC (e▸(by decide:1<3)) d
 rw [e] at k
 rcases k with _|⟨x,t⟩|_
 ·exact ⟨x,t,rfl⟩
theorem ygV {x:Str} {cv v:SV} {tc:Tok} {u:Value} {e D t:Addr} {oD:Obj} {h h':Heap} {tk':Nat} (d:Den c ρ S m ns) (dc:DV ρ (yae ns) cv (.str x tc)) (dv:DV ρ (yae ns) v u) (i:Is c m ns h) (F':Fr c.g c.L h' m) (N':News c.g c.L h' ((e,yau 41 (some D) t)::(D,oD)::(ns++c.tl)))
  (nd:NsObj oD (λy=>if y=Str.ofString "told" then some u else if y=Str.ofString "code" then some (.str x tc) else none)) (ne:∀p∈(D,oD)::(ns++c.tl),p.1≠e) (lt:∀p∈ns++c.tl,p.1<D) :
  Ok c m (PE DV c m ρ ns (one (.r S.os.length) (yob S cv v))) (.ref e) (c.st h' tk'):=by
 have d1:Den c ρ (S.new .any) m (ns ++ [(e,yau 41 (some D) t)]):=d.new (x:=.any) trivial
 have hl:(S.new .any).os.length=S.os.length+1:=List.length_append ..
 have u1:Up ρ ρ (yae ns) (yae (ns ++ [(e,yau 41 (some D) t)])):=yas
 have u2:Up ρ ρ (yae (ns ++ [(e,yau 41 (some D) t)])) (yae (ns ++ [(e,yau 41 (some D) t)] ++ [(D,oD)])):=yas
 have sub:∀q∈ns ++ [(e,yau 41 (some D) t)]++c.tl,q∈(e,yau 41 (some D) t)::(ns++c.tl):=λq hq=>by
  rw [List.append_assoc] at hq
  rcases List.mem_append.mp hq with z|z
  ·exact .tail _ (List.mem_append_left _ z)
  rcases List.mem_cons.mp z with z|z
  ·exact z▸.head _
  ·exact .tail _ (List.mem_append_right _ z)
 have i1:Is c m (ns ++ [(e,yau 41 (some D) t)]) h':=i.snoc F' (λq hq=>(List.mem_cons.mp hq).elim (λz=>z▸N' _ (.head _)) λz=>N' q (.tail _ (.tail _ z))) λq hq=>ne q (.tail _ hq)
 have i2:=i1.snoc (d:=D) (o:=oD) F' (λq hq=>(List.mem_cons.mp hq).elim (λz=>z▸N' _ (.tail _ (.head _))) λz=>N' q ((List.mem_cons.mp (sub q z)).elim (λz=>z▸.head _) λz=>.tail _ (.tail _ z)))
  λq hq=>(List.mem_cons.mp (sub q hq)).elim (λz=>z▸(ne _ (.head _)).symm) λz=>Nat.ne_of_lt (lt q z)
 refine yap i2 ⟨.head _,u1.trans u2,⟨e,yad u2.a _ d.last,rfl⟩,?_⟩
 have d2:Den c ρ ((S.new .any).new (.exd cv v)) m (ns ++ [(e,yau 41 (some D) t)] ++ [(D,oD)]):=d1.new ⟨dc.up (u1.trans u2),dv.up (u1.trans u2),nd⟩
 have hn:(ns ++ [(e,yau 41 (some D) t)] ++ [(D,oD)])[ns.length]? = some (e,yau 41 (some D) t):=by
  rw [List.getElem?_append_left (by rw [List.length_append];exact Nat.lt_succ_self _)];exact ycw
 have d3:=d2.put (x:=.exc (S.os.length+1)) (o':=yau 41 (some D) t) hn ⟨hl▸d1.last,rfl⟩
 have e1:(ns ++ [(e,yau 41 (some D) t)] ++ [(D,oD)]).set ns.length (e,yau 41 (some D) t)=ns ++ [(e,yau 41 (some D) t)] ++ [(D,oD)]:=by simp
 have e2:(S.os ++ [SO.any] ++ [SO.exd cv v]).set ns.length (SO.exc (S.os.length+1))=S.os ++ [SO.exc (S.os.length+1)] ++ [SO.exd cv v]:=by rw [<-d.obs.len];simp
 rw [e1] at d3
 have o3:=d3.obs
 rw [show (((S.new .any).new (.exd cv v)).put ns.length (.exc (S.os.length+1))).os=(yob S cv v).os from e2] at o3
 exact ⟨d3.loc,o3,d3.pcs,d3.tls,d3.cls,d3.hx⟩
theorem ykK {vs:List SV} {us:List Value} (f:c.At p) (hc:c.cl = []) (d:Den c ρ S m ns) (dv:DVs ρ (yae ns) vs us) (g:Good c ρ ns (yoW vs S)):WE c m ns (call (.ref 41) us) (PE DV c m ρ ns (yoW vs S)):=by
 refine yab λGG hGG=>?_
 obtain ⟨w,cn,sc,L0,fa,cd,cl,g0,s,E,tl,A₀,base,outer⟩:=c
 cases hc
 obtain ⟨⟨X,⟨mean,mg,mb,T⟩,fn,dbg,B⟩,_,h1,h2,_,_⟩:=f
 replace X:=X.keeps B.stays
 replace T:=T.keeps B.stays
 have fr:=Around.frames_deeper (env:=envOf cn sc L0 fa cd) B.stack
 have h1:=Nat.le_trans (Nat.le_add_right _ _) h1
 have h2:=Nat.le_trans (Nat.le_add_right _ _) h2
 rcases dv with _ | @⟨a,u,r,us,da,dr⟩
 ·refine hGG ?_;clear hGG GG
  exact g.nob
 ·have g:Good _ ρ ns (ybl (kd a==1) (yoV a r S)):=g
  obtain ⟨hk,e⟩:=g.iff
  obtain ⟨x,tx,rfl⟩:=ymA hk da
  rw [e] at g
  refine hGG ?_;clear hGG GG
  show WE _ _ _ _ (PE DV _ _ _ _ (ybl (kd a==1) (yoV a r S)))
  rw [e]
  rcases dr with _|⟨dv,dr⟩
  ·exact ⟨λh tk i=>yoz B i.F i.N X T fn fr h1 h2 λe t D oD h' tk' tc' tt F' N' nd ne lt=>ygV d (x:=x) (tc:=tc') (ygU da hk) ⟨tt,rfl⟩ i F' N' nd ne lt⟩
  ·rcases dr with _|_
   ·exact ⟨λh tk i=>ylZ B i.F i.N X T fn fr h1 h2 λe t D oD h' tk' tc' F' N' nd ne lt=>ygV d (x:=x) (tc:=tc') (ygU da hk) dv i F' N' nd ne lt⟩
   ·exact g.nob
end
section
variable {c:Cx} {p:Pl} {m:Map} {ρ:Rho} {ns:Led} {S:SS} {Y:Sys} {F:Fns}
theorem ybT (Yo:Y.Ok c.w) (O:ybJ c.w F) (f:c.At p) {b:Addr} {vs:List SV} {us:List Value} (d:Den c ρ S m ns) (dv:DVs ρ (yae ns) vs us) (g:Good c ρ ns (ybR Y F p b vs S)):WE c m ns (call (.ref b) us) (PE DV c m ρ ns (ybR Y F p b vs S)):=by
 obtain ⟨hc,e⟩:=g.iff
 have hc:=ya1 hc
 have hcl:=f.cl hc
 unfold ybR at g ⊢
 rw [e] at g ⊢
 clear e
 generalize hk:(p.k)=x9
 rcases x9 with _|k
 ·rw [hk] at g;exact g.nob
 ·rw [hk] at g
  dsimp only at g ⊢
  generalize h41:(b==41)=x9
  rcases x9 with _|_
  ·rw [h41,cond_false] at g
   rw [cond_false]
   generalize hD:(Y.fns.lookup b)=x9
   rcases x9 with _|D
   ·rw [hD] at g
    dsimp only at g ⊢
    generalize hI:(Y.ini.lookup b)=x9
    rcases x9 with _|I
    ·rw [hI] at g
     dsimp only at g ⊢
     obtain ⟨l,hl,e⟩:=g.opt
     rw [e] at g ⊢
     exact Yo.con p b vs S l hl hc c ρ m ns us rfl f dv d g
    ·rw [hI] at g
     dsimp only at g ⊢
     obtain ⟨k2,hk2,e⟩:=g.opt
     rw [e] at g ⊢
     exact ykJ Yo O f hcl (hk.trans (yit hk2)) (Yo.ini b I hI) d dv g
   ·rw [hD] at g
    dsimp only at g ⊢
    obtain ⟨hl,e⟩:=g.iff
    rw [e] at g ⊢
    exact ykI Yo O f hcl hk (Yo.fns b D hD) (yaQ hl) d dv g
  ·rw [h41] at g
   rw [beq_iff_eq.mp h41]
   exact ykK f hcl d dv g
theorem yeP {x:SO} {es:List SV} (h:x.lst? = some es):x = .lst es:=by
 refine yab λGG hGG=>?_
 rcases x with _|_|_|_|es|_|_|_|_|_|_|_|_|_|_
 ·first|exact yaa h|cases h
 ·first|exact yaa h|cases h
 ·first|exact yaa h|cases h
 ·first|exact yaa h|cases h
 ·cases h;refine hGG ?_;clear hGG GG;rfl
 ·first|exact yaa h|cases h
 ·first|exact yaa h|cases h
 ·first|exact yaa h|cases h
 ·first|exact yaa h|cases h
 ·first|exact yaa h|cases h
 ·first|exact yaa h|cases h
 ·first|exact yaa h|cases h
 ·first|exact yaa h|cases h
 ·first|exact yaa h|cases h
 ·first|exact yaa h|cases h
theorem ymB {v w u:SV} {x y:Value} (dx:DV ρ (yae ns) v x) (dy:DV ρ (yae ns) w y) (h:ypZ v w=some u):WE c m ns (call (.builtin "isinstance") [x,y]) λr n=>n=ns/\DV ρ (yae ns) u r:=by
 refine yab λGG hGG=>?_
 obtain ⟨z,hz,h⟩:=yac h
 obtain ⟨ty,ht,h⟩:=yac h
 obtain ⟨hc,rfl⟩:=yah h
 obtain ⟨k,t,hk,rfl⟩:=yhW hz dx
 have e:w = .ty ty:=by
  refine yab λGG hGG=>?_
  rcases w with _|_|_|_|_|_|_|_|_|_|i
  ·first|exact yaa ht|cases ht
  ·first|exact yaa ht|cases ht
  ·first|exact yaa ht|cases ht
  ·first|exact yaa ht|cases ht
  ·first|exact yaa ht|cases ht
  ·first|exact yaa ht|cases ht
  ·first|exact yaa ht|cases ht
  ·first|exact yaa ht|cases ht
  ·first|exact yaa ht|cases ht
  ·first|exact yaa ht|cases ht
  ·cases ht;refine hGG ?_;clear hGG GG;rfl
 subst e
 cases (show y = .type ty from dy)
 rcases Bool.or_eq_true_iff.mp hc with q|q
 ·cases beq_iff_eq.mp q
  refine hGG ?_;clear hGG GG
  exact ⟨λh tk i=>PySem.IsiPair.int_str (yap (tk:=tk+1) i ⟨rfl,_,rfl,rfl⟩)⟩
 ·cases beq_iff_eq.mp q
  refine hGG ?_;clear hGG GG
  exact ⟨λh tk i=>PySem.IsiPair.int_tuple (yap (tk:=tk+1) i ⟨rfl,_,rfl,rfl⟩)⟩
theorem ygW {id:String} {vs:List SV} {us:List Value} (d:Den c ρ S m ns) (dv:DVs ρ (yae ns) vs us) (g:Good c ρ ns (yeK id vs S)):WE c m ns (call (.builtin id) us) (PE DV c m ρ ns (yeK id vs S)):=by
 rcases dv with _ | @⟨v,u,r,us,dv,dr⟩
 ·exact g.nob
 ·rcases dr with _|⟨dw,dr⟩
  ·have g:Good c ρ ns (ybl (id == "len") (ret (yn9 v S) S)):=g
   obtain ⟨h,e⟩:=g.iff
   rw [e] at g
   show WE _ _ _ _ (PE DV c m ρ ns (ybl (id == "len") (ret (yn9 v S) S)))
   rw [e,beq_iff_eq.mp h]
   exact ycc d g λu hu=>ykx d dv hu
  ·rcases dr with _|_
   ·have g:=(show Good c ρ ns (ybl _ (ret _ S)) from g)
    obtain ⟨h,e⟩:=g.iff
    rw [e] at g
    refine (show WE _ _ _ _ (PE DV c m ρ ns (ybl _ (ret _ S))) from ?_)
    rw [e,beq_iff_eq.mp h]
    exact ycc d g λu hu=>ymB dv dw hu
   ·exact g.nob
theorem yej {o e:PySem.Expr} {ap pos:Pos} {K:Value->Led->Prop} (ho:ycs o=true) (hl:(ap.endLine==pos.line)=true) (hs:ycb e=false)
  (h:WE c m ns (eval o c.env) λov ns1=>(∃a vs n,ov = .ref a/\(a,listOf (vs:List Value).toArray n)∈ns1)/\WE c m ns1 (eval e c.env) λv ns2=>WE c m ns2 (call (.builtin "list.append") [ov,v]) K) :
  WE c m ns (eval (.Call (.Attribute o (Str.ofString "append") ap) [e] [] pos) c.env) K:=⟨λh1 tk i=>by
 refine Call_method1 (yb5 ho) (yan hs) hl (h.run i λov h2 t2 n2 i2 q=>?_)
 obtain ⟨⟨a,vs,n,ea,hm⟩,k⟩:=q
 subst ea
 have hN:=i2.N _ (List.mem_append_left _ hm)
 exact ⟨"list", "list.append",PySem.F.plainAttrs_list,PySem.F.slot_list_append,rfl,⟨_,hN.1,rfl⟩,λa' e'=>⟨_,by cases e';exact hN.1,rfl⟩,
  Calls.callWith_builtin rfl (Calls.evalArgs_plain (Calls.spliced_cons (k.run i2 λv h3 t3 n3 i3 k3=>Calls.spliced_nil (k3.go h3 t3 i3))))⟩⟩
theorem yiu {o:PySem.Expr} {ap pos:Pos} {K:Value->Led->Prop} (ho:ycs o=true) (hl:(ap.endLine==pos.line)=true)
  (h:WE c m ns (eval o c.env) λov ns1=>(∃a vs n,ov = .ref a/\(a,listOf (vs:List Value).toArray n)∈ns1)/\WE c m ns1 (call (.builtin "list.pop") [ov]) K) :
  WE c m ns (eval (.Call (.Attribute o (Str.ofString "pop") ap) [] [] pos) c.env) K:=⟨λh1 tk i=>by
 refine Call_method0 (yb5 ho) hl (h.run i λov h2 t2 n2 i2 q=>?_)
 obtain ⟨⟨a,vs,n,ea,hm⟩,k⟩:=q
 subst ea
 have hN:=i2.N _ (List.mem_append_left _ hm)
 exact ⟨"list", "list.pop",PySem.F.plainAttrs_list,PySem.F.slot_list_pop,rfl,⟨_,hN.1,rfl⟩,λa' e'=>⟨_,by cases e';exact hN.1,rfl⟩,
  callWith_method0 (env:=c.env) (k.go h2 t2 i2)⟩⟩
theorem yiv {es:List SV} {q:List SV × SV} (h:yfn es=some q):es=q.1 ++ [q.2]:=by
 induction es generalizing q with
 | nil=>cases h
 | cons x r ih=>
  unfold yfn at h
  generalize hr:(yfn r)=x9
  rcases x9 with _|q'
  ·rw [hr] at h
   cases h
   rcases r with _|⟨y,r⟩
   ·rfl
   ·unfold yfn at hr;split at hr<;>cases hr
  ·rw [hr] at h
   cases h
   rw [ih hr];rfl
theorem ykL {α β:Type} {P:α->β->Prop} {xs:List α} {x:α} {zs:List β} (h:A2 P (xs ++ [x]) zs):∃ys y,zs=ys ++ [y]/\A2 P xs ys/\P x y:=by
 induction xs generalizing zs with
 | nil=>
  rcases h with _|⟨p,h⟩
  cases h
  exact ⟨[],_,rfl,.nil,p⟩
 | cons u r ih=>
  rcases h with _|⟨p,h⟩
  obtain ⟨ys,y,rfl,h1,h2⟩:=ih h
  exact ⟨_::ys,y,rfl,.cons p h1,h2⟩
theorem ykM {a:SV} {v:Value} {q:SV × SS} (d:Den c ρ S m ns) (dv:DV ρ (yae ns) a v) (h:ypX a S=some q):(∃b vs n,v = .ref b/\(b,listOf (vs:List Value).toArray n)∈ns)/\WE c m ns (call (.builtin "list.pop") [v]) λu n=>yae n=yae ns/\DV ρ (yae ns) q.1 u/\Den c ρ q.2 m n:=by
 refine yab λGG hGG=>?_
 obtain ⟨i,hi,h⟩:=yac h
 obtain ⟨es,he,h⟩:=yac h
 obtain ⟨o,ho,he⟩:=yac he
 cases yeP he
 obtain ⟨w,hw,h⟩:=yac h
 obtain ⟨hz,rfl⟩:=yah h
 cases yiv hw
 obtain ⟨b,o',rfl,ea,@⟨vs,n,eo,D⟩⟩:=d.ref hi ho dv
 subst eo
 have hl:=D.len
 obtain ⟨ys,y,rfl,D1,dy⟩:=ykL D
 refine hGG ?_;clear hGG GG
 refine ⟨⟨b,_,n,rfl,List.mem_of_getElem? ea⟩,ymd ea (by rw [hl];exact yaQ hz) ⟨yaU ea,dy,d.put ea ⟨rfl,D1⟩⟩⟩
theorem ykN {op:Operator} {a b:SV} {x y:Value} {es:List SV} {K:Value->Led->Prop} (d:Den c ρ S m ns) (da:DV ρ (yae ns) a x) (db:DV ρ (yae ns) b y) (h:ypW op a b S=some es) (k:∀v n,PE DV c m ρ ns (one (.r S.os.length) (S.new (.lst es))) v n->K v n):WE c m ns (binaryOp op x y) K:=by
 refine yab λGG hGG=>?_
 obtain ⟨as,h1,h⟩:=yac h
 obtain ⟨bs,h2,h⟩:=yac h
 obtain ⟨hc,rfl⟩:=yah h
 obtain ⟨o1,ho1,h1⟩:=yac h1
 obtain ⟨o2,ho2,h2⟩:=yac h2
 cases yeP h1
 cases yeP h2
 obtain ⟨a1,_,rfl,hm1,@⟨vs,n1,e1,D1⟩⟩:=d.ob ho1 da
 obtain ⟨a2,_,rfl,hm2,@⟨us,n2,e2,D2⟩⟩:=d.ob ho2 db
 subst e1
 subst e2
 have hc:=yag hc
 have hz:=yaQ hc.2
 rcases op with _|_|_|_|_|_|_|_|_|_|_|_|_
 ·refine hGG ?_;clear hGG GG
  refine ymc hm1 hm2 (by rw [D1.len,D2.len];exact hz) λD=>k _ _ ?_
  have u:Up ρ ρ (yae ns) (yae (ns ++ [(D,listOf (vs++us).toArray 0)])):=yas
  exact ⟨.head _,u,⟨D,d.last,rfl⟩,d.new ⟨rfl,DVs.up u (D1.app D2)⟩⟩
 ·refine hGG ?_;clear hGG GG
  first|exact yaa hc.1|cases hc.1
 ·refine hGG ?_;clear hGG GG
  first|exact yaa hc.1|cases hc.1
 ·refine hGG ?_;clear hGG GG
  first|exact yaa hc.1|cases hc.1
 ·refine hGG ?_;clear hGG GG
  first|exact yaa hc.1|cases hc.1
 ·refine hGG ?_;clear hGG GG
  first|exact yaa hc.1|cases hc.1
 ·refine hGG ?_;clear hGG GG
  first|exact yaa hc.1|cases hc.1
 ·refine hGG ?_;clear hGG GG
  first|exact yaa hc.1|cases hc.1
 ·refine hGG ?_;clear hGG GG
  first|exact yaa hc.1|cases hc.1
 ·refine hGG ?_;clear hGG GG
  first|exact yaa hc.1|cases hc.1
 ·refine hGG ?_;clear hGG GG
  first|exact yaa hc.1|cases hc.1
 ·refine hGG ?_;clear hGG GG
  first|exact yaa hc.1|cases hc.1
 ·refine hGG ?_;clear hGG GG
  first|exact yaa hc.1|cases hc.1
theorem ykO {op:Operator} {a b:SV} {x y:Value} (d:Den c ρ S m ns) (da:DV ρ (yae ns) a x) (db:DV ρ (yae ns) b y) (g:Good c ρ ns (ymk op a b S)):WE c m ns (binaryOp op x y) (PE DV c m ρ ns (ymk op a b S)):=by
 unfold ymk at g ⊢
 generalize hb:(yoT op a b)=x9
 rcases x9 with _|u
 ·rw [hb] at g
  dsimp only at g ⊢
  obtain ⟨es,he,e⟩:=g.opt
  exact ykN d da db he λv n k=>by rw [e];exact k
 ·exact (ykH da db hb).mono λv n k=>by obtain ⟨rfl,dv⟩:=k;exact yaP d dv
noncomputable def DBn (_:Rho) (_:List Addr) (k:Option Int) (v:Value):Prop:=IsPart v k
theorem ygX (O:ybJ c.w F) (f:c.At p) {e:Option PySem.Expr} (d:Den c ρ S m ns) (g:Good c ρ ns (yed F p e S)):WE c m ns (PySem.evalPart e c.env) (PE DBn c m ρ ns (yed F p e S)):=by
 rcases e with _|e
 ·exact ⟨λh tk i=>wpAny_pure (yap i (yaP d .none))⟩
 ·exact yaY (K:=λv n=>PE DBn c m ρ ns (yed F p (some e) S) v n) g (O.E c p e S ρ m ns rfl f d) λa v S1 ρ1 n1 u dv d1 g1 up=>by
   obtain ⟨k,hk,e⟩:=g1.opt
   refine up ?_
   rw [e]
   refine yab λGG hGG=>?_
   obtain ⟨z,hz,hk⟩:=yac hk
   obtain ⟨k',t,hk',rfl⟩:=yhW hz dv
   cases (ya5 _ hk).symm.trans hk'
   refine hGG ?_;clear hGG GG
   exact yaP d1 (.int _ _)
theorem A2.drop {α β:Type} {P:α->β->Prop} {xs:List α} {ys:List β} (h:A2 P xs ys) (k:Nat):A2 P (xs.drop k) (ys.drop k):=by
 induction h generalizing k with
 | nil=>rw [List.drop_nil,List.drop_nil];exact .nil
 | cons p h ih=>
  rcases k with _|k
  ·exact .cons p h
  ·exact ih k
theorem A2.take {α β:Type} {P:α->β->Prop} {xs:List α} {ys:List β} (h:A2 P xs ys) (k:Nat):A2 P (xs.take k) (ys.take k):=by
 induction h generalizing k with
 | nil=>rw [List.take_nil,List.take_nil];exact .nil
 | cons p h ih=>
  rcases k with _|k
  ·exact .nil
  ·exact .cons p (ih k)
theorem ykP {es:List SV} {vs:List Value} {lo hi:Option Int} (D:DVs ρ (yae ns) es vs):DVs ρ (yae ns) (yij es lo hi) (kms_pick vs lo hi):=by
 unfold yij kms_pick
 rw [D.len]
 exact (D.drop _).take _
theorem ygY (O:ybJ c.w F) (f:c.At p) {a s:PySem.Expr} {pos:Pos} {l u:Option PySem.Expr} (hs:yec s=some (l,u)) (d:Den c ρ S m ns) (g:Good c ρ ns (rb (λv S=>rb (λlo S=>rb (λhi S=>yct v lo hi S) (yed F p u S)) (yed F p l S)) (F.E p a S))) :
  WE c m ns (eval (.Subscript a s pos) c.env) (PE DV c m ρ ns (rb (λv S=>rb (λlo S=>rb (λhi S=>yct v lo hi S) (yed F p u S)) (yed F p l S)) (F.E p a S))):=by
 refine yab λGG hGG=>?_
 rcases s with _|_|_|_|_|_|_|_|_|_|_|_|_|_|_|_|_|_|_|_|_|_|_|_|_|_|⟨l',u',k,sp⟩
 ·first|exact yaa hs|cases hs
 ·first|exact yaa hs|cases hs
 ·first|exact yaa hs|cases hs
 ·first|exact yaa hs|cases hs
 ·first|exact yaa hs|cases hs
 ·first|exact yaa hs|cases hs
 ·first|exact yaa hs|cases hs
 ·first|exact yaa hs|cases hs
 ·first|exact yaa hs|cases hs
 ·first|exact yaa hs|cases hs
 ·first|exact yaa hs|cases hs
 ·first|exact yaa hs|cases hs
 ·first|exact yaa hs|cases hs
 ·first|exact yaa hs|cases hs
 ·first|exact yaa hs|cases hs
 ·first|exact yaa hs|cases hs
 ·first|exact yaa hs|cases hs
 ·first|exact yaa hs|cases hs
 ·first|exact yaa hs|cases hs
 ·first|exact yaa hs|cases hs
 ·first|exact yaa hs|cases hs
 ·first|exact yaa hs|cases hs
 ·first|exact yaa hs|cases hs
 ·first|exact yaa hs|cases hs
 ·first|exact yaa hs|cases hs
 ·first|exact yaa hs|cases hs
 ·obtain ⟨hk,e⟩:=yah hs
  cases e
  rcases k with _|_
  ·refine hGG ?_;clear hGG GG
   have W:=yaY (K:=λv n=>∀h tk,Is c m n h->wpAny (MM c.w) c.A (PySem.evalPart l c.env) (λlv s₁=>wpAny (MM c.w) c.A (PySem.evalPart u c.env) (λuv s₂=>wpAny (MM c.w) c.A (subscriptTail a (.Slice l u none sp) v (.ref s₂.heap.objs.size)) (Ok c m (PE DV c m ρ ns (rb (λv S=>rb (λlo S=>rb (λhi S=>yct v lo hi S) (yed F p u S)) (yed F p l S)) (F.E p a S)))) c.E
     {s₂ with heap:=s₂.heap.push {cls:=.type "slice",data:=.fields #[lv,uv,.none]}}) c.E s₁) c.E (c.st h tk)) g (O.E c p a S ρ m ns rfl f d) λx v S1 ρ1 n1 u1 dv d1 g1 up=>?_
   ·refine ⟨λh tk i=>Subscript_ (W.run i λv h1 t1 n1 i1 k=>wpAny_Slice ?_)⟩
    exact wpAny_mono (k h1 t1 i1) (λlv s1 k1=>wpAny_mono k1 (λuv s2 k2=>wpAny_pure k2) λ_ _ e=>e) λ_ _ e=>e
   ·intro h tk i
    have W2:=yaY (K:=λlv n=>∀h tk,Is c m n h->wpAny (MM c.w) c.A (PySem.evalPart u c.env) (λuv s₂=>wpAny (MM c.w) c.A (subscriptTail a (.Slice l u none sp) v (.ref s₂.heap.objs.size)) (Ok c m (PE DV c m ρ ns (rb (λv S=>rb (λlo S=>rb (λhi S=>yct v lo hi S) (yed F p u S)) (yed F p l S)) (F.E p a S)))) c.E
     {s₂ with heap:=s₂.heap.push {cls:=.type "slice",data:=.fields #[lv,uv,.none]}}) c.E (c.st h tk)) g1 (ygX O f d1) λlo lv S2 ρ2 n2 u2 dl d2 g2 up2 h tk i=>?_
    ·exact W2.run i λlv h1 t1 n1 i1 k1=>k1 h1 t1 i1
    ·have W3:=yaY (K:=λuv n=>∀h tk,Is c m n h->wpAny (MM c.w) c.A (subscriptTail a (.Slice l u none sp) v (.ref h.objs.size)) (Ok c m (PE DV c m ρ ns (rb (λv S=>rb (λlo S=>rb (λhi S=>yct v lo hi S) (yed F p u S)) (yed F p l S)) (F.E p a S)))) c.E
      (c.st (h.push {cls:=.type "slice",data:=.fields #[lv,uv,.none]}) tk)) g2 (ygX O f d2) λhi uv S3 ρ3 n3 u3 du d3 g3 up3 h tk i=>?_
     ·exact W3.run i λuv h2 t2 n2 i2 k2=>k2 h2 t2 i2
     ·refine yab λGG hGG=>?_
      obtain ⟨es,he,e1⟩:=g3.opt
      have g4:Good c ρ3 n3 (opt ((S3.ob x).bind SO.lst?) λes=>ybl (decide (es.length<=100)) (one (SV.r S3.os.length) (S3.new (.lst (yij es lo hi))))):=g3
      rw [e1] at g4
      obtain ⟨hz,e2⟩:=g4.iff
      obtain ⟨o,ho,he⟩:=yac he
      cases yeP he
      obtain ⟨b,_,rfl,hm,@⟨vs,n,eo,D⟩⟩:=d3.ob ho ((dv.up u2).up u3)
      subst eo
      refine hGG ?_;clear hGG GG
      refine ycV hm dl du (by rw [D.len];exact yaQ hz) (λ_ _=>by with_unfolding_all rfl) i λd h' i'=>yap i' (up (up2 (up3 ?_)))
      unfold yct
      rw [e1,e2]
      have u4:Up ρ3 ρ3 (yae n3) (yae (n3 ++ [(d,listOf (kms_pick vs lo hi).toArray 0)])):=yas
      exact ⟨.head _,u4,⟨d,d3.last,rfl⟩,d3.new ⟨rfl,DVs.up u4 (ykP D)⟩⟩
  ·first|exact yaa hk|cases hk
theorem yiw {x:Str} {u:SV} (h:ykn Y p x=some u):p.sc.names.lookup x=some .globalImplicit/\Y.gl.lookup x=some u:=by
 unfold ykn at h
 split at h
 ·rename_i e;exact ⟨e,h⟩
 ·cases h
theorem ysf {a:SV} {b:Addr} (h:a.f? = some b):a = .f b:=by
 refine yab λGG hGG=>?_
 rcases a with _|_|_|_|_|_|_|a|_|_|_
 ·first|exact yaa h|cases h
 ·first|exact yaa h|cases h
 ·first|exact yaa h|cases h
 ·first|exact yaa h|cases h
 ·first|exact yaa h|cases h
 ·first|exact yaa h|cases h
 ·first|exact yaa h|cases h
 ·cases h;refine hGG ?_;clear hGG GG;rfl
 ·first|exact yaa h|cases h
 ·first|exact yaa h|cases h
 ·first|exact yaa h|cases h
theorem yo4 {a:SV} {b:String} (h:a.bi? = some b):a = .bi b:=by
 refine yab λGG hGG=>?_
 rcases a with _|_|_|_|_|_|_|_|a|_|_
 ·first|exact yaa h|cases h
 ·first|exact yaa h|cases h
 ·first|exact yaa h|cases h
 ·first|exact yaa h|cases h
 ·first|exact yaa h|cases h
 ·first|exact yaa h|cases h
 ·first|exact yaa h|cases h
 ·first|exact yaa h|cases h
 ·cases h;refine hGG ?_;clear hGG GG;rfl
 ·first|exact yaa h|cases h
 ·first|exact yaa h|cases h
theorem yeQ {M:Model} {A:Around} {E:Value->Shared->Prop} {s:Shared} {env:Env} {o e:PySem.Expr} {name:Str} {apos pos:Pos} {Q:Value->Shared->Prop} (hs:starEach [e] env = [(false,eval e env)]) (hline:(apos.endLine==pos.line)=true) (hb:attributeBase o name env (eval o env)=eval o env)
  (h:wpAny M A (eval o env) (λov s₁=>wpAny M A (getMethod ov name (do return (<-importBound o env).getD true)) (λfx s₂=>wpAny M A (callWith pos fx.1 fx.2 (backTo pos (starEach [e] env)) []) Q E s₂) E s₁) E s):wpAny M A (eval (.Call (.Attribute o name apos) [e] [] pos) env) Q E s:=by
 rw [arm_eval_Call,hb]
 refine wpAny_bind (wpAny_mono h (λov s₁ h₁=>?_) λ_ _ e=>e)
 refine wpAny_bind (wpAny_standAt ?_)
 have hform:methodCallForm ([e].length+([]:List Keyword).length) (backTo pos (starEach [e] env)) (backToKw pos (keywordEach [] env))=true:=by rw [hs];rfl
 have hpos:methodCallPos true o env apos pos=pure pos:=by unfold methodCallPos;simp [hline]
 unfold methodCall
 rw [hform]
 refine wpAny_bind (wpAny_holding (wpAny_mono h₁ (λfx s₂ h₂=>?_) λ_ _ e=>e))
 exact wpAny_bind (wpAny_of_eq hpos h₂)
theorem yix (Yo:Y.Ok c.w) (O:ybJ c.w F) (f:c.At p) {o:PySem.Expr} {as:List PySem.Expr} {ap pos:Pos} (d:Den c ρ S m ns) (g:Good c ρ ns (yik Y F p o as (ap.endLine==pos.line) S)):WE c m ns (eval (.Call (.Attribute o (Str.ofString "whole") ap) as [] pos) c.env) (PE DV c m ρ ns (yik Y F p o as (ap.endLine==pos.line) S)):=by
 rcases o with _|_|_|_|_|_|_|_|_|_|_|_|_|_|_|_|_|_|_|_|_|_|_|⟨y,yp⟩|_|_|_
 ·exact g.nob
 ·exact g.nob
 ·exact g.nob
 ·exact g.nob
 ·exact g.nob
 ·exact g.nob
 ·exact g.nob
 ·exact g.nob
 ·exact g.nob
 ·exact g.nob
 ·exact g.nob
 ·exact g.nob
 ·exact g.nob
 ·exact g.nob
 ·exact g.nob
 ·exact g.nob
 ·exact g.nob
 ·exact g.nob
 ·exact g.nob
 ·exact g.nob
 ·exact g.nob
 ·exact g.nob
 ·exact g.nob
 ·unfold yik at g ⊢
  dsimp only at g ⊢
  obtain ⟨e1,he,e⟩:=g.opt
  rw [e] at g ⊢
  clear e
  refine yab λGG hGG=>?_
  cases ycy he
  obtain ⟨h1,e⟩:=g.iff
  refine hGG ?_;clear hGG GG
  rw [e] at g ⊢
  clear e
  have h1:=yag h1
  obtain ⟨ov,hov,e⟩:=g.opt
  rw [e] at g ⊢
  clear e
  obtain ⟨b,hb,e⟩:=g.opt
  rw [e] at g ⊢
  clear e
  refine yab λGG hGG=>?_
  obtain ⟨⟨C,j⟩,h2,h3⟩:=yac hb
  obtain ⟨fs,h4,h5⟩:=yac h3
  obtain ⟨m1,m2,m3,m4⟩:=Yo.meth C b h5
  have hst:=yan (r:=[]) (env:=c.env) (ya1 h1.1)
  refine hGG ?_;clear hGG GG
  refine ⟨λh tk i=>yeQ hst h1.2 rfl ((ydj (xp:=yp) Yo f d hov).run i λu h1' t1 n1 i1 q=>?_)⟩
  refine yab λGG hGG=>?_
  obtain ⟨rfl,du⟩:=q
  obtain ⟨rfl,ea,eb,H,_,_⟩:=yeg d du h2 h4
  refine hGG ?_;clear hGG GG
  refine method_inst i1.F f.f.X (InstAt.of_news i1.N (i1.mem ea) (i1.mem eb)) m1 m2 m3 H.whole ?_
  have W:=yaY (K:=λv n=>WE c m n (call (.ref b) [_,v]) (PE DV c m ρ n1 (rb (λv S=>ybR Y F p b [ov,v] S) (F.E p e1 S)))) g (O.E c p e1 S ρ m n1 rfl f d)
   λa v S1 ρ1 n2 u1 dv d1 g1 up=>(ybT Yo O f d1 (.cons (du.up u1) (.cons dv .nil)) g1).mono λv n k=>up k
  exact callWith_K f.f.X m4 (args_cons (W.run i1 λv h2 t2 n2 i2 k=>args_nil ⟨f.f.X.keeps i2.F.keep,k.go h2 t2 i2⟩) hst) hst
 ·exact g.nob
 ·exact g.nob
 ·exact g.nob
theorem yiy (Yo:Y.Ok c.w) (O:ybJ c.w F) (f:c.At p) {fe:PySem.Expr} {as:List PySem.Expr} {pos:Pos} (d:Den c ρ S m ns) (g:Good c ρ ns (ygA Y F p fe as pos S)):WE c m ns (eval (.Call fe as [] pos) c.env) (PE DV c m ρ ns (ygA Y F p fe as pos S)):=by
 rcases fe with _|_|_|_|_|_|_|_|_|_|_|_|_|_|_|_|_|_|_|_|⟨o,x,ap⟩|_|_|⟨x,xp⟩|_|_|_
 ·exact g.nob
 ·exact g.nob
 ·exact g.nob
 ·exact g.nob
 ·exact g.nob
 ·exact g.nob
 ·exact g.nob
 ·exact g.nob
 ·exact g.nob
 ·exact g.nob
 ·exact g.nob
 ·exact g.nob
 ·exact g.nob
 ·exact g.nob
 ·exact g.nob
 ·exact g.nob
 ·exact g.nob
 ·exact g.nob
 ·exact g.nob
 ·exact g.nob
 ·unfold ygA at g ⊢
  dsimp only at g ⊢
  by_cases hx:(x==Str.ofString "whole")=true
  ·rw [hx,cond_true] at g ⊢
   cases beq_iff_eq.mp hx
   exact yix Yo O f d g
  rw [Bool.eq_false_iff.mpr hx,cond_false] at g ⊢
  by_cases hx2:(x==Str.ofString "pop")=true
  ·rw [hx2,cond_true] at g ⊢
   refine yab λGG hGG=>?_
   cases beq_iff_eq.mp hx2
   obtain ⟨hc,e⟩:=g.iff
   refine hGG ?_;clear hGG GG
   rw [e] at g ⊢
   have hc:=yag hc
   have hc1:=yag hc.1
   cases List.isEmpty_iff.mp hc1.1
   refine yiu hc1.2 hc.2 (yaY g (O.E c p o S ρ m ns rfl f d) λa v S1 ρ1 n1 u dv d1 g1 up=>?_)
   refine yab λGG hGG=>?_
   obtain ⟨w,hw,e2⟩:=g1.opt
   obtain ⟨k1,k2⟩:=ykM d1 dv hw
   refine hGG ?_;clear hGG GG
   refine ⟨k1,k2.mono λr n3 k=>up ?_⟩
   obtain ⟨ek,dr,d3⟩:=k
   rw [e2]
   exact ⟨.head _,ek▸.refl,ek▸dr,d3⟩
  rw [Bool.eq_false_iff.mpr hx2,cond_false] at g ⊢
  obtain ⟨ee,hone,e⟩:=g.opt
  rw [e] at g ⊢
  refine yab λGG hGG=>?_
  cases ycy hone
  clear e
  obtain ⟨hc,e⟩:=g.iff
  refine hGG ?_;clear hGG GG
  rw [e] at g ⊢
  clear e
  have hc:=yag hc
  have h4:=ya1 hc.2
  have hc:=yag hc.1
  have hc1:=yag hc.1
  rw [beq_iff_eq.mp hc.2]
  refine yej hc1.1 hc1.2 h4 (yaY g (O.E c p o S ρ m ns rfl f d) λa v S1 ρ1 n1 u dv d1 g1 up=>?_)
  obtain ⟨hl,e⟩:=g1.iff
  rw [e] at g1
  refine ⟨yio d1 dv hl,yaY g1 (O.E c p ee S1 ρ1 m n1 rfl f d1) λb w S2 ρ2 n2 u2 dw d2 g2 up2=>?_⟩
  obtain ⟨S3,hS3,e2⟩:=g2.opt
  refine (yky d2 (dv.up u2) dw hS3).mono λr n3 k=>up ?_
  refine yab λGG hGG=>?_
  obtain ⟨rfl,ek,d3⟩:=k
  refine hGG ?_;clear hGG GG
  rw [e]
  refine up2 ?_
  rw [e2]
  exact ⟨.head _,ek▸.refl,rfl,d3⟩
 ·exact g.nob
 ·exact g.nob
 ·unfold ygA at g ⊢
  dsimp only at g ⊢
  obtain ⟨hst,e⟩:=g.iff
  rw [e] at g ⊢
  clear e
  obtain ⟨u,hu,e⟩:=g.opt
  rw [e] at g ⊢
  clear e
  obtain ⟨h1,h2⟩:=yiw hu
  have N:=yef (ρ:=ρ) (m:=m) (ns:=ns) (xp:=xp) Yo f ((kind_of f x).trans h1) h2
  have hst:=ya1 hst
  generalize hf:(u.f?)=x9
  rcases x9 with _|b
  ·rw [hf] at g
   dsimp only at g ⊢
   obtain ⟨id,hid,e⟩:=g.opt
   rw [e] at g ⊢
   clear e
   obtain ⟨hne,e⟩:=g.iff
   rw [e] at g ⊢
   clear e
   cases yo4 hid
   refine ⟨λh tk i=>Call_ (N.run i λfv h1 t1 n1 i1 q=>?_)⟩
   refine yab λGG hGG=>?_
   obtain ⟨rfl,rfl⟩:=q
   have W:=yaY (K:=λus n=>WE c m n (call (.builtin id) us) (PE DV c m ρ n1 (rb (λvs S=>yeK id vs S) (xEs F p as S)))) g (yeO O rfl f pos as d)
    λa v S1 ρ1 n2 u dv d1 g1 up=>(ygW d1 dv g1).mono λv n k=>up k
   rcases as with _|⟨e,r⟩
   ·first|exact yaa hne|cases hne
   ·have hst:=Bool.or_eq_false_iff.mp hst
    refine hGG ?_;clear hGG GG
    exact PyProof.Rows.callWith_builtin1 (W.run i1 λvs h2 t2 n2 i2 k=>k.go h2 t2 i2) (yan hst.1) (yb7 pos hst.2)
  ·rw [hf] at g
   dsimp only at g ⊢
   cases ysf hf
   have hk:=Yo.keep x b h2
   refine ⟨λh tk i=>Call_ (N.run i λfv h1 t1 n1 i1 q=>?_)⟩
   refine yab λGG hGG=>?_
   obtain ⟨rfl,rfl⟩:=q
   have W:=yaY (K:=λus n=>WE c m n (call (.ref b) us) (PE DV c m ρ n1 (rb (λvs S=>ybR Y F p b vs S) (xEs F p as S)))) g (yeO O rfl f pos as d)
    λa v S1 ρ1 n2 u dv d1 g1 up=>(ybT Yo O f d1 dv g1).mono λv n k=>up k
   rcases as with _|⟨e,r⟩
   ·refine hGG ?_;clear hGG GG
    exact callWith_K0 (f.f.X.keeps i1.F.keep) hk ((ybT Yo O f (vs:=[]) (us:=[]) d .nil (g.right (ns':=n1) (.head _) .refl)).run i1 λv h2 t2 n2 i2 k=>yap i2 (PE.at (f:=λvs S=>ybR Y F p b vs S) (.head _) .refl k))
   ·have hst:=Bool.or_eq_false_iff.mp hst
    refine hGG ?_;clear hGG GG
    exact callWith_K f.f.X hk (W.run i1 λvs h2 t2 n2 i2 k=>⟨f.f.X.keeps i2.F.keep,k.go h2 t2 i2⟩) (yan hst.1) (yb7 pos hst.2)
 ·exact g.nob
 ·exact g.nob
 ·exact g.nob
theorem yo5 (Yo:Y.Ok c.w) (O:ybJ c.w F) (f:c.At p) {e:PySem.Expr} (d:Den c ρ S m ns) (g:Good c ρ ns (xE Y F p e S)):WE c m ns (eval e c.env) (PE DV c m ρ ns (xE Y F p e S)):=by
 unfold xE at g ⊢
 rcases e with _|_|⟨a,op,b,pos⟩|⟨op,a,pos⟩|_|⟨t,a,b,pos⟩|⟨ks,vs,pos⟩|_|_|_|_|_|_|_|_|⟨a,ops,bs,pos⟩|⟨fe,as,ks,pos⟩|_|_|⟨k,j,pos⟩|⟨o,x,pos⟩|⟨a,s,pos⟩|_|⟨x,xp⟩|⟨es,pos⟩|⟨es,k,pos⟩|_
 ·exact g.nob
 ·exact g.nob
 ·have W:=yee (K:=λv w n=>WE c m n (binaryOp op v w) (PE DV c m ρ ns (rb (λx S=>rb (λy S=>ymk op x y S) (F.E p b S)) (F.E p a S)))) g (O.E c p a S ρ m ns rfl f d) (λρ1 S1 n1 d1 g1=>O.E c p b S1 ρ1 m n1 rfl f d1 g1) (λu d=>d.up u)
   λa b v w ρ2 S2 n2 d1 d2 den g2 up=>(ykO den d1 d2 g2).mono λv n k=>up k
  exact ⟨λh tk i=>wpAny_BinOp (W.then2 i)⟩
 ·have W:=yaY (K:=λv n=>WE c m n (unaryOp op v) (PE DV c m ρ ns (rb (λx S=>ret (unF op x) S) (F.E p a S)))) g (O.E c p a S ρ m ns rfl f d) λa v S1 ρ1 n1 u dv d1 g1 up=>(ycc d1 g1 λu h=>ymy dv h).mono λv n k=>up k
  exact ⟨λh tk i=>UnaryOp_ (W.then i)⟩
 ·exact g.nob
 ·have W:=yaY (K:=λq n=>WE c m n (if q=true then eval a c.env else eval b c.env) (PE DV c m ρ ns (rb (λq S=>cond q (F.E p a S) (F.E p b S)) (F.T p t S)))) g (O.T c p t S ρ m ns rfl f d) λq q' S1 ρ1 n1 u e d1 g1 up=>by
   cases (show q=q' from e)
   rcases q with _|_
   ·exact (O.E c p b S1 ρ1 m n1 rfl f d1 g1).mono λv n k=>up k
   ·exact (O.E c p a S1 ρ1 m n1 rfl f d1 g1).mono λv n k=>up k
  refine ⟨λh tk i=>IfExp_ (W.run i λq h1 t1 n1 i1 k=>?_)⟩
  cases q<;>exact k.go h1 t1 i1
 ·dsimp only at g ⊢
  obtain ⟨h1,e⟩:=g.iff
  rw [e] at g ⊢
  have h1:=yag h1
  refine yab λGG hGG=>?_
  cases List.isEmpty_iff.mp h1.1
  cases List.isEmpty_iff.mp h1.2
  obtain ⟨mean,mg,mb,T⟩:=f.f.T
  refine hGG ?_;clear hGG GG
  exact ⟨λh tk i=>wpAny_Dict_empty (yap (i.snoc (i.F.push _) (i.N.push i.F _) λp hp=>Nat.ne_of_lt (Heap.lt_size (i.N p hp).1)) ⟨.head _,yas,⟨_,d.last,rfl⟩,d.new ⟨i.F.notModules (modules_low T.nolimit),rfl⟩⟩)⟩
 ·exact g.nob
 ·exact g.nob
 ·exact g.nob
 ·exact g.nob
 ·exact g.nob
 ·exact g.nob
 ·exact g.nob
 ·exact g.nob
 ·dsimp only at g ⊢
  refine yab λGG hGG=>?_
  obtain ⟨⟨op,b⟩,hc,e⟩:=g.opt
  refine hGG ?_;clear hGG GG
  rw [e] at g ⊢
  refine yab λGG hGG=>?_
  obtain ⟨op',h1,hc⟩:=yac hc
  obtain ⟨b',h2,hc⟩:=yac hc
  obtain ⟨h3,e3⟩:=yah hc
  cases e3
  cases ycy h1
  cases ycy h2
  have W:=yee (K:=λv w n=>WE c m n (compareOp op v w) (PE DV c m ρ ns (rb (λx S=>rb (λy S=>ret (ymj op x y S) S) (F.E p b S)) (F.E p a S)))) g (O.E c p a S ρ m ns rfl f d) (λρ1 S1 n1 d1 g1=>O.E c p b S1 ρ1 m n1 rfl f d1 g1) (λu d=>d.up u)
   λa b v w ρ2 S2 n2 d1 d2 den g2 up=>(ycc den g2 λu h=>ygS den d1 d2 h).mono λv n k=>up k
  refine hGG ?_;clear hGG GG
  exact ⟨λh tk i=>wpAny_Compare1 (W.then2 i) (ydm (ya1 h3))⟩
 ·rcases ks with _|_
  ·exact yiy Yo O f d g
  ·exact g.nob
 ·exact g.nob
 ·exact g.nob
 ·exact ycc d g λu h=>ydO h
 ·dsimp only at g ⊢
  obtain ⟨hb,e⟩:=g.iff
  rw [e] at g ⊢
  have W:=yaY (K:=λv n=>WE c m n (getAttr v x true) (PE DV c m ρ ns (rb (λv S=>ret (yn7 Y v x S) S) (F.E p o S)))) g (O.E c p o S ρ m ns rfl f d) λa v S1 ρ1 n1 u dv d1 g1 up=>(ycc d1 g1 λu h=>yks Yo f d1 dv h).mono λv n k=>up k
  exact ⟨λh tk i=>Attribute_any_ (W.then i) (yb6 hb)⟩
 ·dsimp only at g ⊢
  generalize hs:yec s=so at g ⊢
  rcases so with _|lu
  ·dsimp only at g ⊢
   obtain ⟨hb,e⟩:=g.iff
   rw [e] at g ⊢
   have W:=yee (K:=λv w n=>WE c m n (subscriptTail a s v w) (PE DV c m ρ ns (rb (λv S=>rb (λj S=>ret (ykj v j S) S) (F.E p s S)) (F.E p a S)))) g (O.E c p a S ρ m ns rfl f d) (λρ1 S1 n1 d1 g1=>O.E c p s S1 ρ1 m n1 rfl f d1 g1) (λu d=>d.up u)
    λa b v w ρ2 S2 n2 d1 d2 den g2 up=>(ycc den g2 λu h=>yin den d1 d2 (ya1 hb) h).mono λv n k=>up k
   exact ⟨λh tk i=>Subscript_ (W.then2 i)⟩
  ·exact ygY O f hs d g
 ·exact g.nob
 ·exact ycc d g λu h=>ydj Yo f d h
 ·have W:=yaY (K:=λvs n=>WE c m n (newList vs) (PE DV c m ρ ns (rb (λvs S=>ybl (decide (vs.length<=100)) (one (.r S.os.length) (S.new (.lst vs)))) (xEs F p es S)))) g (yeO O rfl f pos es d) λas vs S1 ρ1 n1 u dv d1 g1 up=>by
   obtain ⟨hl,e⟩:=g1.iff
   refine ykf (by rw [dv.len];exact yaQ hl) λD=>up ?_
   rw [e]
   have u:Up ρ1 ρ1 (yae n1) (yae (n1 ++ [(D,listOf vs.toArray 0)])):=yas
   exact ⟨.head _,u,⟨D,d1.last,rfl⟩,d1.new ⟨rfl,dv.up u⟩⟩
  exact ⟨λh tk i=>PyProof.Rows.List_ (W.then i)⟩
 ·have W:=yaY (K:=λvs n=>WE c m n (newTuple vs) (PE DV c m ρ ns (rb (λvs S=>ybl (decide (vs.length<=100)) (one (.r S.os.length) (S.new (.tup vs)))) (xEs F p es S)))) g (yeO O rfl f pos es d) λas vs S1 ρ1 n1 u dv d1 g1 up=>by
   obtain ⟨hl,e⟩:=g1.iff
   refine yii (by rw [dv.len];exact yaQ hl) λD=>up ?_
   rw [e]
   have u:Up ρ1 ρ1 (yae n1) (yae (n1 ++ [(D,yal vs 0)])):=yas
   exact ⟨.head _,u,⟨D,d1.last,rfl⟩,d1.new ⟨rfl,dv.up u⟩⟩
  exact ⟨λh tk i=>Tuple_ (W.then i)⟩
 ·exact g.nob
end
section
variable {c:Cx} {p:Pl} {m:Map} {ρ:Rho} {ns:Led} {S:SS} {Y:Sys} {F:Fns}
theorem yo6 (O:ybJ c.w F) (f:c.At p) {o:BoolOp} {pos:Pos} {u:Sem Value} (es:List PySem.Expr):∀{S:SS} {ρ:Rho} {ns:Led},Den c ρ S m ns->Good c ρ ns (xB F p o es S)->WE c m ns (PySem.isTrue (.BoolOp o es pos) c.env u) (PE DB c m ρ ns (xB F p o es S)):=by
 induction es with
 | nil=>
     rcases o with _|_
     ·exact λd g=>⟨λh tk i=>isTrue_and_nil (yap i (yaP d rfl))⟩
     ·exact λd g=>⟨λh tk i=>isTrue_or_nil (yap i (yaP d rfl))⟩
 | cons e r ih=>
  intro S ρ ns d g
  have g:Good c ρ ns (rb (λq S=>cond (q==(o == .And)) (xB F p o r S) (one q S)) (F.T p e S)):=g
  have W:=yaY (K:=λq n=>if q=(o == .And) then WE c m n (PySem.isTrue (.BoolOp o r pos) c.env u) (PE DB c m ρ ns (xB F p o (e::r) S)) else PE DB c m ρ ns (xB F p o (e::r) S) q n) g (O.T c p e S ρ m ns rfl f d) λq q' S1 ρ1 n1 u1 eq d1 g1 up=>by
   cases (show q=q' from eq)
   by_cases h:q=(o == .And)
   ·rw [if_pos h]
    have e2:(cond (q==(o == .And)) (xB F p o r S1) (one q S1))=xB F p o r S1:=by rw [beq_iff_eq.mpr h];rfl
    rw [e2] at g1
    exact (ih d1 g1).mono λv n k=>up (by rw [e2];exact k)
   ·rw [if_neg h]
    exact up (by rw [beq_eq_false_iff_ne.mpr h];exact yaP d1 rfl)
  rcases o with _|_
  ·refine ⟨λh tk i=>isTrue_and (W.run i λq h1 t1 n1 i1 k=>?_)⟩
   rcases q with _|_
   ·exact yap i1 k
   ·exact k.go h1 t1 i1
  ·refine ⟨λh tk i=>isTrue_or (W.run i λq h1 t1 n1 i1 k=>?_)⟩
   rcases q with _|_
   ·exact k.go h1 t1 i1
   ·exact yap i1 k
theorem yat (O:ybJ c.w F) (f:c.At p) {e:PySem.Expr} (d:Den c ρ S m ns) (g:Good c ρ ns (ybl (yeJ e) (rb (λv S=>ybQ v S) (F.E p e S)))) :
  WE c m ns (PySem.isTrue e c.env (eval e c.env)) (PE DB c m ρ ns (ybl (yeJ e) (rb (λv S=>ybQ v S) (F.E p e S)))):=by
 obtain ⟨hl,e1⟩:=g.iff
 rw [e1] at g ⊢
 have W:=yaY (K:=λv n=>WE c m n (truthy v) (PE DB c m ρ ns (rb (λv S=>ybQ v S) (F.E p e S)))) g (O.E c p e S ρ m ns rfl f d) λa v S1 ρ1 n1 u dv d1 g1 up=>(ydQ d1 dv g1).mono λv n k=>up k
 exact ⟨λh tk i=>isTrue_plain (W.then i) (yfo hl)⟩
theorem ymC (O:ybJ c.w F) (f:c.At p) {e:PySem.Expr} (d:Den c ρ S m ns) (g:Good c ρ ns (xT F p e S)):WE c m ns (PySem.isTrue e c.env (eval e c.env)) (PE DB c m ρ ns (xT F p e S)):=by
 unfold xT at g ⊢
 rcases e with ⟨o,es,pos⟩|_|_|⟨op,x,pos⟩|_|_|_|_|_|_|_|_|_|_|_|⟨a,ops,bs,pos⟩|_|_|_|_|_|_|_|_|_|_|_
 ·exact yo6 O f es d g
 ·exact yat O f d g
 ·exact yat O f d g
 ·dsimp only at g ⊢
  obtain ⟨ho,e⟩:=g.iff
  rw [e] at g ⊢
  rcases op with _|_|_|_
  ·first|exact yaa ho|cases ho
  ·exact ⟨λh tk i=>isTrue_not ((yaY (K:=λq n=>PE DB c m ρ ns (rb (λq S=>one (!q) S) (F.T p x S)) (!q) n) g (O.T c p x S ρ m ns rfl f d) λa v S1 ρ1 n1 u dv d1 g1 up=>up (yaP d1 (congrArg (!·) dv))).run i λq h1 t1 n1 i1 k=>yap i1 k)⟩
  ·first|exact yaa ho|cases ho
  ·first|exact yaa ho|cases ho
 ·exact yat O f d g
 ·exact yat O f d g
 ·exact yat O f d g
 ·exact yat O f d g
 ·exact yat O f d g
 ·exact yat O f d g
 ·exact yat O f d g
 ·exact yat O f d g
 ·exact yat O f d g
 ·exact yat O f d g
 ·exact yat O f d g
 ·dsimp only at g ⊢
  generalize hc:(yoY ops bs)=x9
  rcases x9 with _|x
  ·rw [hc] at g
   dsimp only at g ⊢
   obtain ⟨x,hx,e⟩:=g.opt
   rw [e] at g ⊢
   refine yab λGG hGG=>?_
   obtain ⟨⟨op,op2⟩,h1,hx⟩:=yac hx
   obtain ⟨⟨b,b2⟩,h2,hx⟩:=yac hx
   obtain ⟨h3,e3⟩:=yah hx
   cases e3
   cases yce h1
   cases yce h2
   refine hGG ?_;clear hGG GG
   dsimp only at g ⊢
   have W:=yee (K:=λv w n=>WE c m n (compareOp op v w) λr n=>WE c m n (truthy r) λq n=>if q=true then WE c m n (eval b2 c.env) λz n=>WE c m n (compareOp op2 w z) λr n=>WE c m n (truthy r) (PE DB c m ρ ns (rb (λx S=>rb (λy S=>rb (λq S=>cond q (rb (λz S=>ycu op2 y z S) (F.E p b2 S)) (one false S)) (ycu op x y S)) (F.E p b S)) (F.E p a S))) else
     PE DB c m ρ ns (rb (λx S=>rb (λy S=>rb (λq S=>cond q (rb (λz S=>ycu op2 y z S) (F.E p b2 S)) (one false S)) (ycu op x y S)) (F.E p b S)) (F.E p a S)) false n) g (O.E c p a S ρ m ns rfl f d) (λρ1 S1 n1 d1 g1=>O.E c p b S1 ρ1 m n1 rfl f d1 g1) (λu d=>d.up u)
    λx y v w ρ2 S2 n2 d1 d2 den g2 up=>(ydl den d1 d2 g2.left).mono λr n k=>k.mono λq n k=>by
     obtain ⟨hm,u3,dq,d3⟩:=k
     have g3:=g2.right hm u3
     cases dq
     rcases q with _|_
     ·exact up (PE.at hm u3 (yaP d3 rfl))
     ·exact yaY g3 (O.E c p b2 _ _ m n rfl f d3) λz zv S4 ρ4 n4 u4 dz d4 g4 up4=>(ydl d4 (d2.up (u3.trans u4)) dz g4).mono λr n k=>k.mono λv n k=>up (PE.at hm u3 (up4 k))
   refine ⟨λh tk i=>isTrue_chain (W.run i λv h1 t1 n1 i1 k=>test_link (k.run i1 λw h2 t2 n2 i2 k=>k.run i2 λr h3 t3 n3 i3 k=>k.run i3 λq h4 t4 n4 i4 k=>?_)) (ydm (op:=op2) (ya1 h3))⟩
   rcases q with _|_
   ·exact yap i4 k
   ·exact test_last (k.run i4 λz h5 t5 n5 i5 k=>k.then i5)
  ·rw [hc] at g
   dsimp only at g ⊢
   refine yab λGG hGG=>?_
   obtain ⟨op',h1,hc⟩:=yac hc
   obtain ⟨b',h2,hc⟩:=yac hc
   obtain ⟨h3,e3⟩:=yah hc
   cases e3
   cases ycy h1
   cases ycy h2
   have W:=yee (K:=λv w n=>WE c m n (compareOp op' v w) λr n=>WE c m n (truthy r) (PE DB c m ρ ns (rb (λx S=>rb (λy S=>ycu op' x y S) (F.E p b' S)) (F.E p a S)))) g (O.E c p a S ρ m ns rfl f d) (λρ1 S1 n1 d1 g1=>O.E c p b' S1 ρ1 m n1 rfl f d1 g1) (λu d=>d.up u)
    λa b v w ρ2 S2 n2 d1 d2 den g2 up=>(ydl den d1 d2 g2).mono λr n k=>k.mono λv n k=>up k
   refine hGG ?_;clear hGG GG
   exact ⟨λh tk i=>wpAny_isTrue_Compare1 (W.run i λv h1 t1 n1 i1 k=>k.run i1 λw h2 t2 n2 i2 k=>k.then i2) (ydm (ya1 h3))⟩
 ·exact yat O f d g
 ·exact yat O f d g
 ·exact yat O f d g
 ·exact yat O f d g
 ·exact yat O f d g
 ·exact yat O f d g
 ·exact yat O f d g
 ·exact yat O f d g
 ·exact yat O f d g
 ·exact yat O f d g
 ·exact yat O f d g
theorem ygZ {x y:Str} {v:SV} {l:List (Str × SV)}:(ylK x v l).lookup y=if y=x then some v else l.lookup y:=by
 have hh:∀{z:Str} {u:SV} {r:List (Str × SV)},((z,u)::r).lookup y=if y=z then some u else r.lookup y:=fun {z u r}=>by
  rw [List.lookup_cons]
  by_cases e:y=z
  ·rw [if_pos e,beq_iff_eq.mpr e]
  ·rw [if_neg e,beq_eq_false_iff_ne.mpr e]
 induction l with
 | nil=>exact hh
 | cons z r ih=>
  unfold ylK
  generalize q:(x==z.1)=x9
  rcases x9 with _|_
  ·rw [cond_false,show z::ylK x v r=(z.1,z.2)::ylK x v r from rfl,hh,ih,show z::r=(z.1,z.2)::r from rfl,hh]
   by_cases e:y=z.1
   ·rw [if_pos e,if_pos e,if_neg λe2=>beq_eq_false_iff_ne.mp q (e2.symm.trans e)]
   ·rw [if_neg e,if_neg e]
  ·rw [cond_true,<-beq_iff_eq.mp q,hh,show z::r=(x,z.2)::r by rw [beq_iff_eq.mp q],hh]
   by_cases e:y=x
   ·rw [if_pos e,if_pos e]
   ·rw [if_neg e,if_neg e,if_neg e]
theorem ybU (f:c.At p) {x:Str} {a:SV} {v:Value} {h:Heap} {tk:Nat} {S':SS} {Q:Unit->Shared->Prop} (d:Den c ρ S m ns) (dv:DV ρ (yae ns) a v) (hb:ydf p x a S=some S') (i:Is c m ns h)
  (k:∀h tk m' ns',yae ns'=yae ns->Is c m' ns' h->Den c ρ S' m' ns'->Q () (c.st h tk)):wpAny (MM c.w) c.A (storeName c.env x v) Q c.E (c.st h tk):=by
 have hk:=kind_of f x
 unfold ydf at hb
 generalize q:(p.sc.names.lookup x)=x9
 rcases x9 with _|y
 ·rw [q] at hb;cases hb
 ·rw [q] at hb hk
  refine yab λGG hGG=>?_
  rcases y with _|_|_|_|_
  ·cases hb
   refine hGG ?_;clear hGG GG
   refine storeX_L i.F i.N (λh2 F2 N2=>k h2 (tk+1) _ ns rfl ⟨F2,N2,i.nd,i.off⟩ ⟨λy=>?_,d.obs,d.pcs,d.tls,d.cls,d.hx⟩) f.f.fn hk
   rw [ygZ]
   split
   ·exact .some dv
   ·exact d.loc y
  ·obtain ⟨j,h1,hb⟩:=yac hb
   obtain ⟨u,h2,rfl⟩:=yav hb
   obtain ⟨eb,ec,e1,e2⟩:=ygJ d h1 h2
   refine hGG ?_;clear hGG GG
   exact storeX_C i.F i.N ec (i.upd eb) e1 (λh2 o2 F2 N2 e2=>k h2 tk m _ (yaU eb) (i.set eb F2 N2) (d.put eb ⟨e2,.some dv⟩)) f.f.fn hk
  ·first|exact yaa hb|cases hb
  ·first|exact yaa hb|cases hb
  ·first|exact yaa hb|cases hb
noncomputable def yjw (c:Cx) (x:Tgt) (v:Value) (Q:Unit->Shared->Prop) (s:Shared):Prop:=match x with
 | .n x=>wpAny (MM c.w) c.A (storeName c.env x v) Q c.E s
 | .a y yp f=>wpAny (MM c.w) c.A (eval (.Name y yp) c.env) (λo s₂=>wpAny (MM c.w) c.A (setAttr o f v) Q c.E s₂) c.E s
noncomputable def yc0 (c:Cx) (x:Tgt) (t:Value->Sem Unit):Prop:=∀(v:Value) (Q:Unit->Shared->Prop) (s:Shared),yjw c x v Q s->wpAny (MM c.w) c.A (t v) Q c.E s
theorem yg0 (Yo:Y.Ok c.w) (f:c.At p) {x:Tgt} {a:SV} {v:Value} {h:Heap} {tk:Nat} {S':SS} {Q:Unit->Shared->Prop} (d:Den c ρ S m ns) (dv:DV ρ (yae ns) a v) (hb:yjo Y p x a S=some S') (i:Is c m ns h)
  (k:∀h tk m' ns',yae ns'=yae ns->Is c m' ns' h->Den c ρ S' m' ns'->Q () (c.st h tk)):yjw c x v Q (c.st h tk):=by
 rcases x with x|⟨y,yp,fl⟩
 ·exact ybU f d dv hb i k
 ·obtain ⟨o,h1,h2⟩:=yac hb
  refine (ydj (xp:=yp) Yo f d h1).run i λov h1 t1 n1 i1 q=>?_
  obtain ⟨rfl,dov⟩:=q
  exact (ygN Yo f d dov dv h2).run i1 λ_ h2 t2 n2 i2 q=>k h2 t2 _ _ q.1 i2 q.2
theorem ybx (Yo:Y.Ok c.w) (f:c.At p) {Q:Unit->Shared->Prop} {xs:List Tgt} {ts:List (Value->Sem Unit)} (st:A2 (yc0 c) xs ts):∀{as:List SV} {vs:List Value} {S S':SS} {m:Map} {ns:Led} {h:Heap} {tk:Nat},Den c ρ S m ns->DVs ρ (yae ns) as vs->ycv Y p xs as S=some S'->Is c m ns h ->
  (∀h tk m' ns',yae ns'=yae ns->Is c m' ns' h->Den c ρ S' m' ns'->Q () (c.st h tk))->wpAny (MM c.w) c.A (assignInOrder ts vs) Q c.E (c.st h tk):=by
 induction st with
 | nil=>
  intro as vs S S' m ns h tk d dv hb i k
  rcases dv with _|_
  ·cases hb;exact assignInOrder_nil (k h tk m ns rfl i d)
  ·first|exact yaa hb|cases hb
 | cons s1 st ih=>
  intro as vs S S' m ns h tk d dv hb i k
  rcases dv with _|⟨dv,dr⟩
  ·first|exact yaa hb|cases hb
  ·obtain ⟨S1,h1,h2⟩:=yac hb
   exact assignInOrder_cons (s1 _ _ _ (yg0 Yo f d dv h1 i λh1 t1 m1 n1 ek i1 d1=>ih d1 (ek▸dr) h2 i1 λh2 t2 m2 n2 ek2 i2 d2=>k h2 t2 m2 n2 (ek2.trans ek) i2 d2))
inductive yg1 (c:Cx) (es:List PySem.Expr) (xs:List Tgt):Prop
 | mk (s:A2 (yc0 c) xs ((assignEach es c.env).map (·.2))) (l:(assignEach es c.env).length=xs.length) (n:(assignEach es c.env).findIdx? (·.1)=none):yg1 c es xs
theorem ymD {e:PySem.Expr} {t:Tgt} {r:List PySem.Expr} (h:tgt e=some t):assignEach (e::r) c.env=(false,assign e c.env)::assignEach r c.env/\yc0 c t (assign e c.env):=by
 refine yab λGG hGG=>?_
 rcases e with _|_|_|_|_|_|_|_|_|_|_|_|_|_|_|_|_|_|_|_|⟨o,f,pos⟩|_|_|⟨x,pos⟩|_|_|_
 ·first|exact yaa h|cases h
 ·first|exact yaa h|cases h
 ·first|exact yaa h|cases h
 ·first|exact yaa h|cases h
 ·first|exact yaa h|cases h
 ·first|exact yaa h|cases h
 ·first|exact yaa h|cases h
 ·first|exact yaa h|cases h
 ·first|exact yaa h|cases h
 ·first|exact yaa h|cases h
 ·first|exact yaa h|cases h
 ·first|exact yaa h|cases h
 ·first|exact yaa h|cases h
 ·first|exact yaa h|cases h
 ·first|exact yaa h|cases h
 ·first|exact yaa h|cases h
 ·first|exact yaa h|cases h
 ·first|exact yaa h|cases h
 ·first|exact yaa h|cases h
 ·first|exact yaa h|cases h
 ·rcases o with _|_|_|_|_|_|_|_|_|_|_|_|_|_|_|_|_|_|_|_|_|_|_|⟨y,yp⟩|_|_|_
  ·first|exact yaa h|cases h
  ·first|exact yaa h|cases h
  ·first|exact yaa h|cases h
  ·first|exact yaa h|cases h
  ·first|exact yaa h|cases h
  ·first|exact yaa h|cases h
  ·first|exact yaa h|cases h
  ·first|exact yaa h|cases h
  ·first|exact yaa h|cases h
  ·first|exact yaa h|cases h
  ·first|exact yaa h|cases h
  ·first|exact yaa h|cases h
  ·first|exact yaa h|cases h
  ·first|exact yaa h|cases h
  ·first|exact yaa h|cases h
  ·first|exact yaa h|cases h
  ·first|exact yaa h|cases h
  ·first|exact yaa h|cases h
  ·first|exact yaa h|cases h
  ·first|exact yaa h|cases h
  ·first|exact yaa h|cases h
  ·first|exact yaa h|cases h
  ·first|exact yaa h|cases h
  ·cases h
   refine hGG ?_;clear hGG GG
   refine ⟨rfl,λv Q s hq=>?_⟩
   rw [assign_Attribute]
   exact wpAny_bind (wpAny_holding (wpAny_mono hq (λov s₂ h₂=>wpAny_bind (wpAny_standAt (wpAny_bind (wpAny_holding (wpAny_mono h₂ (λ_ _ z=>wpAny_release z) λ_ _ z=>z))))) λ_ _ z=>z))
  ·first|exact yaa h|cases h
  ·first|exact yaa h|cases h
  ·first|exact yaa h|cases h
 ·first|exact yaa h|cases h
 ·first|exact yaa h|cases h
 ·cases h;refine hGG ?_;clear hGG GG;exact ⟨rfl,λv Q s hq=>assign_Name hq⟩
 ·first|exact yaa h|cases h
 ·first|exact yaa h|cases h
 ·first|exact yaa h|cases h
theorem yci {es:List PySem.Expr}:∀{xs:List Tgt},ydg es=some xs->yg1 c es xs:=by
 induction es with
 | nil=>intro xs h;cases h;exact ⟨.nil,rfl,rfl⟩
 | cons e r ih=>
  intro xs h
  obtain ⟨t,ht,h⟩:=yac (show ((tgt e).bind λt=>(ydg r).map (t::·))=some xs from h)
  obtain ⟨ys,q,rfl⟩:=yav h
  obtain ⟨a,b,e2⟩:=ih q
  obtain ⟨e1,st⟩:=ymD (c:=c) (r:=r) ht
  refine ⟨by rw [e1];exact .cons st a,by rw [e1];exact congrArg (· + 1) b,?_⟩
  rw [e1,List.findIdx?_cons,e2];rfl
theorem yiz (xs:List Str):A2 (yc0 c) (xs.map .n) (xs.map λn=>bindName c.env n):=by
 induction xs with
 | nil=>exact .nil
 | cons x xs ih=>exact .cons (λv Q s hq=>bindName_ hq) ih
theorem yg2 {α:Type} {t:Sem α} {x:α} (h:ydN t=some x):t=pure x:=by
 rcases t
 all_goals first|exact yaa h|exact congrArg _ (Option.some.inj h)
end
section
variable {c:Cx} {p:Pl} {m:Map} {ρ:Rho} {ns:Led} {S:SS} {Y:Sys} {F:Fns}
inductive ykQ (c:Cx) (p:Pl) (ρ:Rho) (ns:Led) (m:Map) (xs:List Tgt) (sw:Option (List Str)) (S':SS) (v:Value):Prop
 | mk {a:Addr} {vs:List Value} {n:Nat} (e:v = .ref a) (b:(a,yal vs n)∈ns++c.tl) (l:vs.length=xs.length) (y:∀ys,sw=some ys->p.hd=true/\ys.length=xs.length) (H:sw=none->∀h,Is c m ns h->HOk c.A.handled h)
  (k:∀(Q:Unit->Shared->Prop) (h:Heap) (tk:Nat) (ts:List (Value->Sem Unit)),Is c m ns h->(match sw with|none=>A2 (yc0 c) xs ts|some ys=>A2 (yc0 c) (ys.reverse.map .n) ts)->(∀h tk m' ns',yae ns'=yae ns->Is c m' ns' h->Den c ρ S' m' ns'->Q () (c.st h tk)) ->
   wpAny (MM c.w) c.A (assignInOrder ts (match sw with|none=>vs|some _=>vs.reverse)) Q c.E (c.st h tk)):ykQ c p ρ ns m xs sw S' v
theorem yg3 {h:Heap} (d:Den c ρ S m ns) (i:Is c m ns h) (q:yoZ S=true):HOk c.A.handled h:=by
 refine yab λGG hGG=>?_
 obtain ⟨x,q⟩:=Option.isSome_iff_exists.mp q
 obtain ⟨j,hj,q⟩:=yac q
 obtain ⟨o,ho,q⟩:=yac q
 obtain ⟨a,ha,e⟩:=d.hx j hj
 cases ygK q
 obtain ⟨oe,ea,_,_,_,_,hd,h0,_⟩:=d.atA ho ha
 refine hGG ?_;clear hGG GG
 rw [e]
 exact .inr ⟨a,oe,_,rfl,(i.N _ (i.mem ea)).1,hd,h0.2⟩
theorem ykR (Yo:Y.Ok c.w) (f:c.At p) {xs:List Tgt} {sw:Option (List Str)} {a:SV} {v:Value} {S':SS} (d:Den c ρ S m ns) (dv:DV ρ (yae ns) a v) (h:ymn Y p xs sw a S=some S'):ykQ c p ρ ns m xs sw S' v:=by
 refine yab λGG hGG=>?_
 obtain ⟨es,h1,h2⟩:=yac h
 obtain ⟨o,ho,h1⟩:=yac h1
 cases ygI h1
 obtain ⟨b,o',e,hb,eo,D⟩:=d.ob ho dv
 obtain ⟨hl,h2⟩:=yay h2
 have hl:=yaQ hl
 rcases sw with _|ys
 ·obtain ⟨hy,h2⟩:=yay h2
  refine hGG ?_;clear hGG GG
  refine ⟨e,eo▸hb,D.len.trans hl,nofun,λ_ h i=>?_,λQ h tk ts i st k=>ybx Yo f st d D h2 i k⟩
  rcases Bool.or_eq_true_iff.mp hy with q|q
  ·exact .inl (f.hh q)
  ·exact yg3 d i q
 ·obtain ⟨hy,h2⟩:=yay h2
  have hy:=yag hy
  refine hGG ?_;clear hGG GG
  exact ⟨e,eo▸hb,D.len.trans hl,λzs e=>by (cases e;exact ⟨hy.1,yaQ hy.2⟩),nofun,λQ h tk ts i st k=>ybx Yo f st d D.rev h2 i k⟩
theorem yfq (Yo:Y.Ok c.w) (f:c.At p) {es:List PySem.Expr} {k:Nat} {tp:Pos} {e:PySem.Expr} {pos:Pos} {w:List Tgt × Option (List Str)} (hw:ymm p es k tp e pos=some w) (d:Den c ρ S m ns) (O:Good c ρ ns (F.E p e S)->WE c m ns (eval e c.env) (PE DV c m ρ ns (F.E p e S)))
  (g:Good c ρ ns (rb (λv S=>opt (ymn Y p w.1 w.2 v S) (one FL.nx)) (F.E p e S))):WS c m ns (exec (.Assign [.Tuple es k tp] e pos) c.env) (PS c ρ ns (rb (λv S=>opt (ymn Y p w.1 w.2 v S) (one FL.nx)) (F.E p e S))):=by
 refine yab λGG hGG=>?_
 obtain ⟨xs,hx,g1⟩:=yac hw
 obtain ⟨b,hb,g2⟩:=yac g1
 obtain ⟨sw,hs,g3⟩:=yac g2
 obtain ⟨h1,rfl⟩:=yah g3
 have es':c.sc=p.sc:=f.sc
 cases (show b=false from ya1 h1)
 have e1:swapsWithSole [.Tuple es k tp] e pos.line c.env=pure false:=yg2 (show ydN (swapsWithSole [.Tuple es k tp] e pos.line (yod c.sc))=_ from es'▸hb)
 have e2:swappedStores [.Tuple es k tp] e c.env=pure sw:=yg2 (show ydN (swappedStores [.Tuple es k tp] e (yod c.sc))=_ from es'▸hs)
 obtain ⟨s1,s2,s3⟩:=yci (c:=c) hx
 have W:=yaY (K:=λv n=>∃ρ' S',ykQ c p ρ' n m xs sw S' v/\∀m' n',yae n'=yae n->Den c ρ' S' m' n'->PS c ρ ns (rb (λv S=>opt (ymn Y p xs sw v S) (one FL.nx)) (F.E p e S)) .next m' n') g O λa v S1 ρ1 n1 u dv d1 g1 up=>by
  obtain ⟨S2,h2,e⟩:=g1.opt
  refine ⟨ρ1,S2,ykR Yo f d1 dv h2,λm' n' ek d2=>up ?_⟩
  rw [e]
  exact ⟨.head _,ek▸.refl,.nx,d2⟩
 refine hGG ?_;clear hGG GG
 refine ⟨λh tk i=>?_⟩
 rcases sw with _|ys
 ·refine Assign_Tuple (W.run i λv h1 t1 n1 i1 k=>?_) e1 e2
  refine yab λGG hGG=>?_
  obtain ⟨ρ',S',⟨rfl,hb,hl,_,H,k⟩,kk⟩:=k
  refine hGG ?_;clear hGG GG
  exact yc8 i1.F i1.N (News.isTup i1.N hb) (H rfl _ i1) (by rw [s2,List.size_toArray,hl]) s3 λh2 F2 N2=>k _ h2 t1 _ ⟨F2,N2,i1.nd,i1.off⟩ s1 λh3 t3 m3 n3 ek i3 d3=>yaX i3 (kk m3 n3 ek d3)
 ·refine Assign_Tuple_swapped (W.run i λv h1 t1 n1 i1 k=>?_) e1 e2
  refine yab λGG hGG=>?_
  obtain ⟨ρ',S',⟨rfl,hb,hl,hy,_,k⟩,kk⟩:=k
  refine hGG ?_;clear hGG GG
  exact unpackItemsN_ i1.F i1.N (News.isTup i1.N hb) (f.hh (hy ys rfl).1) (by rw [List.size_toArray,hl];exact (hy ys rfl).2) λh2 F2 N2=>k _ h2 t1 _ ⟨F2,N2,i1.nd,i1.off⟩ (yiz _) λh3 t3 m3 n3 ek i3 d3=>yaX i3 (kk m3 n3 ek d3)
theorem yg4 {A₀:Around} {base g h:Heap} {outer:List Env} {env:Env} {L e:Addr} {m:Map} {cls a0:Value} {od:Option Addr} {rest:Led} (F:Fr g L h m) (hL:env.frame=some L) (N:∀q∈rest,q.1≠L) (R:RaisedX base g (env::outer) e cls a0 od rest h) :
  ∃G,Fr g L G m/\RaisedX base G (env::outer) e cls a0 od rest h:=by
 refine yab λGG hGG=>?_
 obtain ⟨⟨B,b1,b2,b3,b4⟩,up⟩:=R
 obtain ⟨oL,es,ep,hl,r⟩:=F.ns
 have mL:L∈frs (env::outer):=List.mem_filterMap.mpr ⟨env,.head _,hL⟩
 have gG:∀b o,(hideAll h ((List.range h.objs.size).filter λb=>(g.get? b).isNone && b != L)).get? b=some o->b=L∨g.get? b=some o:=λb o q=>by
  have q':=of_hideAll _ q
  by_cases e:b=L
  ·exact .inl e
  refine .inr ?_
  generalize z:(g.get? b)=x9
  rcases x9 with _|o'
  ·have:b∈(List.range h.objs.size).filter λb=>(g.get? b).isNone && b != L:=List.mem_filter.mpr ⟨List.mem_range.mpr (Heap.lt_size q'),by rw [z];exact bne_iff_ne.mpr e⟩
   rw [hideAll_none _ this] at q;cases q
  ·exact (F.keep b o' z).symm.trans q'▸rfl
 have nh:∀b,b=L∨g.get? b≠none->b ∉ (List.range h.objs.size).filter λb=>(g.get? b).isNone && b != L:=λb hb hm=>by
  have:=yag (List.mem_filter.mp hm).2
  rcases hb with hb|hb
  ·exact bne_iff_ne.mp this.2 hb
  ·exact hb (Option.isNone_iff_eq_none.mp this.1)
 refine hGG ?_;clear hGG GG
 refine ⟨_,⟨⟨oL,es,ep,hideAll_get _ hl (nh _ (.inl rfl)),r⟩,λb o q=>hideAll_get _ (F.keep b o q) (nh _ (.inr (by rw [q];nofun))),F.above⟩,⟨⟨B,b1,λb o q n=>?_,λq hq=>⟨(b3 q hq).1,?_,(b3 q hq).2.2⟩,b4⟩,λb o q n=>⟨o.slots,of_hideAll _ q⟩⟩⟩
 ·rcases gG b o q with e|z
  ·exact absurd (e▸mL) n
  ·exact b2 b o z n
 ·generalize z:((hideAll h ((List.range h.objs.size).filter λb=>(g.get? b).isNone && b != L)).get? q.1)=x9
  rcases x9 with _|o
  ·rfl
  ·rcases gG _ _ z with e|z
   ·exact absurd e (N q hq)
   ·rw [(b3 q hq).2.1] at z;cases z
theorem yg5 {KF:Frag} {A:Around} {C e:Addr} {E:Value->Shared->Prop} {s:Shared} {base G:Heap} {l:List Env} {a0:Value} {od:Option Addr} {rest:Led} (X:KF.In s.heap) (hh:A.handled=none∨A.handled=some (.ref e)) (R:RaisedX base G l e (.ref C) a0 od rest s.heap) (h:∀h',RaisedX base G l e (.ref C) a0 od rest h'->E (.ref e) {s with heap:=h'}):ybv KF A C E (.ref e) s:=by
 refine yab λGG hGG=>?_
 obtain ⟨⟨B,b1,b2,b3,b4⟩,up⟩:=R
 refine hGG ?_;clear hGG GG
 exact ⟨e,B,_,_,od,rfl,hh,X,b4,λh' x u=>h h' ⟨⟨B,b1,b2,b3,x⟩,up.trans u⟩⟩
theorem ybB {e D T:Addr} {p:Addr × Obj} (h:p∈less ns e D T):p∈ns/\p.1≠e/\p.1≠D/\p.1≠T:=by
 obtain ⟨h1,h2⟩:=List.mem_filter.mp h
 have h3:=yag h2
 have h4:=yag h3.1
 exact ⟨h1,bne_iff_ne.mp h4.1,bne_iff_ne.mp h4.2,bne_iff_ne.mp h3.2⟩
theorem yaM {i j:Nat} {a b:Addr} (nd:(yae ns).Nodup) (h1:(yae ns)[i]? = some a) (h2:(yae ns)[j]? = some b) (n:i≠j):a≠b:=λe=>n ((List.getElem?_inj (List.getElem?_eq_some_iff.mp h1).1 nd).mp (h1.trans (e▸h2).symm))
theorem yeR (f:c.At p) {i j k:Nat} {h:Heap} {tk:Nat} {e D T:Addr} {oe oD:Obj} {a0:Value} (x:Is c m ns h) (hh:c.A.handled=none∨c.A.handled=some (.ref e)) (h1:ns[i]? = some (e,oe)) (hd:oe.dict=some D) (hT:(yae ns)[k]? = some T) (h2:ns[j]? = some (D,oD))
  (R:RaisedX c.base c.g (c.env::c.outer) e (.ref 41) a0 (some D) ((D,oD)::(less ns e D T++c.tl)) h) (t:ybm c m ns i j k):ybv (KK c.w.params) c.A 41 c.E (.ref e) (c.st h tk):=by
 have t:=t x.nd x.off e D T oe oD h1 hd hT h2
 have nL:∀q∈(D,oD)::(less ns e D T++c.tl),q.1≠c.L:=λq hq=>by
  rcases List.mem_cons.mp hq with rfl|hq
  ·exact (x.N _ (x.mem h2)).2.1
  rcases List.mem_append.mp hq with hq|hq
  ·exact (x.N _ (List.mem_append_left _ (ybB hq).1)).2.1
  ·exact (x.N _ (List.mem_append_right _ hq)).2.1
 obtain ⟨G,FG,R⟩:=yg4 (A₀:=c.A₀) x.F rfl nL R
 exact yg5 (f.f.X.keeps x.F.keep) hh R λh' R'=>t.go h' tk _ G FG R'
set_option tactic.hygienic true in
theorem ykS (f:c.At p) (hc:c.cl = []) {i:Nat} {v:Value} {x:Nat × Nat × Nat} {h:Heap} {tk:Nat} (d:Den c ρ S m ns) (dv:DV ρ (yae ns) (.r i) v) (hx:yo0 p.hd i S=some x) (is:Is c m ns h) (t:ybm c m ns x.1 x.2.1 x.2.2):ybv (KK c.w.params) c.A 41 c.E v (c.st h tk):=by
 refine yab λGG hGG=>?_
 obtain ⟨k,hk,g2⟩:=yac hx
 obtain ⟨h1,rfl⟩:=yah g2
 obtain ⟨o,ho,hk⟩:=yac hk
 cases yms hk
 have h1:=yag h1
 obtain ⟨e,oe,rfl,ea,hdx,rfl⟩:=d.ref rfl ho dv
 refine hGG ?_;clear hGG GG
 rename_i D tt
 have hdx':=hdx
 rw [List.getElem?_map] at hdx'
 refine yab λGG hGG=>?_
 obtain ⟨pD,hD,e2⟩:=Option.map_eq_some_iff.mp hdx'
 subst e2
 refine hGG ?_;clear hGG GG
 refine yeR (a0:=.ref tt) f is (.inl (f.hh h1.1)) ea rfl (yaw ea) hD ?_ t
 have off:=is.off _ (List.mem_of_getElem? ea)
 have ne:pD.1≠e:=yaM is.nd hdx (yaw ea) λq=>beq_eq_false_iff_ne.mp (ya1 h1.2) q.symm
 have hk:=f.f.fn
 refine yab λGG hGG=>?_
 obtain ⟨w,cn,sc,L0,fa,cd,cl,g0,s,E,tl,A₀,base,outer⟩:=c
 cases hc
 refine hGG ?_;clear hGG GG
 refine yfW f.f.B is.F (news:=(e,yau 41 (some pD.1) tt)::pD::(less ns e pD.1 e++tl)) (fC (is.N _ (is.mem ea)) (fC (is.N _ (is.mem hD)) (λq hq=>?_))) (Del.head (fC ne (λq hq=>?_))) hk
 ·rcases List.mem_append.mp hq with hq|hq
  ·exact is.N q (List.mem_append_left _ (ybB hq).1)
  ·exact is.N q (List.mem_append_right _ hq)
 ·rcases List.mem_append.mp hq with hq|hq
  ·exact (ybB hq).2.1
  ·exact off q hq
inductive ymE (c:Cx) (ns:Led) (h:Heap) (i j k:Nat):Prop
 | mk {e D T:Addr} {oe oD:Obj} {a1:Value} (i1:ns[i]? = some (e,oe)) (hd:oe.dict=some D) (hT:(yae ns)[k]? = some T) (i2:ns[j]? = some (D,oD)) (tb:yd3 h e) (R:RaisedX c.base c.g (c.env::c.outer) e (.ref 41) a1 (some D) ((D,oD)::(less ns e D T++c.tl)) h):ymE c ns h i j k
theorem yeS (f:c.Fit) (hc:c.cl = []) {os:List SO} {i j k:Nat} {h:Heap} (obs:DOs c.w ρ (yae ns) os ns) (hi:os[i]? = some (.cgt j k)) (hk:os[k]? = some .tb) (h2:i≠j) (h3:i≠k) (h4:j≠k) (is:Is c m ns h):ymE c ns h i j k:=by
 have iat:∀{i x},os[i]? = some x->∃p:Addr × Obj,ns[i]? = some p/\DO c.w ρ (yae ns) x p.1 p.2:=fun {i x} h=>by
  have hl:=(List.getElem?_eq_some_iff.mp h).1
  rw [obs.len] at hl
  exact ⟨_,List.getElem?_eq_getElem hl,obs.all i x _ h (List.getElem?_eq_getElem hl)⟩
 refine yab λGG hGG=>?_
 obtain ⟨⟨e,oe⟩,ea,@⟨_,_,_,a1,hdx,hTx,hcl,hdi,hdt,h0,hv1⟩⟩:=iat hi
 obtain ⟨pT,hT',hTd,hT3⟩:=iat hk
 have hdx':=hdx
 rw [List.getElem?_map] at hdx'
 obtain ⟨pD,hD,e2⟩:=Option.map_eq_some_iff.mp hdx'
 subst e2
 cases hTx.symm.trans (yaw hT')
 have nTe:pT.1≠e:=yaM is.nd hTx (yaw ea) λq=>h3 q.symm
 have nDe:pD.1≠e:=yaM is.nd hdx (yaw ea) λq=>h2 q.symm
 have nDT:pD.1≠pT.1:=yaM is.nd hdx hTx h4
 have offe:=is.off _ (List.mem_of_getElem? ea)
 have offT:=is.off _ (List.mem_of_getElem? hT')
 refine hGG ?_;clear hGG GG
 refine .mk (a1:=a1) ea hdi hTx hD ⟨oe,_,pT.1,(is.N _ (is.mem ea)).1,hdt,hv1⟩ ?_
 have hk:=f.fn
 refine yab λGG hGG=>?_
 obtain ⟨w,cn,sc,L0,fa,cd,cl,g0,s,E,tl,A₀,base,outer⟩:=c
 cases hc
 refine hGG ?_;clear hGG GG
 have R:=ycQ (name:=cn) (scope:=sc) (a:=fa) (cd:=cd) f.B is.F (news:=(e,oe)::pT::pD::(less ns e pD.1 pT.1++tl)) (fC (is.N _ (is.mem ea)) (fC (is.N _ (is.mem hT')) (fC (is.N _ (is.mem hD)) (λq hq=>?_))))
  (Del.head (fC nTe (fC nDe (λq hq=>?_)))) (Del.head (fC nDT (λq hq=>?_))) hdt h0 hv1 hTd hT3 hk
 ·rw [hcl,hdi] at R;exact R
 ·rcases List.mem_append.mp hq with hq|hq
  ·exact is.N q (List.mem_append_left _ (ybB hq).1)
  ·exact is.N q (List.mem_append_right _ hq)
 ·rcases List.mem_append.mp hq with hq|hq
  ·exact (ybB hq).2.1
  ·exact offe q hq
 ·rcases List.mem_append.mp hq with hq|hq
  ·exact (ybB hq).2.2.2
  ·exact offT q hq
theorem yo7 {x:SO} {y:Unit} (h:x.tb? = some y):x = .tb:=by
 refine yab λGG hGG=>?_
 rcases x with _|_|_|_|_|_|_|_|_|_|_|_|_|_|_
 ·first|exact yaa h|cases h
 ·first|exact yaa h|cases h
 ·first|exact yaa h|cases h
 ·first|exact yaa h|cases h
 ·first|exact yaa h|cases h
 ·first|exact yaa h|cases h
 ·first|exact yaa h|cases h
 ·first|exact yaa h|cases h
 ·first|exact yaa h|cases h
 ·first|exact yaa h|cases h
 ·refine hGG ?_;clear hGG GG
  rfl
 ·first|exact yaa h|cases h
 ·first|exact yaa h|cases h
 ·first|exact yaa h|cases h
 ·first|exact yaa h|cases h
theorem ykT (f:c.At p) (hc:c.cl = []) {i:Nat} {v:Value} {x:Nat × Nat × Nat} {h:Heap} {tk:Nat} (d:Den c ρ S m ns) (dv:DV ρ (yae ns) (.r i) v) (hx:yp0 i S=some x) (is:Is c m ns h) (t:ybm c m ns x.1 x.2.1 x.2.2):ybv (KK c.w.params) c.A 41 c.E v (c.st h tk):=by
 refine yab λGG hGG=>?_
 obtain ⟨⟨j,k⟩,hk,g2⟩:=yac hx
 obtain ⟨h1,rfl⟩:=yah g2
 obtain ⟨o,ho,hk⟩:=yac hk
 cases ygK hk
 obtain ⟨h1,h5⟩:=yag h1
 obtain ⟨h1,h4⟩:=yag h1
 obtain ⟨h1,h3⟩:=yag h1
 obtain ⟨h1,h2⟩:=yag h1
 obtain ⟨_,h5⟩:=Option.isSome_iff_exists.mp h5
 obtain ⟨oT,hT,h5⟩:=yac h5
 cases yo7 h5
 obtain ⟨ea,hdi,hTx,hD,_,R⟩:=yeS f.f hc d.obs ho hT (beq_eq_false_iff_ne.mp (ya1 h2)) (beq_eq_false_iff_ne.mp (ya1 h3)) (beq_eq_false_iff_ne.mp (ya1 h4)) is
 obtain ⟨e',he',rfl⟩:=dv
 cases he'.symm.trans (yaw ea)
 obtain ⟨a',ha',hhd⟩:=d.hx i (beq_iff_eq.mp h1)
 cases ha'.symm.trans (yaw ea)
 refine hGG ?_;clear hGG GG
 exact yeR f is (.inr hhd) ea hdi hTx hD R t
theorem ykU (f:c.At p) (hc:c.cl = []) {a:SV} {v:Value} {x:Nat × Nat × Nat} {h:Heap} {tk:Nat} (d:Den c ρ S m ns) (dv:DV ρ (yae ns) a v) (hx:yp1 p.hd a S=some x) (i:Is c m ns h) (T:ybm c m ns x.1 x.2.1 x.2.2):ybv (KK c.w.params) c.A 41 c.E v (c.st h tk):=by
 obtain ⟨j,hj,g1⟩:=yac hx
 refine yab λGG hGG=>?_
 rcases a with _|_|_|_|_|jj|_|_|_|_|_
 ·first|exact yaa hj|cases hj
 ·first|exact yaa hj|cases hj
 ·first|exact yaa hj|cases hj
 ·first|exact yaa hj|cases hj
 ·first|exact yaa hj|cases hj
 ·cases hj
  refine hGG ?_;clear hGG GG
  generalize q:yo0 p.hd j S=y at g1
  rcases y with _|y
  ·exact ykT f hc d dv g1 i T
  ·cases g1;exact ykS f hc d dv q i T
 ·first|exact yaa hj|cases hj
 ·first|exact yaa hj|cases hj
 ·first|exact yaa hj|cases hj
 ·first|exact yaa hj|cases hj
 ·first|exact yaa hj|cases hj
theorem yo8 (Yo:Y.Ok c.w) (O:ybJ c.w F) (f:c.At p) {st:Stmt} (d:Den c ρ S m ns) (g:Good c ρ ns (xS Y F p st S)):WS c m ns (exec st c.env) (PS c ρ ns (xS Y F p st S)):=by
 have hi:interactive c.env=false:=by unfold interactive;rw [show c.env.scope=c.sc from rfl,f.f.fn];rfl
 unfold xS at g ⊢
 rcases st with _|_|_|⟨e,pos⟩|_|⟨ts,e,pos⟩|_|_|_|_|_|_|⟨t,a,b,pos⟩|_|_|_|⟨e,cc,pos⟩|_|_|_|_|_|_|_|⟨e,pos⟩|pos|_|_
 ·exact g.nob
 ·exact g.nob
 ·exact g.nob
 ·rcases e with _|e
  ·exact ⟨λh tk i=>wpAny_Return_none (yaX i (yfp d (.ret rfl)))⟩
  ·exact ⟨λh tk i=>wpAny_Return_some ((yaY (K:=λv n=>PS c ρ ns (rb (λv S=>one (FL.ret v) S) (F.E p e S)) (.ret v) m n) g (O.E c p e S ρ m ns rfl f d) λa v S1 ρ1 n1 u dv d1 g1 up=>up (yaP d1 (.ret dv))).run i λv h1 t1 n1 i1 k=>yaX i1 k)⟩
 ·exact g.nob
 ·dsimp only at g ⊢
  refine yab λGG hGG=>?_
  obtain ⟨t,h1,e1⟩:=g.opt
  cases ycy h1
  refine hGG ?_;clear hGG GG
  rw [e1] at g ⊢
  rcases t with _|_|_|_|_|_|_|_|_|_|_|_|_|_|_|_|_|_|_|_|⟨o,x,xp⟩|_|_|⟨x,xp⟩|_|⟨es,k,tp⟩|_
  ·exact g.nob
  ·exact g.nob
  ·exact g.nob
  ·exact g.nob
  ·exact g.nob
  ·exact g.nob
  ·exact g.nob
  ·exact g.nob
  ·exact g.nob
  ·exact g.nob
  ·exact g.nob
  ·exact g.nob
  ·exact g.nob
  ·exact g.nob
  ·exact g.nob
  ·exact g.nob
  ·exact g.nob
  ·exact g.nob
  ·exact g.nob
  ·exact g.nob
  ·dsimp only at g ⊢
   obtain ⟨hc,e2⟩:=g.iff
   rw [e2] at g ⊢
   have W:=yee (K:=λv ov n=>WE c m n (setAttr ov x v) λ_ n=>PS c ρ ns (rb (λv S=>rb (λov S=>opt (yn8 Y ov x v S) (one FL.nx)) (F.E p o S)) (F.E p e S)) .next m n) g (O.E c p e S ρ m ns rfl f d) (λρ1 S1 n1 d1 g1=>O.E c p o S1 ρ1 m n1 rfl f d1 g1) (λu d=>d.up u)
    λa b v w ρ2 S2 n2 d1 d2 den g2 up=>by
     obtain ⟨S3,h3,e⟩:=g2.opt
     refine (ygN Yo f den d2 d1 h3).mono λ_ n k=>up ?_
     rw [e]
     exact ⟨.head _,k.1▸.refl,.nx,k.2⟩
   exact ⟨λh tk i=>plainObj_wpAny_Assign_Attribute (W.run i λv h1 t1 n1 i1 k=>k.run i1 λov h2 t2 n2 i2 k=>k.run i2 λ_ h3 t3 n3 i3 k=>yaX i3 k) (yaV (ya1 hc))⟩
  ·exact g.nob
  ·exact g.nob
  ·dsimp only at g ⊢
   obtain ⟨hc,e2⟩:=g.iff
   rw [e2] at g ⊢
   have W:=yaY (K:=λv n=>∃S' ρ' a S1,DV ρ' (yae n) a v/\Den c ρ' S1 m n/\ydf p x a S1=some S'/\∀m' n',yae n'=yae n->Den c ρ' S' m' n'->PS c ρ ns (rb (λv S=>opt (ydf p x v S) (one FL.nx)) (F.E p e S)) .next m' n') g (O.E c p e S ρ m ns rfl f d) λa v S1 ρ1 n1 u dv d1 g1 up=>by
    obtain ⟨S2,h2,e⟩:=g1.opt
    refine ⟨S2,ρ1,a,S1,dv,d1,h2,λm' n' ek d2=>up ?_⟩
    rw [e]
    exact ⟨.head _,ek▸.refl,.nx,d2⟩
   refine ⟨λh tk i=>wpAny_Assign_Name (W.run i λv h1 t1 n1 i1 k=>?_) (yaV (ya1 hc))⟩
   refine yab λGG hGG=>?_
   obtain ⟨S',ρ',a,S1,dv,d1,hb,k⟩:=k
   refine hGG ?_;clear hGG GG
   exact ybU f d1 dv hb i1 λh2 t2 m2 n2 ek i2 d2=>yaX i2 (k m2 n2 ek d2)
  ·exact g.nob
  ·dsimp only at g ⊢
   obtain ⟨w,hw,e3⟩:=g.opt
   rw [e3] at g ⊢
   exact yfq Yo f hw d (O.E c p e S ρ m ns rfl f d) g
  ·exact g.nob
 ·exact g.nob
 ·exact g.nob
 ·exact g.nob
 ·exact g.nob
 ·exact g.nob
 ·exact g.nob
 ·have g:Good c ρ ns (rb (λq S=>cond q (xSs F p a S) (xSs F p b S)) (F.T p t S)):=g
  refine ⟨λh tk i=>wpAny_If ((O.T c p t S ρ m ns rfl f d g.left).run i λq h1 t1 n1 i1 k=>?_)⟩
  refine yab λGG hGG=>?_
  obtain ⟨hm,up,e,d1⟩:=k
  have g1:=g.right hm up
  cases e
  rcases q with _|_
  ·refine hGG ?_;clear hGG GG
   exact (ycf O rfl f b d1 g1).run i1 λv2 h2 t2 m2 n2 i2 k=>yaX i2 (PE.at hm up k)
  ·refine hGG ?_;clear hGG GG
   exact (ycf O rfl f a d1 g1).run i1 λv2 h2 t2 m2 n2 i2 k=>yaX i2 (PE.at hm up k)
 ·exact g.nob
 ·exact g.nob
 ·exact g.nob
 ·dsimp only at g ⊢
  obtain ⟨hc,e1⟩:=g.iff
  rw [e1] at g ⊢
  obtain ⟨e,he,e2⟩:=g.opt
  rw [e2] at g ⊢
  have hc:=yag hc
  cases he
  rcases cc with _|_
  ·have W:=yaY (K:=λv n=>∀h tk,Is c m n h->ybv (KK c.w.params) c.A 41 c.E v (c.st h tk)) g (O.E c p e S ρ m ns rfl f d) λa v S1 ρ1 n1 u dv d1 g1 up=>by
    obtain ⟨x,hx,e⟩:=g1.opt
    rw [e] at g1
    exact λh tk i=>ykU f (f.cl (ya1 hc.2)) d1 dv hx i (g1.ex x.1 x.2.1 x.2.2 S1 (.head _) ρ1 m n1 .refl d1)
   exact ⟨λh tk i=>yd6 (C:=41) f.f.X yj1 (W.run i λv h1 t1 n1 i1 k=>k h1 t1 i1)⟩
  ·first|exact yaa hc.1|cases hc.1
 ·exact g.nob
 ·exact g.nob
 ·exact g.nob
 ·exact g.nob
 ·exact g.nob
 ·exact g.nob
 ·exact g.nob
 ·dsimp only at g ⊢
  obtain ⟨hc,e1⟩:=g.iff
  rw [e1] at g ⊢
  exact ⟨λh tk i=>wpAny_Expr_any ((yaY (K:=λ_ n=>PS c ρ ns (rb (λ_ S=>one FL.nx S) (F.E p e S)) .next m n) g (O.E c p e S ρ m ns rfl f d) λa v S1 ρ1 n1 u dv d1 g1 up=>up (yaP d1 .nx)).run i λv h1 t1 n1 i1 k=>yaX i1 k) hi (yaV (ya1 hc))⟩
 ·exact ⟨λh tk i=>wpAny_Pass (yaX i (yfp d .nx))⟩
 ·exact g.nob
 ·exact g.nob
theorem ybV {w:World} (Yo:Y.Ok w) (n:Nat):ybJ w (run Y n):=by
 induction n with
 | zero=>exact ⟨λc p e S ρ m ns hw f d g=>g.nob,λc p e S ρ m ns hw f d g=>g.nob,λc p e S ρ m ns hw f d g=>g.nob⟩
 | succ n ih=>
  exact ⟨λc p e S ρ m ns hw f d g=>by cases hw;exact yo5 Yo ih f d g,λc p e S ρ m ns hw f d g=>by cases hw;exact ymC ih f d g,λc p e S ρ m ns hw f d g=>by cases hw;exact yo8 Yo ih f d g⟩
end
set_option genSizeOfSpec false
set_option genInjectivity false
inductive Vw where
 | ret (v:SV) (os:List SO) (pc:List C)
 | exc (i j k:Nat) (os:List SO) (pc:List C)
 | bad
noncomputable def view:R FL->Vw
 | .ok (.ret v) S=>.ret v S.os S.pc
 | .ok .nx S=>.ret .no S.os S.pc
 | .exc i j k S=>.exc i j k S.os S.pc
 | _=>.bad
structure At (w:World) (ρ ρ':Rho) (ns ns' tl:Led) (os:List SO) (pc:List C):Prop where
 up:Up ρ ρ' (yae ns) (yae ns')
 obs:DOs w ρ' (yae ns') os ns'
 pcs:∀C∈pc,C.ev ρ'=some true
 nd:(yae ns').Nodup
 off:∀p∈ns',∀q∈tl,q.1≠p.1
noncomputable abbrev fCx (w:World) (D:Def) (b:Addr) (cdv:Value) (A:Around) (base:Heap) (l:List Env) (s:Shared) (E:Value->Shared->Prop) (tl:Led) (g:Heap) (L:Addr):Cx:=
 ⟨w,D.qual,D.sc,L,b,cdv,[],g,s,λe s'=>wpAny (MM w) (A.deeper (envOf D.qual D.sc L b cdv)) (leaving (envOf D.qual D.sc L b cdv) e) (λ_ s''=>E e s'') (λe' s''=>E e' s'') s',tl,A,base,l⟩
noncomputable abbrev Cx.on (c:Cx) (tl:Led):Cx:=⟨c.w,c.cn,c.sc,c.L,c.fa,c.cd,c.cl,c.g,c.s,c.E,tl,c.A₀,c.base,c.outer⟩
structure FlatCx (w:World) (D:Def) (A:Around) (s:Shared) (ks:List Addr) (c:Cx):Prop where
 hw:c.w=w
 hsc:c.sc=D.sc
 hcl:c.cl = []
 hA:c.A₀=A
 hs:c.s=s
 fit:c.Fit
 kp:ycO ks s.heap c.g
 po:PassesOwn (MM c.w) c.A c.env c.E
theorem FlatCx.at {w:World} {D:Def} {A:Around} {s:Shared} {ks:List Addr} {c:Cx} (F:FlatCx w D A s ks c) {p:Pl} (h1:p.sc=D.sc) (h2:A.depth+1+p.k<=600) (h3:A.units+3+3 * p.k<=3000) (h4:A.handled=none) (tl:Led):(c.on tl).At p:=by
 refine yab λGG hGG=>?_
 obtain ⟨_,sc,cl,e,_,f,_,_⟩:=F
 subst e
 refine hGG ?_;clear hGG GG
 exact ⟨⟨f.XB,f.TB,f.fn,f.dbg,f.B⟩,sc.trans h1.symm,h2,h3,λ_=>cl,λ_=>h4⟩
theorem FlatCx.st {w:World} {D:Def} {A:Around} {s:Shared} {ks:List Addr} {c:Cx} (F:FlatCx w D A s ks c) {P:Shared->Prop} {h:Heap} {tk:Nat} (k:P {s with heap:=h,toks:=tk}):P (c.st h tk):=by
 refine yab λGG hGG=>?_
 obtain ⟨_,_,_,_,e,_,_,_⟩:=F
 subst e
 refine hGG ?_;clear hGG GG
 exact k
section
variable {w:World} {mean:ExcName->Option Value} {mg mb:Str->Option Value} {base:Heap} {env:Env} {outer:List Env} {A:Around} {s:Shared} {Q E:Value->Shared->Prop}
variable {ns tl:Led} {b:Addr} {D:Def} {Y:Sys} {vs:List SV} {us:List Value} {ρ:Rho} {os qs:List SO} {pc:List C}
theorem ycA (DK:DefOk w b D) (St0:Std w mean mg mb base (env::outer) s.heap) (hf:A.frames=some (env::outer)) (hroom:A.depth<recursionLimit) (O:ybZ base (env::outer) s.heap (ns++tl)) (hl:us.length=D.ps.length)
  (k:∀g L cdv h tk,(fCx w D b cdv A base (env::outer) s E tl g L).Fit->ycO (yae (ns++tl)) s.heap g->(∀b o,g.get? b=some o->s.heap.get? b=some o)->Fr g L h (λy=>(D.ps.zip us).reverse.lookup y)->News g L h (ns++tl) ->
   wpAny (MM w) (A.deeper (envOf D.qual D.sc L b cdv)) (execs D.body (envOf D.qual D.sc L b cdv)) (λfl s'=>Q (ybF fl) s') (fCx w D b cdv A base (env::outer) s E tl g L).E {s with heap:=h,toks:=tk}):wpAny (MM w) A (call (.ref b) us) Q E s:=by
 refine yab λGG hGG=>?_
 obtain ⟨oc,od,osl,dV,kV,doc,pm,an,cdv,ct,ho,hcd,hb⟩:=DK.there
 have hloc:∀y∈D.ps.zip us,D.sc.names.lookup y.1=some .local:=λy hy=>DK.loc _ (List.of_mem_zip hy).1
 refine hGG ?_;clear hGG GG
 refine wpAny_call (ybe St0.X St0.T St0.S St0.FF O hf ho hcd hroom (hb _ _ hl) hloc (λg L' h₁ F' N' B' X' T' hl' kp' gs'=>?_) (ygF DK.chk) (ygG DK.chk) (ycx DK.chk) (ydi DK.chk))
 exact wpAny_mono (k g L' cdv h₁ _ ⟨St0.X,⟨_,_,_,St0.T⟩,ycx DK.chk,ydh DK.chk,B'⟩ kp' gs' F' N') (λfl s' q=>by cases fl<;>exact q) λ_ _ e=>e
theorem ybC (DK:DefOk w b D) (St0:Std w mean mg mb base (env::outer) s.heap) (hf:A.frames=some (env::outer)) (hroom:A.depth<recursionLimit) (O:ybZ base (env::outer) s.heap tl) (hl:us.length=D.ps.length)
  (k:∀(c:Cx) h tk,FlatCx w D A s (yae tl) c->Fr c.g c.L h (λy=>(D.ps.zip us).reverse.lookup y)->News c.g c.L h tl->wpAny (MM c.w) c.A (execs D.body c.env) (λfl s'=>Q (ybF fl) s') c.E (c.st h tk)):wpAny (MM w) A (call (.ref b) us) Q E s:=
 ycA (ns:=[]) DK St0 hf hroom O hl λg L cdv h tk fit kp _ F N=>k (fCx w D b cdv A base (env::outer) s E tl g L) h tk ⟨rfl,rfl,rfl,rfl,rfl,fit,kp,by passes_own⟩ F N
theorem ybr {c:Cx} {p:Pl} {m:Map} {h:Heap} {tk:Nat} {x:Str} {xp:Pos} {v:Value} {Q:Value->Shared->Prop} (f:c.At p) (F:Fr c.g c.L h m) (hm:m x=some v) (hk:p.sc.names.lookup x=some .local) (k:Q v (c.st h tk)):wpAny (MM c.w) c.A (eval (.Name x xp) c.env) Q c.E (c.st h tk):=
 nameX_L F hm k f.f.fn ((kind_of f x).trans hk) (ycX f ((kind_of f x).trans hk))
theorem yiA {cdv:Value} {g G h:Heap} {L e:Addr} {m:Map} {a0:Value} {od:Option Addr} {rest:Led} {tk:Nat} (f:(fCx w D b cdv A base (env::outer) s E tl g L).Fit) (F0:g.get? L=none) (F:Fr g L G m) (R:RaisedX base G (envOf D.qual D.sc L b cdv::env::outer) e (.ref 41) a0 od rest h)
  (k:∀h',RaisedX base g (env::outer) e (.ref 41) a0 od rest h'->E (.ref e) {s with heap:=h',toks:=tk}):(fCx w D b cdv A base (env::outer) s E tl g L).E (.ref e) {s with heap:=h,toks:=tk}:=ya7 f.B (ycP F R) F0 k
noncomputable def ymF (w:World) (base:Heap) (l:List Env) (s:Shared) (Q E:Value->Shared->Prop) (ρ:Rho) (ns tl:Led) (x:Vw):Prop:=match x with
 | .ret v os pc=>∀ρ' ns' u h' tk',At w ρ ρ' ns ns' tl os pc->DV ρ' (yae ns') v u->ybK (yae (ns++tl)) s.heap h' (ns'++tl)->Q u {s with heap:=h',toks:=tk'}
 | .exc i j k os pc=>ns.length<=j/\∀ρ' ns' e D T oe oD h' tk',At w ρ ρ' ns ns' tl os pc->ns'[i]? = some (e,oe)->(yae ns')[k]? = some T->ns'[j]? = some (D,oD)->(∀f post,yjl oD f->(∀p∈post,p∈ns'++tl/\p.1≠e/\p.1≠D/\p.1≠T)->yif base l (ns++tl) s.heap h' e f post)->E (.ref e) {s with heap:=h',toks:=tk'}
 | .bad=>False
theorem ycj {ns tl:Led} {e D T:Addr} {p:Addr × Obj} (h:p∈ns++tl/\p.1≠e/\p.1≠D/\p.1≠T):p∈less ns e D T++tl:=by
 refine yab λGG hGG=>?_
 obtain ⟨q,q1,q2,q3⟩:=h
 rcases List.mem_append.mp q with q|q
 ·refine hGG ?_;clear hGG GG
  exact List.mem_append_left _ (List.mem_filter.mpr ⟨q,Bool.and_eq_true_iff.mpr ⟨Bool.and_eq_true_iff.mpr ⟨bne_iff_ne.mpr q1,bne_iff_ne.mpr q2⟩,bne_iff_ne.mpr q3⟩⟩)
 ·refine hGG ?_;clear hGG GG
  exact List.mem_append_right _ q
theorem yg6 {ns ns' tl:Led} {as:List Addr} {j:Nat} {D:Addr} {oD:Obj} (up:yae ns <+: yae ns') (nd:(yae ns').Nodup) (off:∀p∈ns',∀q∈tl,q.1≠p.1) (h:ns'[j]? = some (D,oD)) (hj:ns.length<=j):∀p∈ns++tl,p.1≠D:=λp hp ep=>by
 rcases List.mem_append.mp hp with hp|hp
 ·obtain ⟨q,hq⟩:=List.getElem?_of_mem (List.mem_map_of_mem (f:=(·.1)) hp)
  have hq':=yad up _ hq
  rw [ep] at hq'
  have:=(List.getElem?_inj (List.getElem?_eq_some_iff.mp hq').1 nd).mp (hq'.trans (yaw h).symm)
  have hlt:=(List.getElem?_eq_some_iff.mp hq).1
  rw [List.length_map] at hlt
  omega
 ·exact off _ (List.mem_of_getElem? h) p hp ep
theorem ydn (Yo:Y.Ok w) (n:Nat) {k:Nat} (DK:DefOk w b D) (St0:Std w mean mg mb base (env::outer) s.heap) (hf:A.frames=some (env::outer)) (hh:A.handled=none) (hdp:A.depth+1+k<=600) (hun:A.units+3+3 * k<=3000)
  (O:ybZ base (env::outer) s.heap (ns++tl)) (nd:(yae ns).Nodup) (off:∀p∈ns,∀q∈tl,q.1≠p.1) (dv:DVs ρ (yae ns) vs us) (hl:vs.length=D.ps.length)
  (obs:DOs w ρ (yae ns) os ns) (pcs:∀C∈pc,C.ev ρ=some true) (tls:∀(i:Nat) (x:SO),qs[i]? = some x->DTl w tl ρ i x) {V:List Vw}
  (hv:(xSs (run Y n) ⟨D.sc,k,false,true⟩ D.body ⟨(D.ps.zip vs).reverse,[],os,qs,pc,none⟩).map view=V) (ends:∀x∈V,ymF w base (env::outer) s Q E ρ ns tl x):wpAny (MM w) A (call (.ref b) us) Q E s:=by
 have hr:(600:Nat)<recursionLimit:=by decide
 refine ycA DK St0 hf (by omega) O (dv.len.trans hl) λg L cdv h1 tk1 fit kp gs F N=>?_
 have en:∀{r:R FL},r∈xSs (run Y n) ⟨D.sc,k,false,true⟩ D.body ⟨(D.ps.zip vs).reverse,[],os,qs,pc,none⟩->ymF w base (env::outer) s Q E ρ ns tl (view r):=λhr=>ends _ (hv▸List.mem_map_of_mem hr)
 clear ends hv
 have at0:(fCx w D b cdv A base (env::outer) s E tl g L).At ⟨D.sc,k,false,true⟩:=⟨fit,rfl,hdp,hun,λ_=>rfl,λ_=>hh⟩
 have d0:Den (fCx w D b cdv A base (env::outer) s E tl g L) ρ ⟨(D.ps.zip vs).reverse,[],os,qs,pc,none⟩ (λy=>(D.ps.zip us).reverse.lookup y) ns:=⟨λx=>DFs.look (DFs.zip dv).rev,obs,pcs,tls,(λx i h=>nomatch h),λi h=>nomatch h⟩
 have g0:Good (fCx w D b cdv A base (env::outer) s E tl g L) ρ ns (xSs (run Y n) ⟨D.sc,k,false,true⟩ D.body ⟨(D.ps.zip vs).reverse,[],os,qs,pc,none⟩):=by
  refine ⟨λh=>en h,λi j k S' hx ρ' m' ns' up d nd' off' e Dd T oe oD i1 hd hT i2=>⟨λh' tk' a0 G FG R=>?_⟩⟩
  obtain ⟨hj,e9⟩:=en hx
  exact yiA fit (kts_self F) FG R λh2 R2=>e9 ρ' ns' e Dd T oe oD h2 tk' ⟨up,d.obs,d.pcs,nd',off'⟩ i1 hT i2 λf post told sub=>yda kp gs told R2 (fC (.head _) (λp hp=>.tail _ (ycj (sub p hp)))) (yg6 (as:=[]) up.a nd' off' i2 hj)
 refine (ycf (ybV (w:=w) Yo n) rfl at0 D.body d0 g0).run (tk:=tk1) (Q:=λfl s'=>Q (ybF fl) s') ⟨F,N,nd,off⟩ λfl h2 t2 m2 n2 i2 q=>?_
 refine yab λGG hGG=>?_
 obtain ⟨hm,up,dfl,d2⟩:=q
 have e:=en hm
 have P:ybK (yae (ns++tl)) s.heap h2 (n2++tl):=yaN kp i2.F i2.N λ_ h=>h
 have at2:At w ρ _ ns n2 tl _ _:=⟨up,d2.obs,d2.pcs,i2.nd,i2.off⟩
 rcases dfl with _|dv|_|_
 ·refine hGG ?_;clear hGG GG
  exact e _ _ _ h2 t2 at2 rfl P
 ·refine hGG ?_;clear hGG GG
  exact e _ _ _ h2 t2 at2 dv P
 ·exact e.elim
 ·exact e.elim
end
noncomputable abbrev mkD (x:Fn) {n:Str} {a:Arguments} {b:List Stmt} {sc:Scope} (_:x=⟨n,a,b,sc⟩) (q:String):Def:=⟨n,Str.ofString q,a,b,sc,a.args.map (·.arg)⟩
noncomputable def yp3:Def:=mkD (yaE [58]) rfl "do_end"
noncomputable def ya0:Def:=mkD (yaE [132]) rfl "_law_done"
noncomputable def yp4:Def:=mkD (yaE [51]) rfl "place_of"
noncomputable def yp5:Def:=mkD (yaE [35]) rfl "set_handler"
noncomputable def yp6:Def:=mkD (yaE [37]) rfl "check_resume"
noncomputable def yp7:Def:=mkD (yaE [38]) rfl "resume"
noncomputable def yp8:Def:=mkD (yaE [55]) rfl "row_behind"
noncomputable def yp9:Def:=mkD (yaE [40]) rfl "error_number"
noncomputable def yqa:Def:=mkD (yaE [41]) rfl "check_end"
noncomputable def yqb:Def:=mkD (yaE [60]) rfl "error_row"
noncomputable def yqc:Def:=mkD (yaE [36]) rfl "error_caught"
noncomputable def yqd:Def:=mkD (yaE [53]) rfl "line_of"
noncomputable def yqe:Def:=mkD (yaE [39]) rfl "raise_told"
noncomputable def ybn:Def:=mkD (yaE [133]) rfl "_law_led"
noncomputable def yaH:Def:=mkD (yaE [134]) rfl "_law_gone"
noncomputable def yqf:Def:=mkD (yaE [44]) rfl "put_row_of"
noncomputable def yoh:Def:=mkD (yaE [46]) rfl "put_all"
noncomputable def yjx:Def:=mkD (yaE [47]) rfl "gather"
noncomputable def yoi:Def:=mkD (yaE [130]) rfl "_law_statement"
noncomputable def yiB:Def:=mkD (yaE [131]) rfl "_law_program"
noncomputable def yfr:Def:=mkD (yaE [50]) rfl "flatten"
noncomputable def ysg:Def:=mkD (yaE [34,0]) rfl "Control.__init__"
noncomputable def ysh:Def:=mkD (yaE [43,0]) rfl "Flat.__init__"
noncomputable def ysi:Def:=mkD (yaE [105,0]) rfl "World.__init__"
noncomputable def ysj:Def:=mkD (yaE [127,0]) rfl "WorkRun.__init__"
noncomputable def yqg:Ini:=⟨205,ysg,[]⟩
noncomputable def yqh:Ini:=⟨275,ysh,[]⟩
noncomputable def yqi:Ini:=⟨670,ysi,[.z (.n 16),.z (.n 9),.z (.n 2000),.z (.n 20),.z (.n 2000)]⟩
noncomputable def yqj:Ini:=⟨778,ysj,[]⟩
structure yfs (w:World) (p:Str × SV):Prop where
 g:yjp w p.1 p.2
 k:∀b,p.2 = .f b->keepIn (KK w.params) (.ref b)=true
theorem yaK {w:World} {x:String} {b:Addr} (h:nsIn (KK w.params) mainGlobals (Str.ofString x)=some (some (.ref b))) (k:keepIn (KK w.params) (.ref b)=true):yfs w (Str.ofString x,.f b):=⟨⟨_,λ_ _=>rfl,.inl h⟩,λb' e=>by cases e;exact k⟩
theorem ykV {w:World} {x:String} {b:String} (h:nsIn (KK w.params) mainGlobals (Str.ofString x)=some none) (k:bootBuiltins (Str.ofString x)=some (.builtin b)) (hn:Str.ofString x≠"__name__"):yfs w (Str.ofString x,.bi b):=⟨⟨_,λ_ _=>rfl,.inr ⟨h,k,hn⟩⟩,nofun⟩
theorem yaB {α β:Type} [BEq α] [LawfulBEq α] {x:α} {v:β} {l:List (α × β)} (h:l.lookup x=some v):(x,v)∈l:=by
 induction l with
 | nil=>cases h
 | cons y l ih=>
  unfold List.lookup at h
  split at h
  ·rename_i q;cases h;rw [beq_iff_eq.mp q];exact .head _
  ·exact .tail _ (ih h)
theorem yoj {α:Type} {l:List α} (h:l.length=1):∃a,l = [a]:=by
 refine yab λGG hGG=>?_
 rcases l with _|⟨a,_|⟨b,r⟩⟩
 ·cases h
 ·refine hGG ?_;clear hGG GG
  exact ⟨a,rfl⟩
 ·cases h
theorem yo9 {α:Type} {l:List α} (h:l.length=2):∃a b,l = [a,b]:=by
 refine yab λGG hGG=>?_
 rcases l with _|⟨a,r⟩
 ·cases h
 ·obtain ⟨b,rfl⟩:=yoj (Nat.succ.inj h);refine hGG ?_;clear hGG GG;exact ⟨a,b,rfl⟩
theorem ypa {α:Type} {l:List α} (h:l.length=3):∃a b c,l = [a,b,c]:=by
 refine yab λGG hGG=>?_
 rcases l with _|⟨a,r⟩
 ·cases h
 ·obtain ⟨b,c,rfl⟩:=yo9 (Nat.succ.inj h);refine hGG ?_;clear hGG GG;exact ⟨a,b,c,rfl⟩
theorem ypb {α:Type} {l:List α} (h:l.length=4):∃a b c d,l = [a,b,c,d]:=by
 refine yab λGG hGG=>?_
 rcases l with _|⟨a,r⟩
 ·cases h
 ·obtain ⟨b,c,d,rfl⟩:=ypa (Nat.succ.inj h);refine hGG ?_;clear hGG GG;exact ⟨a,b,c,d,rfl⟩
theorem yqk {α:Type} {l:List α} (h:l.length=5):∃a b c d e,l = [a,b,c,d,e]:=by
 refine yab λGG hGG=>?_
 rcases l with _|⟨a,r⟩
 ·cases h
 ·obtain ⟨b,c,d,e,rfl⟩:=ypb (Nat.succ.inj h);refine hGG ?_;clear hGG GG;exact ⟨a,b,c,d,e,rfl⟩
theorem yaz {w:World} {b:Addr} {D:Def} {oc dV kV doc pm cdv ct:Value} {od an:Option Addr} {osl:Array (Option Value)} (h:(KK w.params).lookup b=some ⟨oc,od,.func (fnOf D.name D.qual D.params D.body D.sc dV kV doc pm an cdv ct),osl⟩) (hc:codeIn (KK w.params) cdv D.qual=true)
  (hb:∀s vs,vs.length=D.ps.length->BindsTo s (fnOf D.name D.qual D.params D.body D.sc dV kV doc pm an cdv ct) ⟨vs,[]⟩ (D.ps.zip vs)) (k:ycd D=true):DefOk w b D:=⟨⟨_,_,_,_,_,_,_,_,_,_,h,hc,hb⟩,k⟩
theorem vs1 {P:List Value->Prop} (h:∀a,P [a]) (vs:List Value) (e:vs.length=1):P vs:=by obtain ⟨a,rfl⟩:=yoj e;exact h _
theorem vs2 {P:List Value->Prop} (h:∀a b,P [a,b]) (vs:List Value) (e:vs.length=2):P vs:=by obtain ⟨a,b,rfl⟩:=yo9 e;exact h _ _
theorem vs3 {P:List Value->Prop} (h:∀a b c,P [a,b,c]) (vs:List Value) (e:vs.length=3):P vs:=by obtain ⟨a,b,c,rfl⟩:=ypa e;exact h _ _ _
theorem vs5 {P:List Value->Prop} (h:∀a b c d e,P [a,b,c,d,e]) (vs:List Value) (q:vs.length=5):P vs:=by obtain ⟨a,b,c,d,e,rfl⟩:=yqk q;exact h _ _ _ _ _
theorem ymG (w:World):DefOk w 388 yp3:=yaz (by k_is) (by show codeIn _ _ (Str.ofString "do_end")=true;k_is) (λs=>vs3 λ_ _ _=>BindsTo.of_eq rfl) (by kernel_rfl)
theorem yjy (w:World):DefOk w 909 ya0:=yaz (by k_is) (by show codeIn _ _ (Str.ofString "_law_done")=true;k_is) (λs=>vs2 λ_ _=>BindsTo.of_eq rfl) (by kernel_rfl)
theorem ymH (w:World):DefOk w 338 yp4:=yaz (by k_is) (by show codeIn _ _ (Str.ofString "place_of")=true;k_is) (λs=>vs2 λ_ _=>BindsTo.of_eq rfl) (by kernel_rfl)
theorem ymI (w:World):DefOk w 219 yp5:=yaz (by k_is) (by show codeIn _ _ (Str.ofString "set_handler")=true;k_is) (λs=>vs2 λ_ _=>BindsTo.of_eq rfl) (by kernel_rfl)
theorem ymJ (w:World):DefOk w 233 yp6:=yaz (by k_is) (by show codeIn _ _ (Str.ofString "check_resume")=true;k_is) (λs=>vs2 λ_ _=>BindsTo.of_eq rfl) (by kernel_rfl)
theorem ymK (w:World):DefOk w 240 yp7:=yaz (by k_is) (by show codeIn _ _ (Str.ofString "resume")=true;k_is) (λs=>vs3 λ_ _ _=>BindsTo.of_eq rfl) (by kernel_rfl)
theorem ymL (w:World):DefOk w 359 yp8:=yaz (by k_is) (by show codeIn _ _ (Str.ofString "row_behind")=true;k_is) (λs=>vs2 λ_ _=>BindsTo.of_eq rfl) (by kernel_rfl)
theorem ymM (w:World):DefOk w 254 yp9:=yaz (by k_is) (by show codeIn _ _ (Str.ofString "error_number")=true;k_is) (λs=>vs1 λ_=>BindsTo.of_eq rfl) (by kernel_rfl)
theorem ymN (w:World):DefOk w 261 yqa:=yaz (by k_is) (by show codeIn _ _ (Str.ofString "check_end")=true;k_is) (λs=>vs1 λ_=>BindsTo.of_eq rfl) (by kernel_rfl)
theorem ymO (w:World):DefOk w 395 yqb:=yaz (by k_is) (by show codeIn _ _ (Str.ofString "error_row")=true;k_is) (λs=>vs3 λ_ _ _=>BindsTo.of_eq rfl) (by kernel_rfl)
theorem ymP (w:World):DefOk w 226 yqc:=yaz (by k_is) (by show codeIn _ _ (Str.ofString "error_caught")=true;k_is) (λs=>vs5 λ_ _ _ _ _=>BindsTo.of_eq rfl) (by kernel_rfl)
theorem ymQ (w:World):DefOk w 345 yqd:=yaz (by k_is) (by show codeIn _ _ (Str.ofString "line_of")=true;k_is) (λs=>vs2 λ_ _=>BindsTo.of_eq rfl) (by kernel_rfl)
theorem ymR (w:World):DefOk w 247 yqe:=yaz (by k_is) (by show codeIn _ _ (Str.ofString "raise_told")=true;k_is) (λs=>vs1 λ_=>BindsTo.of_eq rfl) (by kernel_rfl)
theorem ymS (w:World):DefOk w 289 yqf:=yaz (by k_is) (by show codeIn _ _ (Str.ofString "put_row_of")=true;k_is) (λs=>vs3 λ_ _ _=>BindsTo.of_eq rfl) (by kernel_rfl)
theorem ymT (w:World):DefOk w 303 yoh:=yaz (by k_is) (by show codeIn _ _ (Str.ofString "put_all")=true;k_is) (λs=>vs3 λ_ _ _=>BindsTo.of_eq rfl) (by kernel_rfl)
theorem ymU (w:World):DefOk w 310 yjx:=yaz (by k_is) (by show codeIn _ _ (Str.ofString "gather")=true;k_is) (λs=>vs1 λ_=>BindsTo.of_eq rfl) (by kernel_rfl)
theorem ymV (w:World):DefOk w 331 yfr:=yaz (by k_is) (by show codeIn _ _ (Str.ofString "flatten")=true;k_is) (λs=>vs1 λ_=>BindsTo.of_eq rfl) (by kernel_rfl)
theorem ymW (w:World):DefOk w 895 yoi:=yaz (by k_is) (by show codeIn _ _ (Str.ofString "_law_statement")=true;k_is) (λs=>vs2 λ_ _=>BindsTo.of_eq rfl) (by kernel_rfl)
theorem ymX (w:World):DefOk w 902 yiB:=yaz (by k_is) (by show codeIn _ _ (Str.ofString "_law_program")=true;k_is) (λs=>vs1 λ_=>BindsTo.of_eq rfl) (by kernel_rfl)
theorem yg7 (w:World):DefOk w 923 yaH:=yaz (by k_is) (by show codeIn _ _ (Str.ofString "_law_gone")=true;k_is) (λs=>vs1 λ_=>BindsTo.of_eq rfl) (by kernel_rfl)
theorem ymY (w:World):DefOk w 916 ybn:=yaz (by k_is) (by show codeIn _ _ (Str.ofString "_law_led")=true;k_is) (λs=>vs2 λ_ _=>BindsTo.of_eq rfl) (by kernel_rfl)
theorem ymZ (w:World):IniOk w 208 yqg:=⟨by k_is,by show findIn _ (.ref 208) "__init__" = some (some (.ref 205));k_is,by show PySem.W.isFn _ (.ref 205)=true;k_is,⟨[],_,_,_,_,_,_,_,_,_,_,λ_ _=>.nil,by show (KK w.params).lookup 205=_;k_is,by show codeIn _ _ (Str.ofString "Control.__init__")=true;k_is,λs vs _ h=>by obtain ⟨a,b,rfl⟩:=yo9 h;exact BindsTo.of_eq rfl⟩,by kernel_rfl⟩
theorem ym0 (w:World):IniOk w 278 yqh:=⟨by k_is,by show findIn _ (.ref 278) "__init__" = some (some (.ref 275));k_is,by show PySem.W.isFn _ (.ref 275)=true;k_is,⟨[],_,_,_,_,_,_,_,_,_,_,λ_ _=>.nil,by show (KK w.params).lookup 275=_;k_is,by show codeIn _ _ (Str.ofString "Flat.__init__")=true;k_is,λs vs _ h=>by obtain ⟨a,rfl⟩:=yoj h;exact BindsTo.of_eq rfl⟩,by kernel_rfl⟩
theorem ym1 (w:World):IniOk w 673 yqi:=⟨by k_is,by show findIn _ (.ref 673) "__init__" = some (some (.ref 670));k_is,by show PySem.W.isFn _ (.ref 670)=true;k_is,⟨[.int 16 _,.int 9 _,.int 2000 _,.int 20 _,.int 2000 _],_,_,_,_,_,_,_,_,_,_,λ_ _=>.cons ⟨_,_,rfl,rfl⟩ (.cons ⟨_,_,rfl,rfl⟩ (.cons ⟨_,_,rfl,rfl⟩ (.cons ⟨_,_,rfl,rfl⟩ (.cons ⟨_,_,rfl,rfl⟩ (.nil))))),by show (KK w.params).lookup 670=_;k_is,by show codeIn _ _ (Str.ofString "World.__init__")=true;k_is,λs vs X h=>by obtain ⟨a,rfl⟩:=yoj (Nat.add_right_cancel (m:=5) (k:=1) h);exact binds_K X rfl (by k_is) rfl rfl rfl⟩,by kernel_rfl⟩
theorem ym2 (w:World):IniOk w 877 yqj:=⟨by k_is,by show findIn _ (.ref 877) "__init__" = some (some (.ref 778));k_is,by show PySem.W.isFn _ (.ref 778)=true;k_is,⟨[],_,_,_,_,_,_,_,_,_,_,λ_ _=>.nil,by show (KK w.params).lookup 778=_;k_is,by show codeIn _ _ (Str.ofString "WorkRun.__init__")=true;k_is,λs vs _ h=>by obtain ⟨a,b,c,d,rfl⟩:=ypb h;exact BindsTo.of_eq rfl⟩,by kernel_rfl⟩
theorem yar {α β:Type} {P:α->β->Prop} {gl:List β} (h:A2 P [] gl):gl = []:=by cases h;rfl
theorem yai {α β:Type} {P:α->β->Prop} {x:α} {xs:List α} {zs:List β} (h:A2 P (x::xs) zs):∃y ys,zs=y::ys/\P x y/\A2 P xs ys:=by
 rcases h with _|⟨p,h⟩
 exact ⟨_,_,rfl,p,h⟩
theorem ybt {ρ:Rho} {as:List Addr} {z:Z} {k:Int} {v:Value} (d:DV ρ as (.z z) v) (e:z.ev ρ.z=some k):∃t,v = .int k t:=by
 refine yab λGG hGG=>?_
 obtain ⟨k',t,e',rfl⟩:=d
 refine hGG ?_;clear hGG GG
 rw [Option.some.inj (e'.symm.trans e)];exact ⟨t,rfl⟩
theorem ydo {c:Cx} {p:Pl} {m:Map} {ns:Led} {h:Heap} (f:c.At p) (hc:p.cells=false) (i:Is c m ns h):∃mean mg mb,Std c.w mean mg mb c.base (c.env::c.outer) h:=by
 refine yab λGG hGG=>?_
 obtain ⟨mean,mg,mb,T⟩:=f.f.TB
 have cl:=f.cl hc
 have fn:=f.f.fn
 have XB:=f.f.XB
 have B:=f.f.B
 obtain ⟨w,cn,sc,L0,fa,cd,cl,g0,s,E,tl,A₀,base,outer⟩:=c
 cases cl
 refine hGG ?_;clear hGG GG
 exact ⟨mean,mg,mb,ybL B i.F XB T fn⟩
theorem yc1 {c:Cx} {p:Pl} {m:Map} {ns ex:Led} {h:Heap} (f:c.At p) (hc:p.cells=false) (i:Is c m ns h) (sub:∀p∈ex,p∈ns++c.tl):ybZ c.base (c.env::c.outer) h ex:=by
 have cl:=f.cl hc
 have B:=f.f.B
 refine yab λGG hGG=>?_
 obtain ⟨w,cn,sc,L0,fa,cd,cl,g0,s,E,tl,A₀,base,outer⟩:=c
 cases cl
 refine hGG ?_;clear hGG GG
 exact ybH B i.N sub
theorem Is.more {c:Cx} {m:Map} {ns post:Led} {h:Heap} (x:Is c m ns h) (N:News c.g c.L h post) (nd:(yae post).Nodup) (fresh:∀q∈post,∀p∈ns++c.tl,p.1≠q.1):Is c m (ns++post) h:=by
 refine ⟨x.F,λq hq=>?_,?_,λp hp q hq=>?_⟩
 ·rcases List.mem_append.mp hq with hq|hq
  ·exact (List.mem_append.mp hq).elim (λz=>x.N q (List.mem_append_left _ z)) (N q)
  ·exact x.N q (List.mem_append_right _ hq)
 ·rw [yae,List.map_append]
  refine List.nodup_append.mpr ⟨x.nd,nd,λu hu v hv e=>?_⟩
  refine yab λGG hGG=>?_
  obtain ⟨p,hp,rfl⟩:=List.mem_map.mp hu
  obtain ⟨q,hq,rfl⟩:=List.mem_map.mp hv
  refine hGG ?_;clear hGG GG
  exact fresh q hq p (List.mem_append_left _ hp) e
 ·exact (List.mem_append.mp hp).elim (λz=>x.off p z q hq) λz=>fresh p z q (List.mem_append_right _ hq)
theorem Is.after {c:Cx} {m:Map} {ns same post:Led} {h h':Heap} {i:Nat} {a:Addr} {o o':Obj} (x:Is c m ns h) (ea:ns[i]? = some (a,o)) (hs:∀p∈same,p∈ns++c.tl) (P:ybK (a::yae same) h h' ((a,o')::(post++same))) (np:∀p∈post,p.1 ∉ a::yae same) (nd:(yae post).Nodup):Is c m (ns.set i (a,o')++post) h':=by
 refine yab λGG hGG=>?_
 obtain ⟨own,rest,es,hg,a1,a2⟩:=(x.upd ea).split
 have Dl:(∀p∈(a,o)::same,p∈ns++c.tl)/\∀p∈(ns++c.tl).filter (λp=>!(a::yae same).contains p.1),p∈ns++c.tl/\p.1 ∉ ((a,o)::same).map (·.1):=
  ⟨fC (x.mem ea) hs,λq hq=>⟨(List.mem_filter.mp hq).1,λz=>by
   have z:(a::yae same).contains q.1=true:=List.contains_iff_mem.mpr z
   have:=ya1 (List.mem_filter.mp hq).2
   rw [z] at this;cases this⟩⟩
 obtain ⟨F',N'⟩:=yd2 x.F x.N Dl P
 have old:∀q∈ns++c.tl,q.1≠a->News c.g c.L h' [q]:=λq hq na=>fC (N' q (by
  by_cases z:q.1∈yae same
  ·obtain ⟨r,hr,e⟩:=List.mem_map.mp z
   have h1:=(x.N q hq).1
   rw [<-e,(x.N r (hs r hr)).1] at h1
   exact List.mem_append_left _ (.tail _ (List.mem_append_right _ ((Prod.ext e (Option.some.inj h1):r=q)▸hr)))
  ·refine List.mem_append_right _ (List.mem_filter.mpr ⟨hq,?_⟩)
   generalize e:((a::yae same).contains q.1)=x9
   rcases x9 with _|_
   ·rfl
   ·exact ((List.mem_cons.mp (List.contains_iff_mem.mp e)).elim na z).elim)) fN
 have N1:News c.g c.L h' (ns.set i (a,o')++c.tl):=λq hq=>by
  rw [hg] at hq
  rcases List.mem_append.mp hq with hq|hq
  ·exact old q (es▸List.mem_append_left _ hq) (a1 q hq) q (.head _)
  rcases List.mem_cons.mp hq with rfl|hq
  ·exact N' _ (List.mem_append_left _ (.head _))
  ·exact old q (es▸List.mem_append_right _ (.tail _ hq)) (a2 q hq) q (.head _)
 refine hGG ?_;clear hGG GG
 refine (x.set ea F' N1).more (λq hq=>N' q (List.mem_append_left _ (.tail _ (List.mem_append_left _ hq)))) nd λq hq p hp e=>?_
 have new:=P.new q (.tail _ (List.mem_append_left _ hq)) (np q hq)
 have hold:∀p∈ns++c.tl,p.1≠q.1:=λp hp e=>by rw [<-e,(x.N p hp).1] at new;cases new
 rw [hg] at hp
 rcases List.mem_append.mp hp with hp|hp
 ·exact hold p (es▸List.mem_append_left _ hp) e
 rcases List.mem_cons.mp hp with rfl|hp
 ·exact np q hq (e▸.head _)
 ·exact hold p (es▸List.mem_append_right _ (.tail _ hp)) e
noncomputable def ykW (P:Params) (C:Addr) (x:Str):Bool:=plainGet (KK P) C x && hasDictIn (KK P) C && (findIn (KK P) (.ref C) x).any λv=>noGet (KK P) v
noncomputable def ykX (P:Params) (C:Addr) (x:Str):Bool:=(findIn (KK P) (.ref C) "__setattr__" == some (some (.builtin "object.__setattr__"))) && plainOver (KK P) C && (takerIn (KK P) C x==some none) && hasDictIn (KK P) C
theorem yg8 {P:Params} {l:List (Addr × Str)} (h:(l.all λg=>ykW P g.1 g.2)=true):∀g∈l,ygt P g.1 g.2:=λg hg=>by
 have h1:=yag (List.all_eq_true.mp h g hg)
 have h2:=yag h1.1
 refine ⟨h2.1,h2.2,?_⟩
 generalize findIn (KK P) (.ref g.1) g.2=v at h1
 rcases v with _|v
 ·cases h1.2
 ·exact ⟨v,rfl,h1.2⟩
theorem ykY {P:Params} {l:List (Addr × Str)} (h:(l.all λg=>ykX P g.1 g.2)=true):∀g∈l,ygu P g.1 g.2:=λg hg=>by
 have h1:=yag (List.all_eq_true.mp h g hg)
 have h2:=yag h1.1
 have h3:=yag h2.1
 exact ⟨beq_iff_eq.mp h3.1,h3.2,beq_iff_eq.mp h2.2,h1.2⟩
theorem ykZ {w:World} {x:String} {b:String} (h:nsIn (KK w.params) mainGlobals (Str.ofString x)=some none) (k:bootBuiltins (Str.ofString x)=some (.type b)) (hn:Str.ofString x≠"__name__"):yfs w (Str.ofString x,.ty b):=⟨⟨_,λ_ _=>rfl,.inr ⟨h,k,hn⟩⟩,nofun⟩
theorem ym3 {w:World} {x:String} {k:Int} {t:Tok} (h:nsIn (KK w.params) mainGlobals (Str.ofString x)=some (some (.int k t))):yfs w (Str.ofString x,.z (.n k)):=⟨⟨_,λ_ _=>⟨_,_,rfl,rfl⟩,.inl h⟩,nofun⟩
noncomputable def ylM (v:SV):Option Int:=v.z?.bind Z.lit
theorem yg9 {ρ:Rho} {pc:List C} {a b:Z} {x y:Int} (hp:∀d∈pc,d.ev ρ=some true) (h:((C.le a b).known pc==some true)=true) (ha:a.ev ρ.z=some x) (hb:b.ev ρ.z=some y):x<=y:=by
 have e:=C.known_ev hp (beq_iff_eq.mp h)
 have e2:two (λx y=>decide (x<=y)) (a.ev ρ.z) (b.ev ρ.z)=some true:=e
 rw [ha,hb] at e2
 exact of_decide_eq_true (Option.some.inj e2)
theorem yha {ρ:Rho} {as:List Addr} {v:SV} {k:Int} {u:Value} (h:ylM v=some k) (d:DV ρ as v u):∃t,u = .int k t:=by
 refine yab λGG hGG=>?_
 obtain ⟨z,hz,h2⟩:=yac h
 obtain ⟨k',t,hk,rfl⟩:=yhW hz d
 cases (ya5 _ h2).symm.trans hk
 refine hGG ?_;clear hGG GG
 exact ⟨t,rfl⟩
set_option genSizeOfSpec false
set_option genInjectivity false
inductive Vt where
 | nx (m:List (Str × SV)) (os:List SO) (pc:List C)
 | out (m:List (Str × SV)) (os:List SO) (pc:List C)
 | ret (v:SV) (os:List SO) (pc:List C)
 | exc (i j k:Nat) (m:List (Str × SV)) (os:List SO) (pc:List C)
 | bad
noncomputable def yaD:R FL->Vt
 | .ok .nx S=>.nx S.m S.os S.pc
 | .ok .brk S=>.out S.m S.os S.pc
 | .ok (.ret v) S=>.ret v S.os S.pc
 | .exc i j k S=>.exc i j k S.m S.os S.pc
 | _=>.bad
structure Here (c:Cx) (ρ ρ':Rho) (ns ns':Led) (m':Map) (mm:List (Str × SV)) (os:List SO) (pc:List C) (h:Heap):Prop where
 i:Is c m' ns' h
 up:Up ρ ρ' (yae ns) (yae ns')
 obs:DOs c.w ρ' (yae ns') os ns'
 pcs:∀C∈pc,C.ev ρ'=some true
 loc:∀x,DQ ρ' (yae ns') (mm.lookup x) (m' x)
structure yql (c:Cx) (ρ ρ':Rho) (ns ns':Led) (m':Map) (mm:List (Str × SV)) (os:List SO) (pc:List C) (i j k:Nat) (e D T:Addr) (oe oD:Obj) (a0:Value) (G h:Heap):Prop where
 up:Up ρ ρ' (yae ns) (yae ns')
 obs:DOs c.w ρ' (yae ns') os ns'
 pcs:∀C∈pc,C.ev ρ'=some true
 loc:∀x,DQ ρ' (yae ns') (mm.lookup x) (m' x)
 nd:(yae ns').Nodup
 off:∀p∈ns',∀q∈c.tl,q.1≠p.1
 i1:ns'[i]? = some (e,oe)
 hd:oe.dict=some D
 hT:(yae ns')[k]? = some T
 i2:ns'[j]? = some (D,oD)
 F:Fr c.g c.L G m'
 R:RaisedX c.base G (c.env::c.outer) e (.ref 41) a0 (some D) ((D,oD)::(less ns' e D T++c.tl)) h
noncomputable def ybs (c:Cx) (ρ:Rho) (ns:Led) (P:Flow->Shared->Prop) (N:Shared->Prop) (x:Vt):Prop:=match x with
 | .nx mm os pc=>∀ρ' ns' m' h tk,Here c ρ ρ' ns ns' m' mm os pc h->P .next (c.st h tk)
 | .out mm os pc=>∀ρ' ns' m' h tk,Here c ρ ρ' ns ns' m' mm os pc h->N (c.st h tk)
 | .ret v os pc=>∀ρ' ns' m' u h tk,Here c ρ ρ' ns ns' m' [] os pc h->DV ρ' (yae ns') v u->P (.ret u) (c.st h tk)
 | .exc i j k mm os pc=>∀ρ' ns' m' e D T oe oD a0 G h tk,yql c ρ ρ' ns ns' m' mm os pc i j k e D T oe oD a0 G h->c.E (.ref e) (c.st h tk)
 | .bad=>False
section
variable {c:Cx} {p:Pl} {m:Map} {ρ:Rho} {ns:Led} {S:SS} {Y:Sys} {P:Flow->Shared->Prop} {N:Shared->Prop} {h:Heap} {tk:Nat}
theorem yek {ρ0:Rho} {ns0:Led} {l:List (R FL)} (u:Up ρ0 ρ (yae ns0) (yae ns)) (en:∀r∈l,ybs c ρ0 ns0 P N (yaD r)):Good c ρ ns l:=
 ⟨λhb=>en _ hb,λi j k S' hx ρ' m' ns' up d nd off e D T oe oD h1 hd hT h2=>⟨λh tk a0 G F R=>en _ hx ρ' ns' m' e D T oe oD a0 G h tk ⟨u.trans up,d.obs,d.pcs,d.loc,nd,off,h1,hd,hT,h2,F,R⟩⟩⟩
theorem yel {V:List Vt} {l:List (R FL)} (hv:l.map yaD=V) (ends:∀x∈V,ybs c ρ ns P N x):Good c ρ ns l/\∀r∈l,ybs c ρ ns P N (yaD r):=by
 have en:∀r∈l,ybs c ρ ns P N (yaD r):=λr hr=>ends _ (hv▸List.mem_map_of_mem hr)
 exact ⟨yek .refl en,en⟩
theorem ydp {l:List (R FL)} {ρ0:Rho} {ns0:Led} (u:Up ρ0 ρ (yae ns0) (yae ns)) (en:∀r∈l,ybs c ρ0 ns0 P N (yaD r)) (hnb:∀S,R.ok FL.brk S ∉ l) {fl:Flow} {m':Map} {n2:Led} {h2:Heap} {t2:Nat} (i2:Is c m' n2 h2) (q:PS c ρ ns l fl m' n2):P fl (c.st h2 t2):=by
 refine yab λGG hGG=>?_
 obtain ⟨hm,up,dfl,d2⟩:=q
 have e:=en _ hm
 rcases dfl with _|dv|_|_
 ·refine hGG ?_;clear hGG GG
  exact e _ _ _ _ _ ⟨i2,u.trans up,d2.obs,d2.pcs,d2.loc⟩
 ·refine hGG ?_;clear hGG GG
  exact e _ _ _ _ _ _ ⟨i2,u.trans up,d2.obs,d2.pcs,λx=>.none⟩ dv
 ·exact absurd hm (hnb _)
 ·exact e.elim
noncomputable def yaI:List (R FL)->Bool
 | []=>true
 | .ok .brk _::_=>false
 | _::r=>yaI r
theorem ydq {l:List (R FL)} (h:yaI l=true) (S:SS):R.ok FL.brk S ∉ l:=by
 induction l with
 | nil=>exact List.not_mem_nil
 | cons x l ih=>
  intro hm
  rcases List.mem_cons.mp hm with rfl|hm
  ·cases h
  ·refine ih ?_ hm
   rcases x with ⟨a,T⟩|⟨i,j,k,T⟩|_
   ·rcases a with _|v|_|_<;>first|exact h|cases h
   ·exact h
   ·exact h
theorem ybf (Yo:Y.Ok c.w) (n:Nat) (f:c.At p) (ss:List Stmt) {V:List Vt} (d:Den c ρ S m ns) (i:Is c m ns h) (hv:(xSs (run Y n) p ss S).map yaD=V) (hb:yaI (xSs (run Y n) p ss S)=true) (ends:∀x∈V,ybs c ρ ns P N x):wpAny (MM c.w) c.A (execs ss c.env) P c.E (c.st h tk):=by
 obtain ⟨g,en⟩:=yel hv ends
 exact (ycf (ybV Yo n) rfl f ss d g).run i λfl h2 t2 m2 n2 i2 q=>ydp .refl en (ydq hb) i2 q
theorem yiC (Yo:Y.Ok c.w) (n:Nat) (f:c.At p) {test:PySem.Expr} {q:Bool} (d:Den c ρ S m ns) (i:Is c m ns h) (ht:xT (run Y n) p test S=one q S) {K:Bool->Shared->Prop} (k:∀ρ' n1 h1 t1,Up ρ ρ' (yae ns) (yae n1)->Den c ρ' S m n1->Is c m n1 h1->K q (c.st h1 t1)) :
  wpAny (MM c.w) c.A (PySem.isTrue test c.env (eval test c.env)) K c.E (c.st h tk):=by
 refine (ymC (ybV Yo n) f (e:=test) d (by rw [ht];exact ybS)).run i λq' h1 t1 n1 i1 r=>?_
 refine yab λGG hGG=>?_
 obtain ⟨hm,up,e,d1⟩:=r
 rw [ht] at hm
 cases List.mem_singleton.mp hm
 cases e
 refine hGG ?_;clear hGG GG
 exact k _ _ _ _ up d1 i1
theorem yjz (Yo:Y.Ok c.w) (n:Nat) (f:c.At p) {test:PySem.Expr} {body:List Stmt} {V:List Vt} (d:Den c ρ S m ns) (i:Is c m ns h) (ht:xT (run Y n) p test S=one true S) (hv:(xSs (run Y n) p body S).map yaD=V) (hb:yaI (xSs (run Y n) p body S)=true) (ends:∀x∈V,ybs c ρ ns P N x) :
  wpAny (MM c.w) c.A (PySem.isTrue test c.env (eval test c.env)) (λb s₂=>WhlIf b (wpAny (MM c.w) c.A (execs body c.env) P c.E s₂) (N s₂)) c.E (c.st h tk):=by
 obtain ⟨g,en⟩:=yel hv ends
 exact yiC Yo n f d i ht λρ' n1 h1 t1 u d1 i1=>(ycf (ybV Yo n) rfl f body d1 (yek u en)).run i1 λfl h2 t2 m2 n2 i2 q=>ydp u en (ydq hb) i2 q
theorem yjA (Yo:Y.Ok c.w) (n:Nat) (f:c.At p) {test:PySem.Expr} {rest:List Stmt} {V:List Vt} {B:Shared->Prop} (d:Den c ρ S m ns) (i:Is c m ns h) (ht:xT (run Y n) p test S=one false S) (hv:(xSs (run Y n) p rest S).map yaD=V) (hb:yaI (xSs (run Y n) p rest S)=true) (ends:∀x∈V,ybs c ρ ns P N x) :
  wpAny (MM c.w) c.A (PySem.isTrue test c.env (eval test c.env)) (λb s₂=>WhlIf b (B s₂) (wpAny (MM c.w) c.A (execs rest c.env) P c.E s₂)) c.E (c.st h tk):=by
 obtain ⟨g,en⟩:=yel hv ends
 exact yiC Yo n f d i ht λρ' n1 h1 t1 u d1 i1=>(ycf (ybV Yo n) rfl f rest d1 (yek u en)).run i1 λfl h2 t2 m2 n2 i2 q=>ydp u en (ydq hb) i2 q
end
section
variable {c:Cx} {m m':Map} {ns ns':Led} {h:Heap} {ρ ρ':Rho} {mm:List (Str × SV)} {os qs:List SO} {pc:List C} {p:Pl}
theorem DTl.up {w:World} {tl:Led} {i:Nat} {x:SO} {as as':List Addr} (d:DTl w tl ρ i x) (u:Up ρ ρ' as as'):DTl w tl ρ' i x:=by
 obtain ⟨q,m,d⟩:=d
 exact ⟨yad u.q _ q,m,d.up (as':=[]) ⟨u.z,u.b,u.t,u.q,u.l,u.u,u.k,List.prefix_refl _⟩⟩
theorem Here.den (H:Here c ρ ρ' ns ns' m' mm os pc h) (tls:∀(i:Nat) (x:SO),qs[i]? = some x->DTl c.w c.tl ρ i x):Den c ρ' ⟨mm,[],os,qs,pc,none⟩ m' ns':=
 ⟨H.loc,H.obs,H.pcs,λi x hx=>(tls i x hx).up H.up,(λx i h=>nomatch h),λi h=>nomatch h⟩
end
theorem yaC {ρ:Rho} {as:List Addr} {m:Map} {mm:List (Str × SV)} (h:∀p∈mm,∃v,m p.1=some v/\DV ρ as p.2 v) (x:Str):DQ ρ as (mm.lookup x) (m x):=by
 generalize e:mm.lookup x=y
 rcases y with _|y
 ·exact .none
 ·obtain ⟨v,hv,d⟩:=h _ (yaB e);rw [hv];exact .some d
theorem ybg {c:Cx} {m:Map} {h:Heap} {p:Pl} {Q:Value->Shared->Prop} {E':Value->Shared->Prop} {tk:Nat} {fn:Str} {xp pos:Pos} {b:Addr} {xs:List (Str × Pos)} {us:List Value} (f:c.At p) (F:Fr c.g c.L h m) (e:nsIn (KK c.w.params) mainGlobals fn=some (some (.ref b))) (hk:keepIn (KK c.w.params) (.ref b)=true)
  (hg:p.sc.names.lookup fn=some .globalImplicit) (hx:A2 (fun (x:Str × Pos) v=>m x.1=some v/\p.sc.names.lookup x.1=some .local) xs us) (hne:xs≠[]) (k:wpAny (MM c.w) c.A (call (.ref b) us) Q E' (c.st h tk)) :
  wpAny (MM c.w) c.A (eval (.Call (.Name fn xp) (xs.map λx=>.Name x.1 x.2) [] pos) c.env) Q E' (c.st h tk):=by
 refine yab λGG hGG=>?_
 obtain ⟨mean,mg,mb,T⟩:=f.f.T
 have hk1:=(kind_of f fn).trans hg
 have args:∀{xs:List (Str × Pos)} {us:List Value} {Q:List Value->Shared->Prop},A2 (fun (x:Str × Pos) v=>m x.1=some v/\p.sc.names.lookup x.1=some .local) xs us->Q us (c.st h tk)->wpAny (MM c.w) c.A (spliced (backTo pos (starEach (xs.map λx=>PySem.Expr.Name x.1 x.2) c.env))) Q E' (c.st h tk):=by
  intro xs us Q hx
  induction hx generalizing Q with
  | nil=>exact λq=>args_nil q
  | cons d _ ih=>
   have h1:=(kind_of f _).trans d.2
   exact λq=>args_cons (nameX_L F d.1 (ih q) f.f.fn h1 (ycX f h1)) (yan rfl)
 refine hGG ?_;clear hGG GG
 refine Call_ (nameX_K F f.f.X (topRead_of T) e ?_ f.f.fn hk1 (ycX f hk1))
 rcases xs with _|⟨x,xs⟩
 ·exact absurd rfl hne
 ·have pl:∀xs:List (Str × Pos),((xs.map λx=>PySem.Expr.Name x.1 x.2).any ycb)=false:=λxs=>by
   induction xs with
   | nil=>rfl
   | cons x xs ih=>exact ih
  exact callWith_K f.f.X hk (args hx ⟨f.f.X.keeps F.keep,k⟩) (yan rfl) (yb7 pos (pl (x::xs)))
theorem ydR {M:Model} {A:Around} {env:Env} {xs ys:List Stmt} {Q:Flow->Shared->Prop} {E:Value->Shared->Prop} {s:Shared} (h:wpAny M A (execs xs env) (λfl s'=>match fl with | .next=>wpAny M A (execs ys env) Q E s'|fl=>Q fl s') E s):wpAny M A (execs (xs++ys) env) Q E s:=by
 have e:execs (xs++ys) env=(do match <-execs xs env with | .next=>execs ys env|f=>pure f):=by
  clear h
  induction xs with
  | nil=>rw [List.nil_append];rfl
  | cons x xs ih=>
   rw [List.cons_append,execs_cons,execs_cons,ih]
   simp only [bind_assoc]
   congr 1
   funext f
   cases f<;>rfl
 rw [e]
 exact wpAny_bind (wpAny_mono h (λfl s' q=>by cases fl<;>first|exact q|exact wpAny_pure q) λ_ _ e=>e)
noncomputable def osG (hnd:Z) (on:C) (el:Z) (code:SV) (fa:Z) (kn:List (Z × SV)) (kp:List (Z × Option SV)):List SO:=
 [.inst 673 1,.dct false [(Str.ofString "handler",.z hnd),(Str.ofString "is_handling",.b on),(Str.ofString "error_line",.z el),(Str.ofString "error_code",code)],
  .inst 278 3,.dct false [(Str.ofString "rows",.r 4),(Str.ofString "places",.r 5)],.vec 0 (.v 1) kn [],.map 0 kp,.inst 877 7,
  .dct false [(Str.ofString "world",.r 0),(Str.ofString "flat",.r 2),(Str.ofString "control",.r 8),(Str.ofString "bits",.z (.n 16)),(Str.ofString "digits",.z (.n 9))],.inst 208 9,.dct false [(Str.ofString "failed_at",.z fa)]]
noncomputable abbrev DP (w:World) (ρ:Rho) (as:List Addr) (x:SO) (p:Addr × Obj):Prop:=DO w ρ as x p.1 p.2
section
variable {w:World} {ρ:Rho} {as:List Addr} {os:List SO} {ns:Led}
theorem ya9 (h:A2 (DP w ρ as) os ns):DOs w ρ as os ns:=⟨h.len.symm,λi x p hx hp=>by
 obtain ⟨y,hy,d⟩:=h.at hx
 rw [hy] at hp
 exact Option.some.inj hp▸d⟩
theorem DOs.atK {i:Nat} {x:SO} {a:Addr} (h:DOs w ρ as os ns) (hx:os[i]? = some x) (ha:(yae ns)[i]? = some a):∃o,ns[i]? = some (a,o)/\DO w ρ as x a o:=by
 rw [List.getElem?_map] at ha
 refine yab λGG hGG=>?_
 obtain ⟨p,hp,rfl⟩:=Option.map_eq_some_iff.mp ha
 refine hGG ?_;clear hGG GG
 exact ⟨p.2,hp,h.all i x p hx hp⟩
theorem DOs.a2 (h:DOs w ρ as os ns):A2 (DP w ρ as) os ns:=by
 induction os generalizing ns with
 | nil=>
  rcases ns with _|⟨p,ns⟩
  ·exact .nil
  ·exact nomatch h.len
 | cons x os ih=>
  rcases ns with _|⟨p,ns⟩
  ·exact nomatch h.len
  ·exact .cons (h.all 0 x p rfl rfl) (ih ⟨Nat.succ.inj h.len,λi x p hx hp=>h.all (i+1) x p hx hp⟩)
end
noncomputable def yem (ρ:Rho):SV->Option Str
 | .s x=>some x
 | .t i=>ρ.t[i]?
 | _=>none
theorem yjB {ρ:Rho} {as:List Addr} {x:SV} {y:Str} {v:Value} (h:yem ρ x=some y) (d:DV ρ as x v):∃t,v = .str y t:=by
 refine yab λGG hGG=>?_
 rcases x with _|z|i|_|_|_|_|_|_|_|_
 ·first|exact yaa h|cases h
 ·cases h;refine hGG ?_;clear hGG GG;exact d
 ·obtain ⟨z,t,e,rfl⟩:=d;cases e.symm.trans h;refine hGG ?_;clear hGG GG;exact ⟨t,rfl⟩
 ·first|exact yaa h|cases h
 ·first|exact yaa h|cases h
 ·first|exact yaa h|cases h
 ·first|exact yaa h|cases h
 ·first|exact yaa h|cases h
 ·first|exact yaa h|cases h
 ·first|exact yaa h|cases h
 ·first|exact yaa h|cases h
theorem yjC {ρ ρ':Rho} {as as':List Addr} (p:Up ρ ρ' as as') {x:SV}:Kp (yem ρ x) (yem ρ' x):=by
 rcases x with _|z|i|_|_|_|_|_|_|_|_
 ·exact λ_ h=>nomatch h
 ·exact λ_ h=>h
 ·exact yad p.t
 ·exact λ_ h=>nomatch h
 ·exact λ_ h=>nomatch h
 ·exact λ_ h=>nomatch h
 ·exact λ_ h=>nomatch h
 ·exact λ_ h=>nomatch h
 ·exact λ_ h=>nomatch h
 ·exact λ_ h=>nomatch h
 ·exact λ_ h=>nomatch h
structure Vals (ρ:Rho) (hnd:Z) (on:C) (el:Z) (code:SV) (fa:Z) (σ:yaL):Prop where
 h:hnd.ev ρ.z=some σ.hnd
 o:on.ev ρ=some σ.on
 l:el.ev ρ.z=some σ.el
 c:yem ρ code=some (yaj σ.num)
 f:fa.ev ρ.z=some σ.fa
section
variable {w:World} {ρ:Rho} {W WD R RD FL FD RW PL CT CD:Addr} {rvs:List Value} {sp:yao} {σ:yaL} {gl:Led} {kvs:List (Int × Value)} {hnd el fa:Z} {on:C} {code:SV} {kn:List (Z × SV)} {kp:List (Z × Option SV)}
theorem yiD {wes res fes ces:List DictEntry} {wn rn fn cn lw:Nat} {po:Obj} {th te tc tf tb td:Tok}
  (Hw:Has wes [(Str.ofString "handler",.int σ.hnd th),(Str.ofString "is_handling",.bool σ.on),(Str.ofString "error_line",.int σ.el te),(Str.ofString "error_code",.str (yaj σ.num) tc)])
  (Hr:Has res [(Str.ofString "world",.ref W),(Str.ofString "flat",.ref FL),(Str.ofString "control",.ref CT),(Str.ofString "bits",.int 16 tb),(Str.ofString "digits",.int 9 td)])
  (Hf:Has fes [(Str.ofString "rows",.ref RW),(Str.ofString "places",.ref PL)]) (Hc:Has ces [(Str.ofString "failed_at",.int σ.fa tf)]) (hpo:po.IsDictOf (PySem.intKind PP w) kvs)
  (z1:ρ.z[1]? = some (rvs.length:Int)) (z2:ρ.z[2]? = some σ.hnd) (z3:ρ.z[3]? = some σ.el) (z4:ρ.z[4]? = some σ.fa) (ho:on.ev ρ=some σ.on) (t0:ρ.t[0]? = some (yaj σ.num)) (l0:ρ.l[0]? = some rvs) (k0:ρ.k[0]? = some kvs) (hlo:(PL==sysModules)=false) (hsz:rvs.length<=1000)
  (hkn:∀as,∀p∈kn,DK ρ as rvs p) (hkp:∀as,∀p∈kp,DM ρ as kvs p) :
  DOs w ρ (yae (yl1 W WD R RD FL FD RW PL CT CD wes res fes ces wn rn fn cn lw rvs po)) (osG (.v 2) on (.v 3) (.t 0) (.v 4) kn kp) (yl1 W WD R RD FL FD RW PL CT CD wes res fes ces wn rn fn cn lw rvs po):=
 ya9 (.cons ⟨rfl,rfl⟩ (.cons ⟨rfl,Hw,nofun,.cons ⟨rfl,_,_,z2,rfl⟩ (.cons ⟨rfl,_,ho,rfl⟩ (.cons ⟨rfl,_,_,z3,rfl⟩ (.cons ⟨rfl,_,_,t0,rfl⟩ .nil)))⟩ (.cons ⟨rfl,rfl⟩ (.cons ⟨rfl,Hf,nofun,.cons ⟨rfl,_,rfl,rfl⟩ (.cons ⟨rfl,_,rfl,rfl⟩ .nil)⟩
  (.cons ⟨l0,by rw [List.append_nil],z1,hsz,.nil,hkn _⟩ (.cons ⟨hlo,k0,hpo,hkp _⟩ (.cons ⟨rfl,rfl⟩ (.cons ⟨rfl,Hr,nofun,.cons ⟨rfl,_,rfl,rfl⟩ (.cons ⟨rfl,_,rfl,rfl⟩ (.cons ⟨rfl,_,rfl,rfl⟩ (.cons ⟨rfl,_,_,rfl,rfl⟩ (.cons ⟨rfl,_,_,rfl,rfl⟩ .nil))))⟩ (.cons ⟨rfl,rfl⟩ (.cons ⟨rfl,Hc,nofun,.cons ⟨rfl,_,_,z4,rfl⟩ .nil⟩ .nil))))))))))
theorem ym4 {α β:Type} {P:α->β->Prop} {xs xs':List α} {zs:List β} (h:A2 P (xs++xs') zs):∃ys ys',zs=ys++ys'/\A2 P xs ys/\A2 P xs' ys':=by
 induction xs generalizing zs with
 | nil=>exact ⟨[],zs,rfl,.nil,h⟩
 | cons x xs ih=>
  rcases h with _|⟨p,h⟩
  obtain ⟨ys,ys',rfl,h1,h2⟩:=ih h
  exact ⟨_::ys,ys',rfl,.cons p h1,h2⟩
theorem fld {as:List Addr} {n:Str} {x:SV} {r:List (Str × SV)} {l:List (Str × Value)} (h:DFs ρ as ((n,x)::r) l):∃v l',l=(n,v)::l'/\DV ρ as x v/\DFs ρ as r l':=by
 rcases h with _ | @⟨_,⟨m,v⟩,_,l',d,h⟩
 refine yab λGG hGG=>?_
 obtain ⟨e,d⟩:=d
 cases e
 refine hGG ?_;clear hGG GG
 exact ⟨v,l',rfl,d,h⟩
theorem yok {as:List Addr} {l:List (Str × Value)} (h:DFs ρ as [] l):l = []:=by cases h;rfl
theorem yba {as:List Addr} {x:SO} {xs:List SO} {k:Addr} {ks:List Addr} {gl:Led} (h:A2 (DP w ρ as) (x::xs) gl) (hk:yae gl=k::ks):∃o gl',gl=(k,o)::gl'/\DO w ρ as x k o/\A2 (DP w ρ as) xs gl'/\yae gl'=ks:=by
 rcases h with _ | @⟨_,⟨a,o⟩,_,gl',h,h'⟩
 refine yab λGG hGG=>?_
 obtain ⟨e,e'⟩:=List.cons.inj hk
 cases e
 refine hGG ?_;clear hGG GG
 exact ⟨o,gl',rfl,h,h',e'⟩
theorem yiE {as:List Addr} {C d dx:Nat} {o:Obj} (h:ykd as C d o) (e:as[d]? = some dx):o=yaf C dx:=by
 obtain ⟨e',eo⟩:=h
 rw [eo,Option.some.inj (e'.symm.trans e)]
theorem ybW {as:List Addr} {i:Nat} {a:Addr} {v:Value} (d:DV ρ as (.r i) v) (e:as[i]? = some a):v = .ref a:=by
 refine yab λGG hGG=>?_
 obtain ⟨b,e',rfl⟩:=d
 refine hGG ?_;clear hGG GG
 rw [Option.some.inj (e'.symm.trans e)]
theorem yeT {as:List Addr} {c:C} {b:Bool} {v:Value} (d:DV ρ as (.b c) v) (e:c.ev ρ=some b):v = .bool b:=by
 refine yab λGG hGG=>?_
 obtain ⟨b',e',rfl⟩:=d
 refine hGG ?_;clear hGG GG
 rw [Option.some.inj (e'.symm.trans e)]
theorem yqm {as:List Addr} {o:Obj} (h:yfm ρ as false [(Str.ofString "handler",.z hnd),(Str.ofString "is_handling",.b on),(Str.ofString "error_line",.z el),(Str.ofString "error_code",code)] o) (v:Vals ρ hnd on el code fa σ) :
  ∃es n th te tc,o=dictOf es n/\Has es [(Str.ofString "handler",.int σ.hnd th),(Str.ofString "is_handling",.bool σ.on),(Str.ofString "error_line",.int σ.el te),(Str.ofString "error_code",.str (yaj σ.num) tc)]:=by
 refine yab λGG hGG=>?_
 obtain ⟨e,H,_,D⟩:=h
 obtain ⟨v1,_,rfl,d1,D1⟩:=fld D
 obtain ⟨v2,_,rfl,d2,D2⟩:=fld D1
 obtain ⟨v3,_,rfl,d3,D3⟩:=fld D2
 obtain ⟨v4,_,rfl,d4,D4⟩:=fld D3
 rw [yok D4] at H
 clear D D1 D2 D3 D4
 obtain ⟨t1,rfl⟩:=ybt d1 v.h
 obtain ⟨t3,rfl⟩:=ybt d3 v.l
 obtain ⟨t4,rfl⟩:=yjB v.c d4
 rw [yeT d2 v.o] at H
 refine hGG ?_;clear hGG GG
 exact ⟨_,_,_,_,_,e,H⟩
theorem yqn {as:List Addr} {o:Obj} {ic:Nat} (h:yfm ρ as false [(Str.ofString "world",.r 0),(Str.ofString "flat",.r 2),(Str.ofString "control",.r ic),(Str.ofString "bits",.z (.n 16)),(Str.ofString "digits",.z (.n 9))] o) (e0:as[0]? = some W) (e2:as[2]? = some FL) (e8:as[ic]? = some CT) :
  ∃es n tb td,o=dictOf es n/\Has es [(Str.ofString "world",.ref W),(Str.ofString "flat",.ref FL),(Str.ofString "control",.ref CT),(Str.ofString "bits",.int 16 tb),(Str.ofString "digits",.int 9 td)]:=by
 refine yab λGG hGG=>?_
 obtain ⟨e,H,_,D⟩:=h
 obtain ⟨v1,_,rfl,d1,D1⟩:=fld D
 obtain ⟨v2,_,rfl,d2,D2⟩:=fld D1
 obtain ⟨v3,_,rfl,d3,D3⟩:=fld D2
 obtain ⟨v4,_,rfl,d4,D4⟩:=fld D3
 obtain ⟨v5,_,rfl,d5,D5⟩:=fld D4
 rw [yok D5] at H
 clear D D1 D2 D3 D4 D5
 obtain ⟨t4,rfl⟩:=ybt d4 rfl
 obtain ⟨t5,rfl⟩:=ybt d5 rfl
 rw [ybW d1 e0,ybW d2 e2,ybW d3 e8] at H
 refine hGG ?_;clear hGG GG
 exact ⟨_,_,_,_,e,H⟩
theorem ym5 {as:List Addr} {o:Obj} (h:yfm ρ as false [(Str.ofString "rows",.r 4),(Str.ofString "places",.r 5)] o) (e0:as[4]? = some RW) (e2:as[5]? = some PL):∃es n,o=dictOf es n/\Has es [(Str.ofString "rows",.ref RW),(Str.ofString "places",.ref PL)]:=by
 refine yab λGG hGG=>?_
 obtain ⟨e,H,_,D⟩:=h
 obtain ⟨v1,_,rfl,d1,D1⟩:=fld D
 obtain ⟨v2,_,rfl,d2,D2⟩:=fld D1
 rw [yok D2,ybW d1 e0,ybW d2 e2] at H
 refine hGG ?_;clear hGG GG
 exact ⟨_,_,e,H⟩
theorem yqo {as:List Addr} {o:Obj} {k:Int} (h:yfm ρ as false [(Str.ofString "failed_at",.z fa)] o) (e0:fa.ev ρ.z=some k):∃es n tf,o=dictOf es n/\Has es [(Str.ofString "failed_at",.int k tf)]:=by
 refine yab λGG hGG=>?_
 obtain ⟨e,H,_,D⟩:=h
 obtain ⟨v1,_,rfl,d1,D1⟩:=fld D
 obtain ⟨t1,rfl⟩:=ybt d1 e0
 rw [yok D1] at H
 refine hGG ?_;clear hGG GG
 exact ⟨_,_,_,e,H⟩
theorem ylN {as:List Addr} {o:Obj} {n:Z} {kn:List (Z × SV)} (h:yn4 ρ as 0 n kn [] o) (l0:ρ.l[0]? = some rvs):∃lw,o=listOf rvs.toArray lw:=by
 refine yab λGG hGG=>?_
 obtain ⟨e,eo,_,_,D,_⟩:=h
 rw [yar D,List.append_nil,Option.some.inj (e.symm.trans l0)] at eo
 refine hGG ?_;clear hGG GG
 exact ⟨_,eo⟩
theorem ylO {as:List Addr} {a:Addr} {o:Obj} (h:yn5 w ρ as 0 kp a o) (k0:ρ.k[0]? = some kvs):o.IsDictOf (PySem.intKind PP w) kvs:=by
 refine yab λGG hGG=>?_
 obtain ⟨_,e,d,_⟩:=h
 rw [Option.some.inj (e.symm.trans k0)] at d
 refine hGG ?_;clear hGG GG
 exact d
theorem ybh {rest:List SO} {ns':Led} (h:DOs w ρ (yae ns') (osG hnd on el code fa kn kp++rest) ns') (pre:[W,WD,FL,FD,RW,PL,R,RD,CT,CD] <+: yae ns') (v:Vals ρ hnd on el code fa σ) (l0:ρ.l[0]? = some rvs) (k0:ρ.k[0]? = some kvs) (hsp:SpotsAre kvs sp) :
  ∃gl r,ns'=gl++r/\gl.length=10/\yb2 W WD FL FD RW PL R RD CT CD w rvs sp σ gl:=by
 refine yab λGG hGG=>?_
 obtain ⟨gl,r,e,h,_⟩:=ym4 h.a2
 have hlen:gl.length=10:=h.len
 have hk:yae gl = [W,WD,FL,FD,RW,PL,R,RD,CT,CD]:=by
  obtain ⟨t,ht⟩:=pre
  rw [e,yae,List.map_append] at ht
  exact (List.append_inj ht (by rw [List.length_map,h.len];rfl)).1.symm
 have ix:∀i,Kp ([W,WD,FL,FD,RW,PL,R,RD,CT,CD]:List Addr)[i]? (yae ns')[i]?:=λi=>yad pre
 refine hGG ?_;clear hGG GG
 generalize yae ns'=as at h ix
 refine ⟨gl,r,e,hlen,?_⟩
 clear e hlen
 refine yab λGG hGG=>?_
 obtain ⟨o0,g0,e0,h0,h,hk⟩:=yba h hk
 obtain ⟨o1,g1,e1,h1,h,hk⟩:=yba h hk
 obtain ⟨o2,g2,e2,h2,h,hk⟩:=yba h hk
 obtain ⟨o3,g3,e3,h3,h,hk⟩:=yba h hk
 obtain ⟨o4,g4,e4,h4,h,hk⟩:=yba h hk
 obtain ⟨o5,g5,e5,h5,h,hk⟩:=yba h hk
 obtain ⟨o6,g6,e6,h6,h,hk⟩:=yba h hk
 obtain ⟨o7,g7,e7,h7,h,hk⟩:=yba h hk
 obtain ⟨o8,g8,e8,h8,h,hk⟩:=yba h hk
 obtain ⟨o9,g9,e9,h9,h,hk⟩:=yba h hk
 obtain ⟨wes,wn,th,te,tc,f1,Hw⟩:=yqm h1 v
 obtain ⟨fes,fn,f3,Hf⟩:=ym5 h3 (ix 4 _ rfl) (ix 5 _ rfl)
 obtain ⟨lw,f4⟩:=ylN h4 l0
 obtain ⟨res,rn,tb,td,f7,Hr⟩:=yqn h7 (ix 0 _ rfl) (ix 2 _ rfl) (ix 8 _ rfl)
 obtain ⟨ces,cn,tf,f9,Hc⟩:=yqo h9 v.f
 refine hGG ?_;clear hGG GG
 refine ⟨wes,res,fes,ces,wn,rn,fn,cn,lw,kvs,o5,th,te,tc,tf,tb,td,?_,Hw,Hr,Hf,Hc,ylO h5 k0,hsp⟩
 rw [e0,e1,e2,e3,e4,e5,e6,e7,e8,e9,yar h,yiE h0 (ix 1 _ rfl),f1,yiE h2 (ix 3 _ rfl),f3,f4,yiE h6 (ix 7 _ rfl),f7,yiE h8 (ix 9 _ rfl),f9]
end
section
variable {w:World} {ρ:Rho} {as:List Addr} {os:List SO} {ns:Led}
theorem q_r {i:Nat} {v:Option Value} {a:Addr} (d:DQ ρ as (some (.r i)) v) (e:as[i]? = some a):v=some (.ref a):=by
 obtain ⟨u,hu,d⟩:=ya3 d
 rw [hu,ybW d e]
theorem f_q {i:Nat} {a:Addr} {v:Value} (d:DV ρ as (.q i) v) (e:ρ.q[i]? = some a):v = .ref a:=by
 refine yab λGG hGG=>?_
 obtain ⟨b,e',rfl⟩:=d
 refine hGG ?_;clear hGG GG
 rw [Option.some.inj (e'.symm.trans e)]
theorem q_q {i:Nat} {v:Option Value} {a:Addr} (d:DQ ρ as (some (.q i)) v) (e:ρ.q[i]? = some a):v=some (.ref a):=by
 obtain ⟨u,hu,d⟩:=ya3 d
 rw [hu,f_q d e]
theorem q_z {z:Z} {v:Option Value} {k:Int} (d:DQ ρ as (some (.z z)) v) (e:z.ev ρ.z=some k):∃t,v=some (.int k t):=by
 refine yab λGG hGG=>?_
 obtain ⟨u,hu,d⟩:=ya3 d
 obtain ⟨t,rfl⟩:=ybt d e
 refine hGG ?_;clear hGG GG
 exact ⟨t,hu⟩
theorem yk0 {ex:Bool} {x y:Str} {a b:SV} {r:List (Str × SV)} {u v:Value} {o:Obj} (h:yfm ρ as ex ((x,a)::(y,b)::r) o) (ha:∀w,DV ρ as a w->w=u) (hb:∀w,DV ρ as b w->w=v):∃es n,o=dictOf es n/\Has es [(x,u),(y,v)]:=by
 refine yab λGG hGG=>?_
 obtain ⟨e,H,_,D⟩:=h
 obtain ⟨v1,_,rfl,d1,D1⟩:=fld D
 obtain ⟨v2,l,rfl,d2,D2⟩:=fld D1
 rw [ha _ d1,hb _ d2] at H
 refine hGG ?_;clear hGG GG
 exact ⟨_,_,e,H.len,H.no,fC (H.all _ (.head _)) (fC (H.all _ (.tail _ (.head _))) fN)⟩
theorem ypc {i:Nat} {o:Obj} {n:Z} {kn:List (Z × SV)} {a:SV} {vs:List Value} {u:Value} (h:yn4 ρ as i n kn [a] o) (l0:ρ.l[i]? = some vs) (ha:∀w,DV ρ as a w->w=u):∃lw,o=listOf (vs ++ [u]).toArray lw:=by
 refine yab λGG hGG=>?_
 obtain ⟨e,eo,_,_,D,_⟩:=h
 obtain ⟨v1,l,rfl,d1,D2⟩:=yai D
 rw [yar D2,Option.some.inj (e.symm.trans l0),ha _ d1] at eo
 refine hGG ?_;clear hGG GG
 exact ⟨_,eo⟩
theorem ypd {o:Obj} {z:Z} {i:Nat} {k:Int} {b:Addr} (h:yl3 ρ as [.z z,.q i] o) (e:z.ev ρ.z=some k) (q:ρ.q[i]? = some b):∃t n,o=yal [.int k t,.ref b] n:=by
 refine yab λGG hGG=>?_
 obtain ⟨eo,D⟩:=h
 obtain ⟨v1,l,rfl,d1,D2⟩:=yai D
 obtain ⟨v2,l,rfl,d2,D3⟩:=yai D2
 obtain ⟨t,rfl⟩:=ybt d1 e
 rw [yar D3,f_q d2 q] at eo
 refine hGG ?_;clear hGG GG
 exact ⟨_,_,eo⟩
theorem ylP {i:Nat} {x:SO} (h:DOs w ρ as os ns) (hx:os[i]? = some x):∃a o,(yae ns)[i]? = some a/\ns[i]? = some (a,o)/\DO w ρ as x a o:=by
 have hlt:i<ns.length:=h.len▸(List.getElem?_eq_some_iff.mp hx).1
 have e:=List.getElem?_eq_getElem hlt
 exact ⟨_,_,yaw e,e,h.all i x _ hx e⟩
end
theorem yk1 {α:Type} {l:List α} {a b c d:α} (h:l.length=4) (e0:l[0]? = some a) (e1:l[1]? = some b) (e2:l[2]? = some c) (e3:l[3]? = some d):l = [a,b,c,d]:=by
 refine yab λGG hGG=>?_
 obtain ⟨x,y,z,u,rfl⟩:=ypb h
 refine hGG ?_;clear hGG GG
 rw [Option.some.inj e0,Option.some.inj e1,Option.some.inj e2,Option.some.inj e3]
set_option genSizeOfSpec false
set_option genInjectivity false
noncomputable def yol:Def:=mkD (yaE [15]) rfl "fits"
noncomputable def yqp:Def:=mkD (yaE [16]) rfl "whole_of"
noncomputable def yqq:Def:=mkD (yaE [112]) rfl "parts_of_tree"
noncomputable def yqr:Def:=mkD (yaE [121]) rfl "worth_of_leaf"
noncomputable def yqs:Def:=mkD (yaE [122]) rfl "worth_of_tree"
noncomputable def ycK:Def:=mkD (yaE [123]) rfl "worth"
noncomputable def yom:Def:=mkD (yaE [127,2]) rfl "WorkRun.whole"
theorem ym6 (w:World):DefOk w 121 yol:=yaz (by k_is) (by show codeIn _ _ (Str.ofString "fits")=true;k_is) (λs=>vs2 λ_ _=>BindsTo.of_eq rfl) (by kernel_rfl)
theorem ym7 (w:World):DefOk w 128 yqp:=yaz (by k_is) (by show codeIn _ _ (Str.ofString "whole_of")=true;k_is) (λs=>vs2 λ_ _=>BindsTo.of_eq rfl) (by kernel_rfl)
theorem ym8 (w:World):DefOk w 710 yqq:=yaz (by k_is) (by show codeIn _ _ (Str.ofString "parts_of_tree")=true;k_is) (λs=>vs1 λ_=>BindsTo.of_eq rfl) (by kernel_rfl)
theorem ym9 (w:World):DefOk w 752 yqr:=yaz (by k_is) (by show codeIn _ _ (Str.ofString "worth_of_leaf")=true;k_is) (λs=>vs3 λ_ _ _=>BindsTo.of_eq rfl) (by kernel_rfl)
theorem yna (w:World):DefOk w 759 yqs:=yaz (by k_is) (by show codeIn _ _ (Str.ofString "worth_of_tree")=true;k_is) (λs=>vs3 λ_ _ _=>BindsTo.of_eq rfl) (by kernel_rfl)
theorem ynb (w:World):DefOk w 764 ycK:=yaz (by k_is) (by show codeIn _ _ (Str.ofString "worth")=true;k_is) (λs=>vs2 λ_ _=>BindsTo.of_eq rfl) (by kernel_rfl)
theorem ync (w:World):DefOk w 792 yom:=yaz (by k_is) (by show codeIn _ _ (Str.ofString "WorkRun.whole")=true;k_is) (λs=>vs2 λ_ _=>BindsTo.of_eq rfl) (by kernel_rfl)
theorem ynd {c:Cx} {p:Pl} {m:Map} {h:Heap} {tk:Nat} {tb:Tok} {Q:Value->Shared->Prop} {k1 k2:Nat} {q1 q2 q3 q4 q5:Pos} (f:c.At p) (F:Fr c.g c.L h m) (hm:m (Str.ofString "bits")=some (.int 16 tb)) (hk:p.sc.names.lookup (Str.ofString "bits")=some .local) (K:∀t tk',Q (.int 32768 t) (c.st h tk')) :
  wpAny (MM c.w) c.A (eval (.BinOp (.Constant (.int 1) k1 q1) .LShift (.BinOp (.Name (Str.ofString "bits") q2) .Sub (.Constant (.int 1) k2 q3) q4) q5) c.env) Q c.E (c.st h tk):=by
 have e:(1 * 2 ^ ((16:Int) - 1).toNat:Int)=32768:=by decide
 refine wpAny_BinOp (wpAny_Constant_int (wpAny_BinOp (ybr (tk:=tk+1) f F hm hk (wpAny_Constant_int (PyProof.Rows.sub_int (PyProof.Rows.lshift_int (by decide) (kbm_shl (m:=64) (intBits_le_64 (by decide) (by decide)) (by decide) (by decide)) ?_))))))
 rw [e]
 exact K _ (tk+1+1+1+1)
theorem ysk:∃k1 k2 k3 k4 q1 q2 q3 q4 q5 q6 q7 q8 q9 p1 p2 p3 p4 p5,yol.body = [.Return (some (.Compare (.UnaryOp .USub (.BinOp (.Constant (.int 1) k1 q1) .LShift (.BinOp (.Name (Str.ofString "bits") q2) .Sub (.Constant (.int 1) k2 q3) q4) q5) q6) [.LtE,.Lt] [.Name (Str.ofString "number") q7,.BinOp (.Constant (.int 1) k3 p1) .LShift (.BinOp (.Name (Str.ofString "bits") p2) .Sub (.Constant (.int 1) k4 p3) p4) p5] q8)) q9]:=⟨_,_,_,_,_,_,_,_,_,_,_,_,_,_,_,_,_,_,rfl⟩
section
variable {w:World} {mean:ExcName->Option Value} {mg mb:Str->Option Value} {base:Heap} {env:Env} {outer:List Env} {A:Around} {s:Shared} {Q E:Value->Shared->Prop}
theorem yk2 {k:Int} {t1 t2:Tok} (k0:0<=k) (k1:k<=1000) (St0:Std w mean mg mb base (env::outer) s.heap) (hf:A.frames=some (env::outer)) (hh:A.handled=none) (hdp:A.depth<=595) (hun:A.units<=2985)
  (hret:∀h' tk',ybK [] s.heap h' []->Q (.bool true) {s with heap:=h',toks:=tk'}):wpAny (MM w) A (call (.ref 121) [.int k t1,.int 16 t2]) Q E s:=by
 have hr:(600:Nat)<recursionLimit:=by decide
 refine ybC (tl:=[]) (ym6 w) St0 hf (by omega) fN rfl λc h1 tk1 fc F N=>?_
 refine yab λGG hGG=>?_
 obtain ⟨_,_,_,_,_,_,_,_,_,_,_,_,_,_,_,_,_,_,hb⟩:=ysk
 refine hGG ?_;clear hGG GG
 rw [hb]
 have f:=fc.at (p:=⟨yol.sc,1,false,true⟩) rfl (by show A.depth+1+1<=600;omega) (by show A.units+3+3 * 1<=3000;omega) hh []
 have hk:yol.sc.names.lookup (Str.ofString "bits")=some .local:=by kernel_rfl
 refine wpAny_execs_cons (wpAny_Return_some (PyProof.Rows.Compare_chain (UnaryOp_ (ynd (c:=c.on []) f F rfl hk λt tk2=>neg_int (PyProof.Rows.chain_link (ybr (c:=c.on []) (tk:=tk2+1) f F (v:=.int k t1) rfl (by kernel_rfl) (PyProof.Rows.le_int (wpAny_truthy_bool ?_))))))))
 rw [decide_eq_true (show (-32768:Int)<=k by omega)]
 refine PyProof.Rows.chain_last (ynd (c:=c.on []) (tk:=tk2+1) f F rfl hk λt' tk3=>PyProof.Rows.lt_int ?_)
 rw [decide_eq_true (show k<32768 by omega)]
 exact fc.st (P:=Q (.bool true)) (hret _ _ (yaN fc.kp F N λ_ h=>h))
end
noncomputable def yk3 (v:SV) (S:SS):Option Z:=v.q?.bind λj=>(S.qs[j]?.bind SO.tup?).bind λes=>(two? es).bind λy=>y.1.s?.bind λx=>y.2.z?.bind λa=>grd (x==Str.ofString "whole" && ((C.le (.n 0) a).known S.pc==some true) && ((C.le a (.n 1000)).known S.pc==some true)) a
noncomputable def yne (v:SV) (S:SS):Option Nat:=v.q?.bind λi=>(S.qs[i]?.bind SO.op?).bind λx=>(S.qs[x.2]?.bind SO.op?).bind λy=>grd (x.1==5 && y.1==6) i
inductive ynf (tl:Led) (ρ:Rho) (u:Value) (a:Z):Prop
 | mk {T:Addr} {k:Int} {t2 t3:Tok} {n:Nat} (e:u = .ref T) (m:(T,yal [.str (Str.ofString "whole") t2,.int k t3] n)∈tl) (z:a.ev ρ.z=some k) (k0:0<=k) (k1:k<=1000):ynf tl ρ u a
inductive yk4 (tl:Led) (u:Value):Prop
 | mk {R RD:Addr} {es:List DictEntry} {n:Nat} {tb td:Tok} (e:u = .ref R) (m:(R,yaf 877 RD)∈tl) (m2:(RD,dictOf es n)∈tl) (H:Has es [(Str.ofString "bits",.int 16 tb),(Str.ofString "digits",.int 9 td)]):yk4 tl u
section
variable {c:Cx} {m:Map} {ρ:Rho} {ns:Led} {S:SS} {v:SV} {u:Value}
theorem yeU {a:Z} (h:yk3 v S=some a) (dv:DV ρ (yae ns) v u) (d:Den c ρ S m ns):ynf c.tl ρ u a:=by
 refine yab λGG hGG=>?_
 obtain ⟨j,hj,h⟩:=yac h
 obtain ⟨es,h1,h⟩:=yac h
 obtain ⟨⟨x,y⟩,h2,h⟩:=yac h
 obtain ⟨x',h3,h⟩:=yac h
 obtain ⟨a',h4,h⟩:=yac h
 obtain ⟨g,rfl⟩:=yah h
 clear h
 obtain ⟨o,ho,h1⟩:=yac h1
 have g2:=yag g
 have g3:=yag g2.1
 cases beq_iff_eq.mp g3.1
 cases yil hj
 cases ygI h1
 cases yce h2
 cases yo3 h3
 obtain ⟨T,qT,rfl⟩:=dv
 obtain ⟨q1,m1,@⟨vs,n,rfl,D⟩⟩:=d.tls _ _ ho
 cases q1.symm.trans qT
 obtain ⟨v1,l1,rfl,⟨t2,rfl⟩,D2⟩:=yai D
 obtain ⟨v2,l2,rfl,dy,D3⟩:=yai D2
 cases yar D3
 obtain ⟨k,t3,hk,rfl⟩:=yhW h4 dy
 refine hGG ?_;clear hGG GG
 exact ⟨rfl,m1,hk,yg9 d.pcs g3.2 rfl hk,yg9 d.pcs g2.2 hk rfl⟩
theorem yiF {i:Nat} (h:yne v S=some i) (dv:DV ρ (yae ns) v u) (d:Den c ρ S m ns):yk4 c.tl u:=by
 refine yab λGG hGG=>?_
 obtain ⟨i',hi,h⟩:=yac h
 obtain ⟨⟨t,j⟩,h1,h⟩:=yac h
 obtain ⟨⟨t2,j2⟩,h2,h⟩:=yac h
 obtain ⟨g,rfl⟩:=yah h
 clear h
 have g:=yag g
 cases beq_iff_eq.mp g.1
 cases beq_iff_eq.mp g.2
 cases yil hi
 obtain ⟨y,hy,h1⟩:=yac h1
 obtain ⟨z,hz,h2⟩:=yac h2
 cases yeh h1
 cases yeh h2
 obtain ⟨a,qa,rfl⟩:=dv
 obtain ⟨q1,m1,⟨q3,rfl⟩⟩:=d.tls _ _ hy
 obtain ⟨q2,m2,@⟨es,n,tb,td,rfl,H⟩⟩:=d.tls _ _ hz
 cases q1.symm.trans qa
 cases q3.symm.trans q2
 refine hGG ?_;clear hGG GG
 exact ⟨rfl,m1,m2,H⟩
end
noncomputable def yhb (p:Pl) (vs:List SV) (S:SS):Option (List (R SV)):=(two? vs).bind λx=>x.1.z?.bind λa=>(ylM x.2).bind λk=>grd (k==16 && decide (5<=p.k) && p.hd && ((C.le (.n 0) a).known S.pc==some true) && ((C.le a (.n 1000)).known S.pc==some true)) (one (.b (.b true)) S)
noncomputable def yeV (p:Pl) (vs:List SV) (S:SS):Option (List (R SV)):=(two? vs).bind λx=>(yk3 x.1 S).bind λa=>(yne x.2 S).bind λ_=>grd (decide (40<=p.k) && p.hd) (one (.z a) S)
noncomputable def YW (f:Bool):Sys where
 gl:=[(Str.ofString "fits",.f 121),(Str.ofString "parts_of_tree",.f 710),(Str.ofString "worth_of_tree",.f 759),(Str.ofString "worth_of_leaf",.f 752),(Str.ofString "whole_of",.f 128),(Str.ofString "worth_worth",.f 764),(Str.ofString "len",.bi "len"),(Str.ofString "isinstance",.bi "isinstance"),(Str.ofString "str",.ty "str"),(Str.ofString "tuple",.ty "tuple")]
 fns:=[(710,yqq),(759,yqs),(752,yqr),(128,yqp)]
 ini:=[]
 gets:=[(877,Str.ofString "bits"),(877,Str.ofString "digits")]
 meth:=[]
 sets:=[]
 con:=λp b vs S=>cond (b==121) (yhb p vs S) (cond (f && b==764) (yeV p vs S) none)
theorem yhc {c:Cx} {p:Pl} {m:Map} {ρ:Rho} {ns:Led} {S:SS} {vs:List SV} {us:List Value} {l:List (R SV)} (f:c.At p) (hc:p.cells=false) (h:yhb p vs S=some l) (dv:DVs ρ (yae ns) vs us) (d:Den c ρ S m ns):WE c m ns (call (.ref 121) us) (PE DV c m ρ ns l):=by
 refine yab λGG hGG=>?_
 obtain ⟨x,hx,h⟩:=yac h
 obtain ⟨a,ha,h⟩:=yac h
 obtain ⟨k,hk,h⟩:=yac h
 obtain ⟨g,rfl⟩:=yah h
 clear h
 cases yce hx
 obtain ⟨u1,us',rfl,du1,dn⟩:=yai dv
 obtain ⟨u2,us2,rfl,du2,dn2⟩:=yai dn
 cases yar dn2
 obtain ⟨z,t1,hz,rfl⟩:=yhW ha du1
 obtain ⟨t2,rfl⟩:=yha hk du2
 clear dv dn dn2 hx
 have g1:=yag g
 have g2:=yag g1.1
 have g3:=yag g2.1
 have g4:=yag g3.1
 have k0:=yg9 d.pcs g2.2 rfl hz
 have k1:=yg9 d.pcs g1.2 hz rfl
 have hh:=f.hh g3.2
 have hp:=yaQ g4.2
 cases beq_iff_eq.mp g4.1
 have e1:=f.dp
 have e2:=f.un
 refine hGG ?_;clear hGG GG
 refine ⟨λh tk i=>?_⟩
 refine yab λGG hGG=>?_
 obtain ⟨mean,mg,mb,St⟩:=ydo f hc i
 refine hGG ?_;clear hGG GG
 refine yk2 k0 k1 St f.f.fr hh (by omega) (by omega) λh' tk' P=>?_
 obtain ⟨F',N'⟩:=ybP (exo:=[]) i.F i.N fN P
 exact yap ⟨F',N',i.nd,i.off⟩ (yaP d ⟨true,rfl,rfl⟩)
theorem yng (w:World) (f:Bool) (h764:f=true->∀{c:Cx} {p:Pl} {m:Map} {ρ:Rho} {ns:Led} {S:SS} {vs:List SV} {us:List Value} {l:List (R SV)},c.w=w->c.At p->p.cells=false->yeV p vs S=some l->DVs ρ (yae ns) vs us->Den c ρ S m ns->WE c m ns (call (.ref 764) us) (PE DV c m ρ ns l)):(YW f).Ok w:=by
 have rows:∀p∈(YW f).gl,yfs w p:=fC (yaK (by k_is) (by k_is)) (fC (yaK (by k_is) (by k_is)) (fC (yaK (by k_is) (by k_is)) (fC (yaK (by k_is) (by k_is)) (fC (yaK (by k_is) (by k_is)) (fC (yaK (by k_is) (by k_is)) (fC (ykV (by k_is) rfl (by decide +kernel)) (fC (ykV (by k_is) rfl (by decide +kernel)) (fC (ykZ (by k_is) rfl (by decide +kernel)) (fC (ykZ (by k_is) rfl (by decide +kernel)) fN)))))))))
 have defs:∀p∈(YW f).fns,DefOk w p.1 p.2:=fC (ym8 w) (fC (yna w) (fC (ym9 w) (fC (ym7 w) fN)))
 exact ⟨λx u h=>(rows _ (yaB h)).g,λx b h=>(rows _ (yaB h)).k b rfl,λb D h=>defs _ (yaB h),λ_ _ h=>yaa h,λ_ _ h=>yaa h,yg8 (by kernel_rfl),fN,λp b vs S l h hc c ρ m ns us hw fA dv d g=>by
  have h:cond (b==121) (yhb p vs S) (cond (f && b==764) (yeV p vs S) none)=some l:=h
  by_cases q:(b==121)=true
  ·rw [q] at h;cases beq_iff_eq.mp q;exact yhc fA hc h dv d
  rw [Bool.eq_false_iff.mpr q,cond_false] at h
  refine yab λGG hGG=>?_
  obtain ⟨q1,h2⟩:=yay h
  have q2:=yag q1
  cases beq_iff_eq.mp q2.2
  refine hGG ?_;clear hGG GG
  exact h764 q2.1 hw fA hc h2 dv d⟩
noncomputable def wQs:List SO:=[.tup [.s (Str.ofString "whole"),.z (.v 0)],.op 5 2,.op 6 0]
noncomputable def wPC:List C:=[.le (.n 0) (.v 0),.le (.v 0) (.n 1000)]
noncomputable def ynh:List Stmt->PySem.Expr × List Stmt
 | .While t b _ _::_=>(t,b)
 | _=>(.Constant .none 0 ⟨0,0,0,0⟩,[])
noncomputable def tT:PySem.Expr:=(ynh (ycK.body.drop 1)).1
noncomputable def tB:List Stmt:=(ynh (ycK.body.drop 1)).2
theorem ysl:∃p,ycK.body=ycK.body.take 1++(.While tT tB [] p::ycK.body.drop 2):=⟨_,rfl⟩
noncomputable def wP (D:Def) (k:Nat):Pl:=⟨D.sc,k,false,true⟩
noncomputable def wS (m:List (Str × SV)) (os:List SO):SS:=⟨m,[],os,wQs,wPC,none⟩
noncomputable def wM0:List (Str × SV):=[(Str.ofString "tree",.q 0),(Str.ofString "hooks",.q 1)]
noncomputable def wM1:List (Str × SV):=wM0 ++ [(Str.ofString "values",.r 2),(Str.ofString "waiting",.r 1)]
noncomputable def wO1:List SO:=[.tup [.q 0,.b (.b false)],.lst [.r 0],.lst [],.tup [.r 1,.r 2]]
noncomputable def wM2:List (Str × SV):=wM0 ++ [(Str.ofString "values",.r 10),(Str.ofString "waiting",.r 1),(Str.ofString "here",.q 0),(Str.ofString "is_ready",.b (.b false)),(Str.ofString "parts",.r 6),(Str.ofString "begin",.z (.n 0)),(Str.ofString "found",.z (.v 0))]
noncomputable def wO2:List SO:=[.tup [.q 0,.b (.b false)],.lst [],.lst [],.tup [.r 1,.r 2],.tup [.s (Str.ofString "item"),.s (Str.ofString "call"),.s (Str.ofString "fn")],.tup [.s (Str.ofString "neg"),.s (Str.ofString "not")],.lst [],.lst [],.lst [],.lst [.z (.v 0)],.lst [.z (.v 0)]]
theorem w_1:(xSs (run (YW false) 40) (wP ycK 20) (ycK.body.take 1) (wS wM0 [])).map yaD = [.nx wM1 wO1 wPC]/\yaI (xSs (run (YW false) 40) (wP ycK 20) (ycK.body.take 1) (wS wM0 []))=true:=⟨by kernel_rfl,by kernel_rfl⟩
theorem ysm:xT (run (YW false) 40) (wP ycK 20) tT (wS wM1 wO1)=one true (wS wM1 wO1):=by kernel_rfl
theorem w_2:(xSs (run (YW false) 40) (wP ycK 20) tB (wS wM1 wO1)).map yaD = [.nx wM2 wO2 wPC]/\yaI (xSs (run (YW false) 40) (wP ycK 20) tB (wS wM1 wO1))=true:=⟨by kernel_rfl,by kernel_rfl⟩
theorem ysn:xT (run (YW false) 40) (wP ycK 20) tT (wS wM2 wO2)=one false (wS wM2 wO2):=by kernel_rfl
theorem w_3:(xSs (run (YW false) 40) (wP ycK 20) (ycK.body.drop 2) (wS wM2 wO2)).map yaD = [.ret (.z (.v 0)) wO2 wPC]/\yaI (xSs (run (YW false) 40) (wP ycK 20) (ycK.body.drop 2) (wS wM2 wO2))=true:=⟨by kernel_rfl,by kernel_rfl⟩
theorem yk5:(xSs (run (YW true) 40) (wP yom 60) yom.body (wS (yom.ps.zip [SV.q 1,SV.q 0]).reverse [])).map view = [.ret (.z (.v 0)) [] wPC]:=by kernel_rfl
noncomputable def wSt (n:Nat):SS:=cond (n==0) (wS wM2 wO2) (wS wM1 wO1)
inductive WI (c:Cx) (ρ0:Rho) (n:Nat) (s':Shared):Prop
 | mk {ρ:Rho} {ns:Led} {m:Map} {h:Heap} {tk:Nat} (e:s'=c.st h tk) (up:Up ρ0 ρ [] (yae ns)) (i:Is c m ns h) (d:Den c ρ (wSt n) m ns):WI c ρ0 n s'
section
variable {w:World} {tl:Led} {T R RD:Addr} {es:List DictEntry} {n n3:Nat} {k:Int} {t2 t3 tb td:Tok}
theorem yni (m0:(T,yal [.str (Str.ofString "whole") t2,.int k t3] n3)∈tl) (m1:(R,yaf 877 RD)∈tl) (m2:(RD,dictOf es n)∈tl) (H:Has es [(Str.ofString "bits",.int 16 tb),(Str.ofString "digits",.int 9 td)]):∀(i:Nat) (x:SO),wQs[i]? = some x->DTl w tl ⟨[k],[],[],[T,R,RD],[],[],[]⟩ i x:=λi x hx=>by
 rcases i with _|_|_|i
 ·cases hx;exact ⟨rfl,m0,⟨rfl,.cons ⟨t2,rfl⟩ (.cons ⟨k,t3,rfl,rfl⟩ .nil)⟩⟩
 ·cases hx;exact ⟨rfl,m1,⟨rfl,rfl⟩⟩
 ·cases hx;exact ⟨rfl,m2,⟨rfl,H⟩⟩
 ·cases hx
theorem ynj {q:List Addr} (k0:0<=k) (k1:k<=1000):∀C∈wPC,C.ev ⟨[k],[],[],q,[],[],[]⟩=some true:=fC (congrArg some (decide_eq_true k0)) (fC (congrArg some (decide_eq_true k1)) fN)
end
section
variable {w:World} {mean:ExcName->Option Value} {mg mb:Str->Option Value} {base:Heap} {env:Env} {outer:List Env} {A:Around} {s:Shared} {Q E:Value->Shared->Prop}
theorem yiG {tl:Led} {T R RD:Addr} {es:List DictEntry} {n n3:Nat} {k:Int} {t2 t3 tb td:Tok} (k0:0<=k) (k1:k<=1000) (St0:Std w mean mg mb base (env::outer) s.heap) (hf:A.frames=some (env::outer)) (hh:A.handled=none) (hdp:A.depth<=575) (hun:A.units<=2900)
  (O:ybZ base (env::outer) s.heap tl) (m0:(T,yal [.str (Str.ofString "whole") t2,.int k t3] n3)∈tl) (m1:(R,yaf 877 RD)∈tl) (m2:(RD,dictOf es n)∈tl) (H:Has es [(Str.ofString "bits",.int 16 tb),(Str.ofString "digits",.int 9 td)])
  (hret:∀u h' tk',ybK (yae tl) s.heap h' tl->Q (.int k u) {s with heap:=h',toks:=tk'}):wpAny (MM w) A (call (.ref 764) [.ref T,.ref R]) Q E s:=by
 have hr:(600:Nat)<recursionLimit:=by decide
 refine ybC (tl:=tl) (ynb w) St0 hf (by omega) O rfl λc h1 tk1 fc F N=>?_
 obtain ⟨p1,hb⟩:=ysl
 rw [hb]
 have f:=fc.at (p:=wP ycK 20) rfl (by show A.depth+1+20<=600;omega) (by show A.units+3+3 * 20<=3000;omega) hh tl
 have fin:=λu m₁ h tk (F:Fr c.g c.L h m₁) (N:News c.g c.L h tl)=>fc.st (P:=Q (.int k u)) (hret u h tk (yaN fc.kp F N λ_ h=>h))
 have po:=fc.po
 have Yo:(YW false).Ok c.w:=yng _ _ λh=>Bool.noConfusion h
 have tls:=yni (w:=c.w) (t2:=t2) (t3:=t3) m0 m1 m2 H
 clear hret St0 O fc hf hh hdp hun m0 m1 m2 H hb
 have d0:Den (c.on tl) ⟨[k],[],[],[T,R,RD],[],[],[]⟩ (wS wM0 []) (λy=>(ycK.ps.zip [Value.ref T,Value.ref R]).reverse.lookup y) []:=
  ⟨yaC (fC ⟨_,by rfl,T,rfl,rfl⟩ (fC ⟨_,by rfl,R,rfl,rfl⟩ fN)),⟨rfl,λi x p h=>nomatch h⟩,ynj k0 k1,tls,(λx i h=>nomatch h),λi h=>nomatch h⟩
 refine ydR (ybf (c:=c.on tl) (N:=λ_=>True) Yo 40 f (ycK.body.take 1) d0 ⟨F,N,List.nodup_nil,fN⟩ w_1.1 w_1.2 (fC (λρ1 ns1 mm1 h2 tk2 H1=>?_) fN))
 refine wpAny_execs_cons (yb3 (ydb (n₀:=1) (WI (c.on tl) ⟨[k],[],[],[T,R,RD],[],[],[]⟩) (.mk rfl H1.up H1.i (H1.den tls)) (λn s' hI=>?_) po))
 clear d0 F N H1
 refine yab λGG hGG=>?_
 rcases hI with @⟨ρ,ns,m,h,tk,e,up,i,d⟩
 ·subst e
  rcases n with _|n
  ·refine hGG ?_;clear hGG GG
   refine yjA (c:=c.on tl) (N:=λ_=>True) Yo 40 f d i ysn w_3.1 w_3.2 (fC (λρ' ns' m' u h3 tk3 H3 dv=>?_) fN)
   obtain ⟨t,rfl⟩:=ybt dv (yad (up.trans H3.up).z (i:=0) k rfl)
   exact fin t m' h3 tk3 H3.i.F λq hq=>H3.i.N q (List.mem_append_right _ hq)
  ·refine hGG ?_;clear hGG GG
   exact yjz (c:=c.on tl) Yo 40 f d i ysm w_2.1 w_2.2 (fC (λρ' ns' m' h3 tk3 H3=>⟨0,Nat.succ_pos n,.mk rfl (up.trans H3.up) H3.i (H3.den λi x hx=>(tls i x hx).up up)⟩) fN)
end
theorem yhd {c:Cx} {p:Pl} {m:Map} {ρ:Rho} {ns:Led} {S:SS} {vs:List SV} {us:List Value} {l:List (R SV)} (f:c.At p) (hc:p.cells=false) (h:yeV p vs S=some l) (dv:DVs ρ (yae ns) vs us) (d:Den c ρ S m ns):WE c m ns (call (.ref 764) us) (PE DV c m ρ ns l):=by
 refine yab λGG hGG=>?_
 obtain ⟨x,hx,h⟩:=yac h
 obtain ⟨a,ha,h⟩:=yac h
 obtain ⟨j,hj,h⟩:=yac h
 obtain ⟨g,rfl⟩:=yah h
 clear h
 cases yce hx
 obtain ⟨u1,us',rfl,du1,dn⟩:=yai dv
 obtain ⟨u2,us2,rfl,du2,dn2⟩:=yai dn
 cases yar dn2
 have TR:=yeU ha du1 d
 have HR:=yiF hj du2 d
 clear dv dn dn2 hx ha hj du1 du2
 have g1:=yag g
 have hh:=f.hh g1.2
 have hp:=yaQ g1.1
 have e1:=f.dp
 have e2:=f.un
 rcases TR with @⟨T,k,t2,t3,n,e,m0,hz,k0,k1⟩
 ·subst e
  rcases HR with @⟨R,RD,es,n',tb,td,e,m1,m2,H⟩
  ·subst e
   refine hGG ?_;clear hGG GG
   refine ⟨λh tk i=>?_⟩
   refine yab λGG hGG=>?_
   obtain ⟨mean,mg,mb,St⟩:=ydo f hc i
   have sub:∀p∈c.tl,p∈ns++c.tl:=λp hp=>List.mem_append_right _ hp
   refine hGG ?_;clear hGG GG
   refine yiG k0 k1 St f.f.fr hh (by omega) (by omega) (yc1 f hc i sub) m0 m1 m2 H λu h' tk' P=>?_
   obtain ⟨F',N'⟩:=ybP i.F i.N sub P
   exact yap ⟨F',N',i.nd,i.off⟩ (yaP d ⟨k,u,hz,rfl⟩)
section
variable {w:World} {mean:ExcName->Option Value} {mg mb:Str->Option Value} {base:Heap} {env:Env} {outer:List Env} {A:Around} {s:Shared} {Q E:Value->Shared->Prop}
theorem yiH {tl:Led} {T R RD:Addr} {es:List DictEntry} {n n3:Nat} {k:Int} {t2 t3 tb td:Tok} (k0:0<=k) (k1:k<=1000) (St0:Std w mean mg mb base (env::outer) s.heap) (hf:A.frames=some (env::outer)) (hh:A.handled=none) (hdp:A.depth<=530) (hun:A.units<=2700)
  (O:ybZ base (env::outer) s.heap tl) (m0:(T,yal [.str (Str.ofString "whole") t2,.int k t3] n3)∈tl) (m1:(R,yaf 877 RD)∈tl) (m2:(RD,dictOf es n)∈tl) (H:Has es [(Str.ofString "bits",.int 16 tb),(Str.ofString "digits",.int 9 td)])
  (hret:∀u h' tk',ybK (yae tl) s.heap h' tl->Q (.int k u) {s with heap:=h',toks:=tk'}):wpAny (MM w) A (call (.ref 792) [.ref R,.ref T]) Q E s:=by
 refine ydn (ns:=[]) (ρ:=⟨[k],[],[],[T,R,RD],[],[],[]⟩) (os:=[]) (qs:=wQs) (pc:=wPC) (yng w true λ_=>@λ_ _ _ _ _ _ _ _ _ _ fA hc h dv d=>yhd fA hc h dv d) 40 (k:=60) (ync w) St0 hf hh (by omega) (by omega) O List.nodup_nil fN (vs:=[.q 1,.q 0]) (.cons ⟨R,rfl,rfl⟩ (.cons ⟨T,rfl,rfl⟩ .nil)) rfl ⟨rfl,λi x p h=>nomatch h⟩ (ynj k0 k1) (yni m0 m1 m2 H) yk5 (fC (λρ' ns' u h' tk' a dv P=>?_) fN)
 obtain ⟨t,rfl⟩:=ybt dv (yad a.up.z (i:=0) k rfl)
 exact hret t h' tk' ⟨P.kept,λp hp=>P.get p (List.mem_append_right _ hp),λp hp=>P.new p (List.mem_append_right _ hp)⟩
end
set_option genSizeOfSpec false
set_option genInjectivity false
noncomputable def yhe (i:Nat):List C->Option Z
 | []=>none
 | .cod j a::r=>cond (i==j) (some a) (yhe i r)
 | _::r=>yhe i r
noncomputable def yiI (p:Pl) (vs:List SV) (S:SS):Option (List (R SV)):=match vs with
 | [.t i]=>cond (decide (67<=p.k) && (p.hd || yoZ S)) ((yhe i S.pc).map λa=>one (.z a) S) none
 | _=>none
noncomputable def ydS (a:Z):List C->Option Nat
 | []=>none
 | .cod j b::r=>cond (a.same b) (some j) (ydS a r)
 | _::r=>ydS a r
noncomputable def yiJ (p:Pl) (vs:List SV) (S:SS):Option (List (R SV)):=match vs with
 | [.z a]=>cond (decide (34<=p.k) && ((C.le (.n 1) a).known S.pc==some true)) ((ydS a S.pc).map λi=>one (.t i) S) none
 | _=>none
noncomputable def yjD (v:SV) (S:SS):Option Nat:=v.i?.bind λi=>(S.os[i]?.bind SO.inst?).bind λCj=>(S.os[Cj.2]?.bind SO.dct?).bind λfs=>((fs.2.lookup (Str.ofString "bits")).bind ylM).bind λkb=>((fs.2.lookup (Str.ofString "digits")).bind ylM).bind λkd=>grd (Cj.1==877 && kb==16 && kd==9) i
noncomputable def yhf (p:Pl) (vs:List SV) (S:SS):Option (List (R SV)):=(two? vs).bind λx=>(yk3 x.2 S).bind λa=>(yjD x.1 S).bind λ_=>grd (decide (134<=p.k) && p.hd) (one (.z a) S)
noncomputable def yk6 (v:SV) (S:SS):Option (Nat × Nat):=v.i?.bind λi=>(S.os[i]?.bind SO.op?).bind λtj=>(S.qs[tj.2]?.bind SO.op?).bind λuj=>grd (tj.1==0 && uj.1==1) (i,tj.2)
noncomputable def yhg (p:Pl) (vs:List SV) (S:SS):Option (List (R SV)):=(two? vs).bind λx=>(yk6 x.1 S).bind λ_=>(ylM x.2).bind λk=>grd (decide (0<k/\k<=100) && p.hd) ((List.range k.toNat).map fun (r:Nat)=>R.ok (.z (.n r)) S)
noncomputable def yqt (v:SV) (S:SS):Option Nat:=v.q?.bind λi=>(S.qs[i]?.bind SO.op?).bind λuj=>grd (uj.1==4) uj.2
noncomputable def YY:Sys where
 gl:=[(Str.ofString "do_end",.f 388),(Str.ofString "place_of_flatten",.f 338),(Str.ofString "set_handler",.f 219),(Str.ofString "check_resume",.f 233),(Str.ofString "resume",.f 240),(Str.ofString "row_behind",.f 359),(Str.ofString "BasicError",.f 41),(Str.ofString "error_row",.f 395),(Str.ofString "error_caught",.f 226),(Str.ofString "line_of",.f 345),(Str.ofString "error_number",.f 254),(Str.ofString "check_end",.f 261),(Str.ofString "number_of_error",.f 58),(Str.ofString "Control",.f 208),(Str.ofString "World",.f 673),(Str.ofString "WorkRun",.f 877),(Str.ofString "Flat",.f 278),(Str.ofString "_law_done",.f 909),(Str.ofString "_law_led",.f 916),(Str.ofString "flatten",.f 331),(Str.ofString "len",.bi "len"),(Str.ofString "MOST_PILE",.z (.n 20)),(Str.ofString "MOST_NUMBER",.z (.n 255)),(Str.ofString "raise_told",.f 247),(Str.ofString "code_of_error",.f 65),(Str.ofString "put_row_of",.f 289),(Str.ofString "put_all",.f 303),(Str.ofString "gather",.f 310),(Str.ofString "_law_next",.f 888),(Str.ofString "_law_statement",.f 895),(Str.ofString "enumerate",.ty "enumerate")]
 fns:=[(388,yp3),(338,yp4),(219,yp5),(233,yp6),(240,yp7),(359,yp8),(254,yp9),(261,yqa),(395,yqb),(226,yqc),(345,yqd),(247,yqe),(289,yqf)]
 ini:=[(208,yqg),(278,yqh),(673,yqi),(877,yqj)]
 gets:=[(673,Str.ofString "handler"),(673,Str.ofString "is_handling"),(673,Str.ofString "error_code"),(673,Str.ofString "error_line"),(673,Str.ofString "bits"),(673,Str.ofString "digits"),(877,Str.ofString "world"),(877,Str.ofString "flat"),(877,Str.ofString "control"),(877,Str.ofString "bits"),(877,Str.ofString "digits"),(278,Str.ofString "rows"),(278,Str.ofString "places"),(278,Str.ofString "data"),(208,Str.ofString "failed_at")]
 sets:=[(673,Str.ofString "bits"),(673,Str.ofString "digits"),(673,Str.ofString "most_steps"),(673,Str.ofString "most_depth"),(673,Str.ofString "room"),(673,Str.ofString "names"),(673,Str.ofString "arrays"),(673,Str.ofString "kinds"),(673,Str.ofString "fns"),(673,Str.ofString "out"),(673,Str.ofString "row"),(673,Str.ofString "inputs"),(673,Str.ofString "files"),(673,Str.ofString "open"),(673,Str.ofString "fields"),(673,Str.ofString "data"),(673,Str.ofString "spot"),(673,Str.ofString "base"),(673,Str.ofString "seed"),(673,Str.ofString "steps"),(673,Str.ofString "depth"),(673,Str.ofString "handler"),(673,Str.ofString "is_handling"),(673,Str.ofString "error_line"),(673,Str.ofString "error_code"),(673,Str.ofString "is_traced"),(673,Str.ofString "traces"),(673,Str.ofString "common"),(208,Str.ofString "pile"),(208,Str.ofString "most"),(208,Str.ofString "failed_at"),(278,Str.ofString "rows"),(278,Str.ofString "places"),(278,Str.ofString "data"),(278,Str.ofString "pairs"),(278,Str.ofString "loops"),(278,Str.ofString "fns"),(877,Str.ofString "world"),(877,Str.ofString "flat"),(877,Str.ofString "answers"),(877,Str.ofString "bits"),(877,Str.ofString "digits"),(877,Str.ofString "control"),(877,Str.ofString "asked")]
 meth:=[(877,792)]
 con:=λp b vs S=>cond (b==58) (yiI p vs S) (cond (b==65) (yiJ p vs S) (cond (b==792) (yhf p vs S) (cond (b==888) (yhg p vs S) none)))
theorem yiK {i:Nat} {a:Z} {pc:List C} (h:yhe i pc=some a):C.cod i a∈pc:=by
 induction pc with
 | nil=>cases h
 | cons c r ih=>
  rcases c with _|_|_|_|_|_|⟨j,b⟩|_
  ·exact .tail _ (ih h)
  ·exact .tail _ (ih h)
  ·exact .tail _ (ih h)
  ·exact .tail _ (ih h)
  ·exact .tail _ (ih h)
  ·exact .tail _ (ih h)
  ·unfold yhe at h
   generalize q:(i==j)=x9
   rcases x9 with _|_
   ·rw [q] at h;exact .tail _ (ih h)
   ·rw [q] at h;cases h;rw [beq_iff_eq.mp q];exact .head _
  ·exact .tail _ (ih h)
set_option tactic.hygienic true in
theorem yiL {w:World} {c:Cx} {p:Pl} {m:Map} {ρ:Rho} {ns:Led} {S:SS} {vs:List SV} {us:List Value} {l:List (R SV)} (hw:c.w=w) (f:c.At p) (hc:p.cells=false) (h:yiI p vs S=some l) (dv:DVs ρ (yae ns) vs us) (d:Den c ρ S m ns):WE c m ns (call (.ref 58) us) (PE DV c m ρ ns l):=by
 unfold yiI at h
 split at h
 ·rename_i i
  refine yab λGG hGG=>?_
  obtain ⟨h1,h⟩:=yay h
  obtain ⟨a,ha,rfl⟩:=yav h
  have h1:=yag h1
  have hk:=yaQ h1.1
  have hp:=d.pcs _ (yiK ha)
  obtain ⟨x,k,hx,hk2,hc2⟩:=yde hp
  have hc2:=yag hc2
  obtain ⟨u,us',rfl,du,dn⟩:=yai dv
  cases yar dn
  obtain ⟨x',t,hx',rfl⟩:=du
  cases hx.symm.trans hx'
  cases beq_iff_eq.mp hc2.1
  have hm:k∈([0,5,1,16,21,30,200,255,8,20,19]:List Int):=List.contains_iff_mem.mp hc2.2
  have e1:=f.dp
  have e2:=f.un
  refine hGG ?_;clear hGG GG
  refine ⟨λh tk i=>?_⟩
  have H:HOk c.A.handled h:=(Bool.or_eq_true_iff.mp h1.2).elim (λq=>.inl (f.hh q)) λq=>yg3 d i q
  refine yab λGG hGG=>?_
  obtain ⟨mean,mg,mb,St⟩:=ydo f hc i
  refine hGG ?_;clear hGG GG
  refine ygh hm H St f.f.fr (by omega) (by omega) λu h' tk' P=>?_
  obtain ⟨F',N'⟩:=back i.F i.N .nil P
  exact yap ⟨F',N',i.nd,i.off⟩ (yaP d ⟨_,_,hk2,rfl⟩)
 ·cases h
theorem yhh {i:Nat} {a:Z} {pc:List C} (h:ydS a pc=some i):C.cod i a∈pc:=by
 induction pc with
 | nil=>cases h
 | cons c r ih=>
  rcases c with _|_|_|_|_|_|⟨j,b⟩|_
  ·exact .tail _ (ih h)
  ·exact .tail _ (ih h)
  ·exact .tail _ (ih h)
  ·exact .tail _ (ih h)
  ·exact .tail _ (ih h)
  ·exact .tail _ (ih h)
  ·unfold ydS at h
   generalize q:(a.same b)=x9
   rcases x9 with _|_
   ·rw [q] at h;exact .tail _ (ih h)
   ·rw [q] at h;cases h;rw [Z.same_eq q];exact .head _
  ·exact .tail _ (ih h)
theorem yiM {k:Int} (h:k∈codes) (h1:1<=k):ygf k=yaj k:=(by decide +kernel:∀k∈codes,1<=k->ygf k=yaj k) k h h1
set_option tactic.hygienic true in
theorem yiN {w:World} {c:Cx} {p:Pl} {m:Map} {ρ:Rho} {ns:Led} {S:SS} {vs:List SV} {us:List Value} {l:List (R SV)} (hw:c.w=w) (f:c.At p) (hc:p.cells=false) (h:yiJ p vs S=some l) (dv:DVs ρ (yae ns) vs us) (d:Den c ρ S m ns):WE c m ns (call (.ref 65) us) (PE DV c m ρ ns l):=by
 unfold yiJ at h
 split at h
 ·rename_i a
  refine yab λGG hGG=>?_
  obtain ⟨h1,h⟩:=yay h
  obtain ⟨i,hi,rfl⟩:=yav h
  have h1:=yag h1
  have hk:=yaQ h1.1
  obtain ⟨x,k,hx,hk2,hc2⟩:=yde (d.pcs _ (yhh hi))
  have hc2:=yag hc2
  obtain ⟨u,us',rfl,du,dn⟩:=yai dv
  cases yar dn
  obtain ⟨t,rfl⟩:=ybt du hk2
  have hm:k∈codes:=List.contains_iff_mem.mp hc2.2
  have k1:=yg9 d.pcs h1.2 rfl hk2
  have hx2:=beq_iff_eq.mp hc2.1
  have k2:k<=1000:=(by decide:∀k∈codes,k<=1000) k hm
  have e1:=f.dp
  have e2:=f.un
  refine hGG ?_;clear hGG GG
  refine ⟨λh tk i2=>?_⟩
  refine yab λGG hGG=>?_
  obtain ⟨mean,mg,mb,St⟩:=ydo f hc i2
  refine hGG ?_;clear hGG GG
  refine ygg (by omega) k2 St f.f.fr (by omega) (by omega) λc u h' tk' ec P=>?_
  obtain ⟨F',N'⟩:=back i2.F i2.N .nil P
  exact yap ⟨F',N',i2.nd,i2.off⟩ (yaP d ⟨x,u,hx,by rw [ec,yiM hm k1,hx2]⟩)
 ·cases h
theorem yjE {ρ:Rho} {as:List Addr} {fs:List (Str × SV)} {l:List (Str × Value)} {x:Str} {k:Int} (D:DFs ρ as fs l) (h:(fs.lookup x).bind ylM=some k):∃t,(x,Value.int k t)∈l:=by
 refine yab λGG hGG=>?_
 obtain ⟨v,hv,h⟩:=yac h
 have L:=D.look (x:=x)
 rw [hv] at L
 obtain ⟨u,hu,d⟩:=ya3 L
 obtain ⟨t,rfl⟩:=yha h d
 refine hGG ?_;clear hGG GG
 exact ⟨t,ycU hu⟩
theorem yhi {c:Cx} {m:Map} {ρ:Rho} {ns:Led} {S:SS} {v:SV} {u:Value} {i:Nat} (h:yjD v S=some i) (dv:DV ρ (yae ns) v u) (d:Den c ρ S m ns):yk4 ns u:=by
 refine yab λGG hGG=>?_
 obtain ⟨i',hi,h⟩:=yac h
 obtain ⟨⟨C,j⟩,h1,h⟩:=yac h
 obtain ⟨fs,h2,h⟩:=yac h
 obtain ⟨kb,h3,h⟩:=yac h
 obtain ⟨kd,h4,h⟩:=yac h
 obtain ⟨g,rfl⟩:=yah h
 clear h
 obtain ⟨y,hy,h1⟩:=yac h1
 obtain ⟨z,hz,h2⟩:=yac h2
 cases ygH h1
 cases yjr h2
 have g:=yag g
 have g1:=yag g.1
 cases beq_iff_eq.mp g1.1
 cases beq_iff_eq.mp g1.2
 cases beq_iff_eq.mp g.2
 obtain ⟨a,o,rfl,ea,hdx,rfl⟩:=d.ref hi hy dv
 obtain ⟨o2,eb,rfl,H,_,D⟩:=d.atA hz hdx
 obtain ⟨tb,mb⟩:=yjE D h3
 obtain ⟨td,md⟩:=yjE D h4
 refine hGG ?_;clear hGG GG
 exact ⟨rfl,List.mem_of_getElem? ea,List.mem_of_getElem? eb,⟨H.len,H.no,fC (H.all _ mb) (fC (H.all _ md) fN)⟩⟩
theorem yhj {c:Cx} {p:Pl} {m:Map} {ρ:Rho} {ns:Led} {S:SS} {vs:List SV} {us:List Value} {l:List (R SV)} (f:c.At p) (hc:p.cells=false) (h:yhf p vs S=some l) (dv:DVs ρ (yae ns) vs us) (d:Den c ρ S m ns):WE c m ns (call (.ref 792) us) (PE DV c m ρ ns l):=by
 refine yab λGG hGG=>?_
 obtain ⟨x,hx,h⟩:=yac h
 obtain ⟨a,ha,h⟩:=yac h
 obtain ⟨j,hj,h⟩:=yac h
 obtain ⟨g,rfl⟩:=yah h
 clear h
 cases yce hx
 obtain ⟨u1,us',rfl,du1,dn⟩:=yai dv
 obtain ⟨u2,us2,rfl,du2,dn2⟩:=yai dn
 cases yar dn2
 have TR:=yeU ha du2 d
 have HR:=yhi hj du1 d
 clear dv dn dn2 hx ha hj du1 du2
 have g1:=yag g
 have hh:=f.hh g1.2
 have hp:=yaQ g1.1
 have e1:=f.dp
 have e2:=f.un
 rcases TR with @⟨T,k,t2,t3,n,e,m0,hz,k0,k1⟩
 ·subst e
  rcases HR with @⟨R,RD,es,n',tb,td,e,m1,m2,H⟩
  ·subst e
   refine hGG ?_;clear hGG GG
   refine ⟨λh tk i=>?_⟩
   refine yab λGG hGG=>?_
   obtain ⟨mean,mg,mb,St⟩:=ydo f hc i
   have sub:∀p∈[(T,yal [.str (Str.ofString "whole") t2,.int k t3] n),(R,yaf 877 RD),(RD,dictOf es n')],p∈ns++c.tl:=fC (List.mem_append_right _ m0) (fC (List.mem_append_left _ m1) (fC (List.mem_append_left _ m2) fN))
   refine hGG ?_;clear hGG GG
   refine yiH k0 k1 St f.f.fr hh (by omega) (by omega) (yc1 f hc i sub) (.head _) (.tail _ (.head _)) (.tail _ (.tail _ (.head _))) H λu h' tk' P=>?_
   obtain ⟨F',N'⟩:=ybP i.F i.N sub P
   exact yap ⟨F',N',i.nd,i.off⟩ (yaP d ⟨k,u,hz,rfl⟩)
theorem yiO {α:Type} {l:List α} {i:Nat} {x:α} (h:l[i]? = some x):l.set i x=l:=by
 induction l generalizing i with
 | nil=>rfl
 | cons y l ih=>
  rcases i with _|i
  ·cases h;rfl
  ·exact congrArg (y::·) (ih h)
inductive ynk (c:Cx) (ρ:Rho) (S:SS) (ns:Led) (u:Value) (i j:Nat):Prop
 | mk {a c1:Addr} {t:Int} {uu:Tok} {n n2:Nat} {ws:List Value} {zs:List Int} (e:u = .ref a) (ho:S.os[i]? = some (.op 0 j)) (ea:ns[i]? = some (a,listOf [.ref c1,.int t uu].toArray n)) (q:ρ.q[j]? = some c1) (z:0<=t) (m:(c1,listOf ws.toArray n2)∈c.tl) (iw:IntsAre ws zs) (lw:ws.length<=40):ynk c ρ S ns u i j
theorem yhk {c:Cx} {m:Map} {ρ:Rho} {ns:Led} {S:SS} {v:SV} {u:Value} {x:Nat × Nat} (h:yk6 v S=some x) (dv:DV ρ (yae ns) v u) (d:Den c ρ S m ns):ynk c ρ S ns u x.1 x.2:=by
 refine yab λGG hGG=>?_
 obtain ⟨i,hi,h⟩:=yac h
 obtain ⟨⟨t,j⟩,h1,h⟩:=yac h
 obtain ⟨⟨t2,j2⟩,h2,h⟩:=yac h
 obtain ⟨g,rfl⟩:=yah h
 clear h
 have g:=yag g
 cases beq_iff_eq.mp g.1
 cases beq_iff_eq.mp g.2
 obtain ⟨o,ho,h1⟩:=yac h1
 cases yeh h1
 obtain ⟨o2,ho2,h2⟩:=yac h2
 cases yeh h2
 obtain ⟨a,oa,e,ea,@⟨c1,t1,uu,n,q1,rfl,z1⟩⟩:=d.ref hi ho dv
 obtain ⟨q2,m2,@⟨ws,zs,n2,rfl,iw,lw⟩⟩:=d.tls _ _ ho2
 cases q1.symm.trans q2
 refine hGG ?_;clear hGG GG
 exact ⟨e,ho,ea,q1,z1,m2,iw,lw⟩
inductive yqu (c:Cx) (ρ:Rho) (u:Value) (k:Nat):Prop
 | mk {lo:Addr} {lvs:List Value} {M n3:Nat} (e:u = .ref lo) (l:ρ.l[k]? = some lvs) (m:(lo,listOf lvs.toArray n3)∈c.tl) (h1:2<=M) (h2:M<=5) (i:IntsAre lvs (([10,20,30,40,50]:List Int).take M)):yqu c ρ u k
theorem ynl {c:Cx} {m:Map} {ρ:Rho} {ns:Led} {S:SS} {v:SV} {u:Value} {k:Nat} (h:yqt v S=some k) (dv:DV ρ (yae ns) v u) (d:Den c ρ S m ns):yqu c ρ u k:=by
 refine yab λGG hGG=>?_
 obtain ⟨i,hi,h⟩:=yac h
 obtain ⟨⟨t,j⟩,h1,h⟩:=yac h
 obtain ⟨g,rfl⟩:=yah h
 clear h
 cases beq_iff_eq.mp g
 obtain ⟨o,ho,h1⟩:=yac h1
 cases yeh h1
 cases yil hi
 obtain ⟨lo,ql,e⟩:=dv
 obtain @⟨_,ol,q5,m5,@⟨lvs,M,n3,l5,rfl,hM1,hM2,iL⟩⟩:=d.tls _ _ ho
 cases ql.symm.trans q5
 refine hGG ?_;clear hGG GG
 exact ⟨e,l5,m5,hM1,hM2,iL⟩
theorem yeW {c:Cx} {m:Map} {ρ:Rho} {ns:Led} {S:SS} {i j n n':Nat} {a c1:Addr} {t t2:Int} {u u2:Tok} (d:Den c ρ S m ns) (ho:S.os[i]? = some (.op 0 j)) (ea:ns[i]? = some (a,listOf [.ref c1,.int t u].toArray n)) (q:ρ.q[j]? = some c1) (z:0<=t2):Den c ρ S m (ns.set i (a,listOf [.ref c1,.int t2 u2].toArray n')):=by
 have d3:=d.put (x:=.op 0 j) ea (o':=listOf [.ref c1,.int t2 u2].toArray n') ⟨q,rfl,z⟩
 rw [show S.put i (.op 0 j)=S from congrArg (λos=>{S with os:=os}) (yiO ho)] at d3
 exact d3
theorem yhl {w:World} {c:Cx} {p:Pl} {m:Map} {ρ:Rho} {ns:Led} {S:SS} {vs:List SV} {us:List Value} {l:List (R SV)} (hw:c.w=w) (f:c.At p) (hc:p.cells=false) (h:yhg p vs S=some l) (dv:DVs ρ (yae ns) vs us) (d:Den c ρ S m ns):WE c m ns (call (.ref 888) us) (PE DV c m ρ ns l):=by
 clear hw
 refine yab λGG hGG=>?_
 obtain ⟨x,hx,h⟩:=yac h
 obtain ⟨⟨i,j⟩,h1,h⟩:=yac h
 obtain ⟨k,h2,h⟩:=yac h
 obtain ⟨g,rfl⟩:=yah h
 clear h
 cases yce hx
 clear hx
 obtain ⟨u1,us',rfl,du1,dn⟩:=yai dv
 obtain ⟨u2,us2,rfl,du2,dn2⟩:=yai dn
 cases yar dn2
 clear dv dn dn2
 obtain ⟨tk',rfl⟩:=yha h2 du2
 have F:=yhk h1 du1 d
 clear h1 h2 du1 du2
 have g:=yag g
 have g1:=yaQ g.1
 have hh:=f.hh g.2
 have e1:=f.dp
 have e2:=f.un
 rcases F with @⟨a,c1,t,uu,n,n2,ws,zs,e,ho,ea,q,z,m2,iw,lw⟩
 ·subst e
  refine hGG ?_;clear hGG GG
  refine ⟨λh tk i2=>?_⟩
  refine yab λGG hGG=>?_
  obtain ⟨mean,mg,mb,St⟩:=ydo f hc i2
  refine hGG ?_;clear hGG GG
  refine yjW St f.f.fr hh (by omega) (by omega) (yc1 f hc i2 (fC (i2.mem ea) fN)) (i2.N _ (List.mem_append_right _ m2)).1 (i2.off _ (List.mem_of_getElem? ea) _ m2) iw lw z g1.1 g1.2 λr t2 u3 h' tk' r0 r1 P=>?_
  have i3:=i2.after (same:=[]) (post:=[]) ea fN P fN List.nodup_nil
  rw [List.append_nil] at i3
  exact yap i3 (.mk (a:=.z (.n r.toNat)) (S':=S) (List.mem_map.mpr ⟨r.toNat,List.mem_range.mpr (by omega),rfl⟩) (yaU ea▸.refl) ⟨r.toNat,u3,rfl,by rw [Int.toNat_of_nonneg r0]⟩ (yeW d ho ea q (by omega)))
theorem yaR (w:World):YY.Ok w:=by
 have rows:∀p∈YY.gl,yfs w p:=fC (yaK (by k_is) (by k_is)) (fC (yaK (by k_is) (by k_is)) (fC (yaK (by k_is) (by k_is)) (fC (yaK (by k_is) (by k_is)) (fC (yaK (by k_is) (by k_is)) (fC (yaK (by k_is) (by k_is)) (fC (yaK (by k_is) (by k_is)) (fC (yaK (by k_is) (by k_is)) (fC (yaK (by k_is) (by k_is)) (fC (yaK (by k_is) (by k_is)) (fC (yaK (by k_is) (by k_is)) (fC (yaK (by k_is) (by k_is)) (fC (yaK (by k_is) (by k_is)) (fC (yaK (by k_is) (by k_is)) (fC (yaK (by k_is) (by k_is)) (fC (yaK (by k_is) (by k_is)) (fC (yaK (by k_is) (by k_is)) (fC (yaK (by k_is) (by k_is)) (fC (yaK (by k_is) (by k_is)) (fC (yaK (by k_is) (by k_is)) (fC (ykV (by k_is) rfl (by decide +kernel)) (fC (ym3 (by k_is)) (fC (ym3 (by k_is)) (fC (yaK (by k_is) (by k_is)) (fC (yaK (by k_is) (by k_is)) (fC (yaK (by k_is) (by k_is)) (fC (yaK (by k_is) (by k_is)) (fC (yaK (by k_is) (by k_is)) (fC (yaK (by k_is) (by k_is)) (fC (yaK (by k_is) (by k_is)) (fC (ykZ (by k_is) rfl (by decide +kernel)) fN))))))))))))))))))))))))))))))
 have defs:∀p∈YY.fns,DefOk w p.1 p.2:=fC (ymG w) (fC (ymH w) (fC (ymI w) (fC (ymJ w) (fC (ymK w) (fC (ymL w) (fC (ymM w) (fC (ymN w) (fC (ymO w) (fC (ymP w) (fC (ymQ w) (fC (ymR w) (fC (ymS w) fN))))))))))))
 have inis:∀p∈YY.ini,IniOk w p.1 p.2:=fC (ymZ w) (fC (ym0 w) (fC (ym1 w) (fC (ym2 w) fN)))
 have meths:∀C b,YY.meth.lookup C=some b->yjq w C b:=λC b h=>by
  cases List.mem_singleton.mp (yaB h)
  exact ⟨by k_is,by k_is,by k_is,by k_is⟩
 exact ⟨λx u h=>(rows _ (yaB h)).g,λx b h=>(rows _ (yaB h)).k b rfl,λb D h=>defs _ (yaB h),λb D h=>inis _ (yaB h),meths,yg8 (by kernel_rfl),ykY (by kernel_rfl),λp b vs S l h hc c ρ m ns us hw f dv d g=>by
  have h:cond (b==58) (yiI p vs S) (cond (b==65) (yiJ p vs S) (cond (b==792) (yhf p vs S) (cond (b==888) (yhg p vs S) none)))=some l:=h
  by_cases q:(b==58)=true
  ·rw [q] at h;cases beq_iff_eq.mp q;exact yiL hw f hc h dv d
  rw [Bool.eq_false_iff.mpr q,cond_false] at h
  by_cases q:(b==65)=true
  ·rw [q] at h;cases beq_iff_eq.mp q;exact yiN hw f hc h dv d
  rw [Bool.eq_false_iff.mpr q,cond_false] at h
  by_cases q:(b==792)=true
  ·rw [q] at h;cases beq_iff_eq.mp q;exact yhj f hc h dv d
  rw [Bool.eq_false_iff.mpr q,cond_false] at h
  refine yab λGG hGG=>?_
  obtain ⟨q,h⟩:=yay h
  cases beq_iff_eq.mp q
  refine hGG ?_;clear hGG GG
  exact yhl hw f hc h dv d⟩
inductive GoV (ρ:Rho) (sp:yao) (nr at_:Int) (st:St) (σ:yaL) (kn:List (Z × SV)) (kp:List (Z × Option SV)):Vw->Prop
 | ret {gz hnd el fa:Z} {on:C} {code:SV} {rest:List SO} {pc:List C} {goal:Int} {σ':yaL} (g:gz.ev ρ.z=some goal) (v:Vals ρ hnd on el code fa σ') (e:yaA sp nr at_ st σ = .go goal σ'):GoV ρ sp nr at_ st σ kn kp (.ret (.z gz) (osG hnd on el code fa kn kp++rest) pc)
 | exc {hnd el fa:Z} {on:C} {code cc told:SV} {i j:Nat} {rest:List SO} {pc:List C} {f:Int} {σ':yaL} (hi:10<=i) (hj:10<=j) (x:(osG hnd on el code fa kn kp++rest)[j]? = some (.exd cc told)) (c:yem ρ cc=some (yaj f)) (t:told = .s (Str.ofString "")∨(f=8/\∃z,told = .z z))
   (v:Vals ρ hnd on el code fa σ') (e:yaA sp nr at_ st σ = .bad f σ'):GoV ρ sp nr at_ st σ kn kp (.exc i j i (osG hnd on el code fa kn kp++rest) pc)
theorem Vals.up {ρ ρ':Rho} {as as':List Addr} (p:Up ρ ρ' as as') {hnd el fa:Z} {on:C} {code:SV} {σ:yaL} (v:Vals ρ hnd on el code fa σ):Vals ρ' hnd on el code fa σ:=⟨Z.up p.z _ _ v.h,C.up p _ _ v.o,Z.up p.z _ _ v.l,yjC p _ v.c,Z.up p.z _ _ v.f⟩
theorem ydr {w:World} {ρ:Rho} {as:List Addr} {cc told:SV} {o:Obj} {f:Int} (d:yoH ρ as cc told o) (c:yem ρ cc=some (yaj f)) (t:told = .s (Str.ofString "")∨(f=8/\∃z,told = .z z)):yjl o f:=by
 refine yab λGG hGG=>?_
 obtain ⟨dc,dt,n⟩:=d
 obtain ⟨t',e⟩:=yjB c dc
 cases e
 refine hGG ?_;clear hGG GG
 refine ⟨_,_,n,?_⟩
 refine yab λGG hGG=>?_
 rcases t with rfl|⟨hf,z,rfl⟩
 ·refine hGG ?_;clear hGG GG
  exact .inl dt
 ·obtain ⟨k,t,_,rfl⟩:=dt;refine hGG ?_;clear hGG GG;exact .inr ⟨hf,k,t,rfl⟩
section
variable {w:World} {mean:ExcName->Option Value} {mg mb:Str->Option Value} {base:Heap} {env:Env} {outer:List Env} {A:Around} {s:Shared} {Q E:Value->Shared->Prop}
variable {W WD FL FD RW PL R RD CT CD:Addr} {rvs:List Value} {rows:List (Int × St)} {sp:yao} {σ:yaL} {gl tl:List (Addr × Obj)} {nr at_ line:Int} {st:St} {ta:Tok}
set_option linter.unusedSectionVars false
noncomputable def ybi (at_ nr:Int) (σ:yaL) (line z6 z7:Int) (x1:Str) (uv:Value) (q:List Addr) (rvs:List Value) (kvs:List (Int × Value)):Rho:=⟨[at_,nr,σ.hnd,σ.el,σ.fa,line,z6,z7],[σ.on],[yaj σ.num,x1],q,[rvs],[uv],[kvs]⟩
theorem ycB {ρf:List (Int × Value)->Rho} {on:C} {kn:List (Z × SV)} {kp:List (Z × Option SV)} (ap:([W,WD,FL,FD,RW,PL,R,RD,CT,CD]:List Addr).Nodup) (off:OwnOff tl [W,WD,FL,FD,RW,PL,R,RD,CT,CD]) (hlo:(PL==sysModules)=false)
 (G:yb2 W WD FL FD RW PL R RD CT CD w rvs sp σ gl) (hsz:rvs.length<=1000) (z1:∀kvs,(ρf kvs).z[1]? = some (rvs.length:Int)) (z2:∀kvs,(ρf kvs).z[2]? = some σ.hnd) (z3:∀kvs,(ρf kvs).z[3]? = some σ.el) (z4:∀kvs,(ρf kvs).z[4]? = some σ.fa) (hon:∀kvs,on.ev (ρf kvs)=some σ.on) (t0:∀kvs,(ρf kvs).t[0]? = some (yaj σ.num))
 (l0:∀kvs,(ρf kvs).l[0]? = some rvs) (k0:∀kvs,(ρf kvs).k[0]? = some kvs) (hkn:∀kvs as,∀p∈kn,DK (ρf kvs) as rvs p) (hkp:∀kvs as,SpotsAre kvs sp->∀p∈kp,DM (ρf kvs) as kvs p) :
 ∃kvs,SpotsAre kvs sp/\yae gl = [W,WD,FL,FD,RW,PL,R,RD,CT,CD]/\(yae gl).Nodup/\(∀p∈gl,∀q∈tl,q.1≠p.1)/\DOs w (ρf kvs) (yae gl) (osG (.v 2) on (.v 3) (.t 0) (.v 4) kn kp) gl:=by
 refine yab λGG hGG=>?_
 obtain ⟨wes,res,fes,ces,wn,rn,fn,cn,lw,kvs,po,th,te,tc,tf,tb,td,rfl,Hw,Hr,Hf,Hc,hpo,hsp⟩:=G
 have hk:yae (yl1 W WD R RD FL FD RW PL CT CD wes res fes ces wn rn fn cn lw rvs po) = [W,WD,FL,FD,RW,PL,R,RD,CT,CD]:=rfl
 refine hGG ?_;clear hGG GG
 refine ⟨kvs,hsp,hk,?_,λp hp q hq=>off q hq _ (hk▸List.mem_map_of_mem hp),yiD (ρ:=ρf kvs) Hw Hr Hf Hc hpo (z1 kvs) (z2 kvs) (z3 kvs) (z4 kvs) (hon kvs) (t0 kvs) (l0 kvs) (k0 kvs) hlo hsz (hkn kvs) (λas=>hkp kvs as hsp)⟩
 rw [hk];exact ap
theorem yds {on:C} {kn:List (Z × SV)} {kp:List (Z × Option SV)} {z6 z7:Int} {x1:Str} {uv:Value} {q:List Addr} (ap:([W,WD,FL,FD,RW,PL,R,RD,CT,CD]:List Addr).Nodup) (off:OwnOff tl [W,WD,FL,FD,RW,PL,R,RD,CT,CD]) (hlo:(PL==sysModules)=false)
 (G:yb2 W WD FL FD RW PL R RD CT CD w rvs sp σ gl) (hnr:(rvs.length:Int)=nr) (hnr2:nr<=100) (hon:∀kvs,on.ev (ybi at_ nr σ line z6 z7 x1 uv q rvs kvs)=some σ.on) (hkn:∀kvs as,∀p∈kn,DK (ybi at_ nr σ line z6 z7 x1 uv q rvs kvs) as rvs p)
 (hkp:∀kvs as,SpotsAre kvs sp->∀p∈kp,DM (ybi at_ nr σ line z6 z7 x1 uv q rvs kvs) as kvs p):∃kvs,SpotsAre kvs sp/\yae gl = [W,WD,FL,FD,RW,PL,R,RD,CT,CD]/\(yae gl).Nodup/\(∀p∈gl,∀q∈tl,q.1≠p.1)/\DOs w (ybi at_ nr σ line z6 z7 x1 uv q rvs kvs) (yae gl) (osG (.v 2) on (.v 3) (.t 0) (.v 4) kn kp) gl:=
 ycB (ρf:=ybi at_ nr σ line z6 z7 x1 uv q rvs) ap off hlo G (by omega) (λ_=>congrArg some hnr.symm) (λ_=>rfl) (λ_=>rfl) (λ_=>rfl) hon (λ_=>rfl) (λ_=>rfl) (λ_=>rfl) hkn hkp
theorem ybo {gl' r:Led} {ns':Led} (e:ns'=gl'++r):∀p∈gl'++tl,p∈ns'++tl:=λp hp=>by
 rw [e]
 rcases List.mem_append.mp hp with hp|hp
 ·exact List.mem_append_left _ (List.mem_append_left _ hp)
 ·exact List.mem_append_right _ hp
theorem yaS {gl' r:Led} {ns':Led} {i:Nat} {a:Addr} {o:Obj} (e:ns'=gl'++r) (hl:gl'.length<=i) (h:ns'[i]? = some (a,o)) (nd:(yae ns').Nodup) (off:∀p∈ns',∀q∈tl,q.1≠p.1):∀p∈gl'++tl,p.1≠a:=λp hp=>by
 rcases List.mem_append.mp hp with hp|hp
 ·rw [e,List.getElem?_append_right hl] at h
  rw [e,yae,List.map_append] at nd
  exact (List.nodup_append.mp nd).2.2 _ (List.mem_map_of_mem hp) _ (List.mem_map_of_mem (f:=(·.1)) (List.mem_of_getElem? h))
 ·exact off _ (List.mem_of_getElem? h) p hp
theorem yaJ {on:C} {kn:List (Z × SV)} {kp:List (Z × Option SV)} {qs:List SO} {pc:List C} {z6 z7:Int} {x1:Str} {uv:Value} {q:List Addr} {V:List Vw} (St0:Std w mean mg mb base (env::outer) s.heap) (hf:A.frames=some (env::outer)) (hh:A.handled=none) (hdp:A.depth<=460) (hun:A.units<=1800)
 (O:ybZ base (env::outer) s.heap (gl++tl)) (ap:([W,WD,FL,FD,RW,PL,R,RD,CT,CD]:List Addr).Nodup) (off:OwnOff tl [W,WD,FL,FD,RW,PL,R,RD,CT,CD]) (hlo:(PL==sysModules)=false)
 (G:yb2 W WD FL FD RW PL R RD CT CD w rvs sp σ gl) (hnr:(rvs.length:Int)=nr) (hnr2:nr<=100)
 (hgo:∀goal σ' u h' tk',yaA sp nr at_ st σ = .go goal σ'->yoE W WD FL FD RW PL R RD CT CD w rvs sp gl tl s.heap h' σ'->Q (.int goal u) {s with heap:=h',toks:=tk'})
 (hbad:∀f σ' e h' tk',yaA sp nr at_ st σ = .bad f σ'->ylJ W WD FL FD RW PL R RD CT CD w rvs sp base (env::outer) gl tl s.heap h' e f σ'->E (.ref e) {s with heap:=h',toks:=tk'})
 (hon:∀kvs,on.ev (ybi at_ nr σ line z6 z7 x1 uv q rvs kvs)=some σ.on)
 (hkn:∀kvs as,∀p∈kn,DK (ybi at_ nr σ line z6 z7 x1 uv q rvs kvs) as rvs p)
 (hkp:∀kvs as,SpotsAre kvs sp->∀p∈kp,DM (ybi at_ nr σ line z6 z7 x1 uv q rvs kvs) as kvs p)
 (pcs:∀kvs,∀C∈pc,C.ev (ybi at_ nr σ line z6 z7 x1 uv q rvs kvs)=some true)
 (tls:∀kvs,∀(i:Nat) (x:SO),qs[i]? = some x->DTl w tl (ybi at_ nr σ line z6 z7 x1 uv q rvs kvs) i x)
 (hv:(xSs (run YY 40) ⟨ya0.sc,139,false,true⟩ ya0.body ⟨(ya0.ps.zip [.r 6,.z (.v 0)]).reverse,[],osG (.v 2) on (.v 3) (.t 0) (.v 4) kn kp,qs,pc,none⟩).map view=V)
 (ends:∀kvs,∀x∈V,GoV (ybi at_ nr σ line z6 z7 x1 uv q rvs kvs) sp nr at_ st σ kn kp x):wpAny (MM w) A (call (.ref 909) [.ref R,.int at_ ta]) Q E s:=by
 refine yab λGG hGG=>?_
 obtain ⟨kvs,hsp,hk,nd,off',obs⟩:=yds (line:=line) (at_:=at_) ap off hlo G hnr hnr2 hon hkn hkp
 have dv:DVs (ybi at_ nr σ line z6 z7 x1 uv q rvs kvs) (yae gl) [.r 6,.z (.v 0)] [.ref R,.int at_ ta]:=by rw [hk];exact .cons ⟨R,rfl,rfl⟩ (.cons ⟨at_,ta,rfl,rfl⟩ .nil)
 refine hGG ?_;clear hGG GG
 refine ydn (yaR w) 40 (yjy w) St0 hf hh (Nat.le_trans (Nat.add_le_add_right (Nat.add_le_add_right hdp 1) 139) (by decide)) (Nat.le_trans (Nat.add_le_add_right (Nat.add_le_add_right hun 3) 417) (by decide)) O nd off' dv rfl obs (pcs kvs) (tls kvs) hv λx hx=>?_
 have hx:=ends kvs x hx
 have l0:(ybi at_ nr σ line z6 z7 x1 uv q rvs kvs).l[0]? = some rvs:=rfl
 have k0:(ybi at_ nr σ line z6 z7 x1 uv q rvs kvs).k[0]? = some kvs:=rfl
 generalize (ybi at_ nr σ line z6 z7 x1 uv q rvs kvs)=ρ at hx l0 k0
 rcases hx with ⟨g,v,e⟩|⟨hi,hj,x,c,t,v,e⟩
 ·intro ρ' ns' u h' tk' T du P
  refine yab λGG hGG=>?_
  obtain ⟨t,rfl⟩:=ybt du (Z.up T.up.z _ _ g)
  obtain ⟨gl',r,eg,hl',G'⟩:=ybh T.obs (hk▸T.up.a) (v.up T.up) (yad T.up.l _ l0) (yad T.up.k _ k0) hsp
  refine hGG ?_;clear hGG GG
  exact hgo _ _ _ _ _ e ⟨gl',G',P.kept,λp hp=>P.get p (ybo eg p hp),λp hp n=>P.new p (ybo eg p hp) n⟩
 ·have hl:gl.length=10:=by have:=congrArg List.length hk;rwa [List.length_map] at this
  refine ⟨hl▸hj,λρ' ns' ea D te oe oD h' tk' T h1 hT h2 F=>?_⟩
  refine yab λGG hGG=>?_
  cases (yaw h1).symm.trans hT
  obtain ⟨gl',r,eg,hl',G'⟩:=ybh T.obs (hk▸T.up.a) (v.up T.up) (yad T.up.l _ l0) (yad T.up.k _ k0) hsp
  refine hGG ?_;clear hGG GG
  refine hbad _ _ _ _ _ e ⟨gl',G',F _ _ (ydr (w:=w) (T.obs.all _ _ _ x h2) (yjC T.up _ c) t) λp hp=>⟨ybo eg p hp,yaS eg (hl'▸hi) h1 T.nd T.off p hp,yaS eg (hl'▸hj) h2 T.nd T.off p hp,yaS eg (hl'▸hi) h1 T.nd T.off p hp⟩⟩
end
theorem kn1 {at_ nr line z6 z7:Int} {σ:yaL} {x1:Str} {uv:Value} {a:Addr} {q:List Addr} {rvs:List Value} (a0:0<=at_) (h:rvs[at_.toNat]? = some (.ref a)):∀kvs as,∀p∈[(Z.v 0,SV.q 0)],DK (ybi at_ nr σ line z6 z7 x1 uv (a::q) rvs kvs) as rvs p:=
 λkvs as=>fC ⟨rfl,a0,h,a,rfl,rfl⟩ fN
theorem kp1 {sp:yao} {f:List (Int × Value)->Rho} {z:Z} {x:Option SV} (h:∀kvs as,SpotsAre kvs sp->DM (f kvs) as kvs (z,x)):∀(kvs:List (Int × Value)) (as:List Addr),SpotsAre kvs sp->∀p∈[(z,x)],DM (f kvs) as kvs p:=
 λkvs as s=>fC (h kvs as s) fN
inductive yjF (w:World) (tl:Led) (ρ:Rho) (x:SO) (a:Addr):Prop
 | mk {o:Obj} (m:(a,o)∈tl) (d:DO w ρ [] x a o):yjF w tl ρ x a
theorem ydT {w:World} {tl:Led} {ρ:Rho} {qs:List SO} (h:A2 (yjF w tl ρ) qs ρ.q):∀(i:Nat) (x:SO),qs[i]? = some x->DTl w tl ρ i x:=λi x hx=>by
 obtain ⟨a,ha,m,d⟩:=h.at hx
 exact ⟨ha,m,d⟩
section
variable {w:World} {mean:ExcName->Option Value} {mg mb:Str->Option Value} {base:Heap} {env:Env} {outer:List Env} {A:Around} {s:Shared} {Q E:Value->Shared->Prop}
variable {W WD FL FD RW PL R RD CT CD:Addr} {rvs:List Value} {rows:List (Int × St)} {sp:yao} {σ:yaL} {gl tl:List (Addr × Obj)} {nr at_ line:Int} {st:St} {ta:Tok}
set_option linter.unusedSectionVars false
theorem tl2 {kvs:List (Int × Value)} {z6 z7:Int} {x1:Str} {uv:Value} {a b:Addr} {n1 n2:Nat} {tk1:Tok} {vs:List Value} {es:List SV} (hm1:(a,yal [.int line tk1,.ref b] n1)∈tl) (hm2:(b,yal vs n2)∈tl) (h:DVs (ybi at_ nr σ line z6 z7 x1 uv [a,b] rvs kvs) [] es vs) :
  ∀(i:Nat) (x:SO),([.tup [.z (.v 5),.q 1],.tup es]:List SO)[i]? = some x->DTl w tl (ybi at_ nr σ line z6 z7 x1 uv [a,b] rvs kvs) i x:=
 ydT (.cons ⟨hm1,rfl,.cons ⟨line,tk1,rfl,rfl⟩ (.cons ⟨b,rfl,rfl⟩ .nil)⟩ (.cons ⟨hm2,rfl,h⟩ .nil))
theorem yhm {kvs:List (Int × Value)} {z6 z7:Int} {x1:Str} {uv:Value} {q:List Addr}:Vals (ybi at_ nr σ line z6 z7 x1 uv q rvs kvs) (.v 2) (.v 0) (.v 3) (.t 0) (.v 4) σ:=⟨rfl,rfl,rfl,rfl,rfl⟩
theorem yeX {kvs:List (Int × Value)} {z6 z7:Int} {x1:Str} {uv:Value} {q:List Addr} {b:Bool}:Vals (ybi at_ nr σ line z6 z7 x1 uv q rvs kvs) (.v 2) (.b b) (.v 3) (.t 0) (.v 4) {σ with on:=b}:=⟨rfl,rfl,rfl,rfl,rfl⟩
variable (St0:Std w mean mg mb base (env::outer) s.heap) (hf:A.frames=some (env::outer)) (hh:A.handled=none) (hdp:A.depth<=460) (hun:A.units<=1800)
 (O:ybZ base (env::outer) s.heap (gl++tl)) (ap:([W,WD,FL,FD,RW,PL,R,RD,CT,CD]:List Addr).Nodup) (off:OwnOff tl [W,WD,FL,FD,RW,PL,R,RD,CT,CD]) (hlo:(PL==sysModules)=false)
 (G:yb2 W WD FL FD RW PL R RD CT CD w rvs sp σ gl) (rw_:RowsAre tl rvs rows) (hnr:(rows.length:Int)=nr) (hnr2:nr<=100) (M:MOk sp nr σ) (l5:lk sp 5=none) (l0:lk sp 0=none)
 (a0:0<=at_) (hrow:rows[at_.toNat]? = some (line,st)) (ok:yeG sp nr st)
 (hgo:∀goal σ' u h' tk',yaA sp nr at_ st σ = .go goal σ'->yoE W WD FL FD RW PL R RD CT CD w rvs sp gl tl s.heap h' σ'->Q (.int goal u) {s with heap:=h',toks:=tk'})
 (hbad:∀f σ' e h' tk',yaA sp nr at_ st σ = .bad f σ'->ylJ W WD FL FD RW PL R RD CT CD w rvs sp base (env::outer) gl tl s.heap h' e f σ'->E (.ref e) {s with heap:=h',toks:=tk'})
include St0 hf hh hdp hun O ap off hlo G rw_ hnr hnr2 M l5 l0 a0 hrow ok hgo hbad
theorem yiP (e:st = .rem):wpAny (MM w) A (call (.ref 909) [.ref R,.int at_ ta]) Q E s:=by
 refine yab λGG hGG=>?_
 subst e
 obtain ⟨a,b,n1,tk1,hrv,hm1,hst⟩:=rw_.2 _ _ hrow
 obtain ⟨t1,t2,n2,hm2⟩:=ygj hst
 refine hGG ?_;clear hGG GG
 exact yaJ (on:=.v 0) (kn:=[(.v 0,.q 0)]) (kp:=[]) (pc:=[]) (z6:=0) (z7:=0) (x1:=Str.ofString "") (uv:=.none) (q:=[a,b]) (line:=line) (qs:=[.tup [.z (.v 5),.q 1],.tup [.s (Str.ofString "REM"),.s (Str.ofString "x")]])
  (V:=[.ret (.z (.add (.v 0) (.n 1))) (osG (.v 2) (.v 0) (.v 3) (.t 0) (.v 4) [(.v 0,.q 0)] [] ++ []) []]) St0 hf hh hdp hun O ap off hlo G ((congrArg Int.ofNat rw_.1).trans hnr) hnr2 hgo hbad
  (λ_=>rfl) (kn1 a0 hrv) (λ_ _ _=>fN) (λ_=>fN) (λkvs=>tl2 hm1 hm2 (.cons ⟨_,rfl⟩ (.cons ⟨_,rfl⟩ .nil))) (by kernel_rfl) λkvs=>fC (.ret rfl yhm rfl) fN
theorem yiQ (e:st = .fin):wpAny (MM w) A (call (.ref 909) [.ref R,.int at_ ta]) Q E s:=by
 refine yab λGG hGG=>?_
 subst e
 obtain ⟨a,b,n1,tk1,hrv,hm1,hst⟩:=rw_.2 _ _ hrow
 obtain ⟨t1,n2,hm2⟩:=ygk hst
 refine hGG ?_;clear hGG GG
 exact yaJ (on:=.v 0) (kn:=[(.v 0,.q 0)]) (kp:=[]) (pc:=[]) (z6:=0) (z7:=0) (x1:=Str.ofString "") (uv:=.none) (q:=[a,b]) (line:=line) (qs:=[.tup [.z (.v 5),.q 1],.tup [.s (Str.ofString "END")]])
  (V:=[.ret (.z (.v 1)) (osG (.v 2) (.b false) (.v 3) (.t 0) (.v 4) [(.v 0,.q 0)] [] ++ [.tup [.s (Str.ofString "END"),.r 0]]) []]) St0 hf hh hdp hun O ap off hlo G ((congrArg Int.ofNat rw_.1).trans hnr) hnr2 hgo hbad
  (λ_=>rfl) (kn1 a0 hrv) (λ_ _ _=>fN) (λ_=>fN) (λkvs=>tl2 hm1 hm2 (.cons ⟨_,rfl⟩ .nil)) (by kernel_rfl) λkvs=>fC (.ret rfl yeX rfl) fN
theorem yhn {o:How} (e:st = .resume o) (hon:σ.on=false):wpAny (MM w) A (call (.ref 909) [.ref R,.int at_ ta]) Q E s:=by
 refine yab λGG hGG=>?_
 subst e
 obtain ⟨a,b,n1,tk1,hrv,hm1,hst⟩:=rw_.2 _ _ hrow
 obtain ⟨t1,v,n2,hm2,hv⟩:=yaF hst
 refine hGG ?_;clear hGG GG
 exact yaJ (on:=.b false) (kn:=[(.v 0,.q 0)]) (kp:=[]) (pc:=[]) (z6:=0) (z7:=0) (x1:=Str.ofString "") (uv:=v) (q:=[a,b]) (line:=line) (qs:=[.tup [.z (.v 5),.q 1],.tup [.s (Str.ofString "RESUME"),.u 0]])
  (V:=[.exc 11 12 11 (osG (.v 2) (.b false) (.v 3) (.t 0) (.v 4) [(.v 0,.q 0)] [] ++ [.tup [.s (Str.ofString "RESUME"),.r 0],.exc 12,.exd (.s (Str.ofString "RW")) (.s (Str.ofString ""))]) []]) St0 hf hh hdp hun O ap off hlo G ((congrArg Int.ofNat rw_.1).trans hnr) hnr2 hgo hbad
  (λ_=>congrArg some hon.symm) (kn1 a0 hrv) (λ_ _ _=>fN) (λ_=>fN) (λkvs=>tl2 hm1 hm2 (.cons ⟨_,rfl⟩ (.cons rfl .nil))) (by kernel_rfl) λkvs=>fC (.exc (by decide) (by decide) rfl rfl (.inl rfl) ⟨rfl,congrArg some hon.symm,rfl,rfl,rfl⟩ (if_pos hon)) fN
theorem yft (e:st = .resume .none) (hon:σ.on=true):wpAny (MM w) A (call (.ref 909) [.ref R,.int at_ ta]) Q E s:=by
 refine yab λGG hGG=>?_
 subst e
 obtain ⟨a,b,n1,tk1,hrv,hm1,hst⟩:=rw_.2 _ _ hrow
 obtain ⟨t1,v,n2,hm2,hv⟩:=yaF hst
 obtain ⟨fa0,fa1⟩:=M.fa hon
 cases ygi hv
 refine hGG ?_;clear hGG GG
 exact yaJ (on:=.b true) (kn:=[(.v 0,.q 0)]) (kp:=[]) (pc:=[.not (.lt (.v 4) (.n 0))]) (z6:=0) (z7:=0) (x1:=Str.ofString "") (uv:=.none) (q:=[a,b]) (line:=line) (qs:=[.tup [.z (.v 5),.q 1],.tup [.s (Str.ofString "RESUME"),.no]])
  (V:=[.ret (.z (.add (.v 4) (.n 0))) (osG (.v 2) (.b false) (.v 3) (.t 0) (.v 4) [(.v 0,.q 0)] [] ++ [.tup [.s (Str.ofString "RESUME"),.r 0],.tup [.s (Str.ofString "place"),.z (.add (.v 4) (.n 0))]]) [.not (.lt (.v 4) (.n 0))]]) St0 hf hh hdp hun O ap off hlo G ((congrArg Int.ofNat rw_.1).trans hnr) hnr2 hgo hbad
  (λ_=>congrArg some hon.symm) (kn1 a0 hrv) (λ_ _ _=>fN) (λ_=>fC (congrArg (λx=>some !x) (decide_eq_false (Int.not_lt.mpr fa0))) fN) (λkvs=>tl2 hm1 hm2 (.cons ⟨_,rfl⟩ (.cons rfl .nil))) (by kernel_rfl) λkvs=>fC (.ret rfl yeX ((if_neg (by simp [hon])).trans (congrArg (λz=>Out.go z {σ with on:=false}) (Int.add_zero _).symm))) fN
theorem yfu (e:st = .resume .next) (hon:σ.on=true):wpAny (MM w) A (call (.ref 909) [.ref R,.int at_ ta]) Q E s:=by
 refine yab λGG hGG=>?_
 subst e
 obtain ⟨a,b,n1,tk1,hrv,hm1,hst⟩:=rw_.2 _ _ hrow
 obtain ⟨t1,v,n2,hm2,hv⟩:=yaF hst
 obtain ⟨fa0,fa1⟩:=M.fa hon
 obtain ⟨tv,rfl⟩:=ybG hv
 have hfl:(σ.fa+1 - 1).toNat<rows.length:=by omega
 obtain ⟨a2,b2,n3,tk3,hrv2,hm3,hst2⟩:=rw_.2 _ _ (List.getElem?_eq_getElem hfl)
 obtain ⟨x,tx,r,n4,hm4,hx⟩:=yd8 hst2
 have hx2:(x==Str.ofString "IFNOT")=false:=by
  simp only [List.mem_cons,List.not_mem_nil,or_false] at hx
  rcases hx with rfl|rfl|rfl|rfl|rfl|rfl<;>decide +kernel
 refine hGG ?_;clear hGG GG
 exact yaJ (on:=.b true) (kn:=[(.v 0,.q 0),(.sub (.add (.v 4) (.n 1)) (.n 1),.q 2)]) (kp:=[]) (pc:=[.not (.lt (.v 4) (.n 0)),.not (.tq 1 (Str.ofString "IFNOT"))]) (z6:=(rows[(σ.fa+1 - 1).toNat]'hfl).1) (z7:=0) (x1:=x) (uv:=.none) (q:=[a,b,a2,b2]) (line:=line) (qs:=[.tup [.z (.v 5),.q 1],.tup [.s (Str.ofString "RESUME"),.s (Str.ofString "NEXT")],.tup [.z (.v 6),.q 3],.pre [.t 1]])
  (V:=[.ret (.z (.add (.sub (.add (.v 4) (.n 1)) (.n 1)) (.n 1))) (osG (.v 2) (.b false) (.v 3) (.t 0) (.v 4) [(.v 0,.q 0),(.sub (.add (.v 4) (.n 1)) (.n 1),.q 2)] [] ++ [.tup [.s (Str.ofString "RESUME"),.r 0],.tup [.s (Str.ofString "place"),.z (.add (.v 4) (.n 1))]]) [.not (.lt (.v 4) (.n 0)),.not (.tq 1 (Str.ofString "IFNOT"))]]) St0 hf hh hdp hun O ap off hlo G ((congrArg Int.ofNat rw_.1).trans hnr) hnr2 hgo hbad
  (λ_=>congrArg some hon.symm) (λkvs as=>fC ⟨rfl,a0,hrv,a,rfl,rfl⟩ (fC ⟨rfl,(by omega:0<=σ.fa+1 - 1),hrv2,a2,rfl,rfl⟩ fN)) (λ_ _ _=>fN) (λ_=>fC (congrArg (λx=>some !x) (decide_eq_false (Int.not_lt.mpr fa0))) (fC (congrArg (λx=>some !x) hx2) fN)) (λkvs=>ydT (.cons ⟨hm1,rfl,.cons ⟨line,tk1,rfl,rfl⟩ (.cons ⟨b,rfl,rfl⟩ .nil)⟩ (.cons ⟨hm2,rfl,.cons ⟨_,rfl⟩ (.cons ⟨_,rfl⟩ .nil)⟩ (.cons ⟨hm3,rfl,.cons ⟨_,tk3,rfl,rfl⟩ (.cons ⟨b2,rfl,rfl⟩ .nil)⟩ (.cons ⟨hm4,⟨(rfl:_=yal ([Value.str x tx]++r) n4),.cons ⟨x,tx,rfl,rfl⟩ .nil⟩⟩ .nil))))) (by kernel_rfl) λkvs=>fC (.ret rfl yeX ((if_neg (by simp [hon])).trans (congrArg (λz=>Out.go z {σ with on:=false}) (by show σ.fa+1=σ.fa+1 - 1+1;omega)))) fN
theorem yk7 (e:st = .resume (.line 5)) (hon:σ.on=true):wpAny (MM w) A (call (.ref 909) [.ref R,.int at_ ta]) Q E s:=by
 refine yab λGG hGG=>?_
 subst e
 obtain ⟨a,b,n1,tk1,hrv,hm1,hst⟩:=rw_.2 _ _ hrow
 obtain ⟨t1,v,n2,hm2,hv⟩:=yaF hst
 obtain ⟨fa0,fa1⟩:=M.fa hon
 obtain ⟨tv,rfl⟩:=ycp hv
 refine hGG ?_;clear hGG GG
 exact yaJ (on:=.b true) (kn:=[(.v 0,.q 0)]) (kp:=[(.n 5,none)]) (pc:=[.not (.lt (.v 4) (.n 0))]) (z6:=0) (z7:=0) (x1:=Str.ofString "") (uv:=.none) (q:=[a,b]) (line:=line) (qs:=[.tup [.z (.v 5),.q 1],.tup [.s (Str.ofString "RESUME"),.z (.n 5)]])
  (V:=[.exc 11 12 11 (osG (.v 2) (.b true) (.v 3) (.t 0) (.v 4) [(.v 0,.q 0)] [(.n 5,none)] ++ [.tup [.s (Str.ofString "RESUME"),.r 0],.exc 12,.exd (.s (Str.ofString "UL")) (.z (.n 5))]) [.not (.lt (.v 4) (.n 0))]]) St0 hf hh hdp hun O ap off hlo G ((congrArg Int.ofNat rw_.1).trans hnr) hnr2 hgo hbad
  (λ_=>congrArg some hon.symm) (kn1 a0 hrv) (kp1 λkvs as h=>⟨rfl,(h.none l5).symm▸.none⟩) (λ_=>fC (congrArg (λx=>some !x) (decide_eq_false (Int.not_lt.mpr fa0))) fN) (λkvs=>tl2 hm1 hm2 (.cons ⟨_,rfl⟩ (.cons ⟨_,_,rfl,rfl⟩ .nil))) (by kernel_rfl) λkvs=>fC (.exc (by decide) (by decide) rfl rfl (.inr ⟨rfl,_,rfl⟩) ⟨rfl,congrArg some hon.symm,rfl,rfl,rfl⟩ ((if_neg (by simp [hon])).trans (if_pos rfl))) fN
theorem yfv {k i:Int} (e:st = .resume (.line k)) (hon:σ.on=true) (hi:lk sp k=some i):wpAny (MM w) A (call (.ref 909) [.ref R,.int at_ ta]) Q E s:=by
 refine yab λGG hGG=>?_
 subst e
 obtain ⟨a,b,n1,tk1,hrv,hm1,hst⟩:=rw_.2 _ _ hrow
 obtain ⟨t1,v,n2,hm2,hv⟩:=yaF hst
 obtain ⟨fa0,fa1⟩:=M.fa hon
 obtain ⟨tv,rfl⟩:=ycp hv
 have hk5:k≠5:=λz=>by rw [z,l5] at hi;cases hi
 refine hGG ?_;clear hGG GG
 exact yaJ (on:=.b true) (kn:=[(.v 0,.q 0)]) (kp:=[(.v 6,some (.z (.v 7)))]) (pc:=[.not (.lt (.v 4) (.n 0))]) (z6:=k) (z7:=i) (x1:=Str.ofString "") (uv:=.none) (q:=[a,b]) (line:=line) (qs:=[.tup [.z (.v 5),.q 1],.tup [.s (Str.ofString "RESUME"),.z (.v 6)]])
  (V:=[.ret (.z (.v 7)) (osG (.v 2) (.b false) (.v 3) (.t 0) (.v 4) [(.v 0,.q 0)] [(.v 6,some (.z (.v 7)))] ++ [.tup [.s (Str.ofString "RESUME"),.r 0],.tup [.s (Str.ofString "line"),.z (.v 6)]]) [.not (.lt (.v 4) (.n 0))]]) St0 hf hh hdp hun O ap off hlo G ((congrArg Int.ofNat rw_.1).trans hnr) hnr2 hgo hbad
  (λ_=>congrArg some hon.symm) (kn1 a0 hrv) (kp1 λkvs as h=>⟨rfl,by obtain ⟨t,e⟩:=h.some hi;rw [e];exact .some ⟨i,t,rfl,rfl⟩⟩) (λ_=>fC (congrArg (λx=>some !x) (decide_eq_false (Int.not_lt.mpr fa0))) fN) (λkvs=>tl2 hm1 hm2 (.cons ⟨_,rfl⟩ (.cons ⟨_,_,rfl,rfl⟩ .nil))) (by kernel_rfl) λkvs=>fC (.ret rfl yeX ((if_neg (by simp [hon])).trans ((if_neg hk5).trans (by rw [hi];rfl)))) fN
theorem yiR (e:st = .onerr 5):wpAny (MM w) A (call (.ref 909) [.ref R,.int at_ ta]) Q E s:=by
 refine yab λGG hGG=>?_
 subst e
 obtain ⟨a,b,n1,tk1,hrv,hm1,hst⟩:=rw_.2 _ _ hrow
 obtain ⟨t1,t2,n2,hm2⟩:=ya2 hst
 refine hGG ?_;clear hGG GG
 exact yaJ (on:=.v 0) (kn:=[(.v 0,.q 0)]) (kp:=[(.n 5,none)]) (pc:=[]) (z6:=0) (z7:=0) (x1:=Str.ofString "") (uv:=.none) (q:=[a,b]) (line:=line) (qs:=[.tup [.z (.v 5),.q 1],.tup [.s (Str.ofString "ONERR"),.z (.n 5)]])
  (V:=[.exc 11 12 11 (osG (.v 2) (.v 0) (.v 3) (.t 0) (.v 4) [(.v 0,.q 0)] [(.n 5,none)] ++ [.tup [.s (Str.ofString "ONERR"),.r 0],.exc 12,.exd (.s (Str.ofString "UL")) (.z (.n 5))]) []]) St0 hf hh hdp hun O ap off hlo G ((congrArg Int.ofNat rw_.1).trans hnr) hnr2 hgo hbad
  (λ_=>rfl) (kn1 a0 hrv) (kp1 λkvs as h=>⟨rfl,(h.none l5).symm▸.none⟩) (λ_=>fN) (λkvs=>tl2 hm1 hm2 (.cons ⟨_,rfl⟩ (.cons ⟨_,_,rfl,rfl⟩ .nil))) (by kernel_rfl) λkvs=>fC (.exc (by decide) (by decide) rfl rfl (.inr ⟨rfl,_,rfl⟩) yhm rfl) fN
theorem yho (e:st = .onerr 0) (hon:σ.on=false):wpAny (MM w) A (call (.ref 909) [.ref R,.int at_ ta]) Q E s:=by
 refine yab λGG hGG=>?_
 subst e
 obtain ⟨a,b,n1,tk1,hrv,hm1,hst⟩:=rw_.2 _ _ hrow
 obtain ⟨t1,t2,n2,hm2⟩:=ya2 hst
 refine hGG ?_;clear hGG GG
 exact yaJ (on:=.b false) (kn:=[(.v 0,.q 0)]) (kp:=[]) (pc:=[]) (z6:=0) (z7:=0) (x1:=Str.ofString "") (uv:=.none) (q:=[a,b]) (line:=line) (qs:=[.tup [.z (.v 5),.q 1],.tup [.s (Str.ofString "ONERR"),.z (.n 0)]])
  (V:=[.ret (.z (.add (.v 0) (.n 1))) (osG (.n 0) (.b false) (.v 3) (.t 0) (.v 4) [(.v 0,.q 0)] [] ++ [.tup [.s (Str.ofString "ONERR"),.r 0]]) []]) St0 hf hh hdp hun O ap off hlo G ((congrArg Int.ofNat rw_.1).trans hnr) hnr2 hgo hbad
  (λ_=>congrArg some hon.symm) (kn1 a0 hrv) (λ_ _ _=>fN) (λ_=>fN) (λkvs=>tl2 hm1 hm2 (.cons ⟨_,rfl⟩ (.cons ⟨_,_,rfl,rfl⟩ .nil))) (by kernel_rfl) λkvs=>fC (.ret (σ':={σ with hnd:=0}) rfl ⟨rfl,congrArg some hon.symm,rfl,rfl,rfl⟩ (show yaA sp nr at_ (.onerr 0) σ = .go (at_+1) {σ with hnd:=0} from if_neg (λz=>by simp [hon] at z))) fN
theorem yhp (e:st = .onerr 0) (hon:σ.on=true):wpAny (MM w) A (call (.ref 909) [.ref R,.int at_ ta]) Q E s:=by
 refine yab λGG hGG=>?_
 subst e
 obtain ⟨a,b,n1,tk1,hrv,hm1,hst⟩:=rw_.2 _ _ hrow
 obtain ⟨t1,t2,n2,hm2⟩:=ya2 hst
 refine hGG ?_;clear hGG GG
 exact yaJ (on:=.b true) (kn:=[(.v 0,.q 0)]) (kp:=[]) (pc:=[]) (z6:=0) (z7:=0) (x1:=Str.ofString "") (uv:=.none) (q:=[a,b]) (line:=line) (qs:=[.tup [.z (.v 5),.q 1],.tup [.s (Str.ofString "ONERR"),.z (.n 0)]])
  (V:=[.exc 11 12 11 (osG (.n 0) (.b true) (.v 3) (.t 0) (.v 4) [(.v 0,.q 0)] [] ++ [.tup [.s (Str.ofString "ONERR"),.r 0],.exc 12,.exd (.t 0) (.s (Str.ofString ""))]) []]) St0 hf hh hdp hun O ap off hlo G ((congrArg Int.ofNat rw_.1).trans hnr) hnr2 hgo hbad
  (λ_=>congrArg some hon.symm) (kn1 a0 hrv) (λ_ _ _=>fN) (λ_=>fN) (λkvs=>tl2 hm1 hm2 (.cons ⟨_,rfl⟩ (.cons ⟨_,_,rfl,rfl⟩ .nil))) (by kernel_rfl) λkvs=>fC (.exc (σ':={σ with hnd:=0}) (by decide) (by decide) rfl rfl (.inl rfl) ⟨rfl,congrArg some hon.symm,rfl,rfl,rfl⟩ (show yaA sp nr at_ (.onerr 0) σ = .bad σ.num {σ with hnd:=0} from if_pos ⟨rfl,hon⟩)) fN
theorem yen {k i:Int} (e:st = .onerr k) (hi:lk sp k=some i):wpAny (MM w) A (call (.ref 909) [.ref R,.int at_ ta]) Q E s:=by
 refine yab λGG hGG=>?_
 subst e
 obtain ⟨a,b,n1,tk1,hrv,hm1,hst⟩:=rw_.2 _ _ hrow
 obtain ⟨t1,t2,n2,hm2⟩:=ya2 hst
 have hk5:k≠5:=λz=>by rw [z,l5] at hi;cases hi
 have hk0:k≠0:=λz=>by rw [z,l0] at hi;cases hi
 refine hGG ?_;clear hGG GG
 exact yaJ (on:=.v 0) (kn:=[(.v 0,.q 0)]) (kp:=[(.v 6,some (.z (.v 7)))]) (pc:=[.not (.eq (.v 6) (.n 0))]) (z6:=k) (z7:=i) (x1:=Str.ofString "") (uv:=.none) (q:=[a,b]) (line:=line) (qs:=[.tup [.z (.v 5),.q 1],.tup [.s (Str.ofString "ONERR"),.z (.v 6)]])
  (V:=[.ret (.z (.add (.v 0) (.n 1))) (osG (.v 6) (.v 0) (.v 3) (.t 0) (.v 4) [(.v 0,.q 0)] [(.v 6,some (.z (.v 7)))] ++ [.tup [.s (Str.ofString "ONERR"),.r 0]]) [.not (.eq (.v 6) (.n 0))]]) St0 hf hh hdp hun O ap off hlo G ((congrArg Int.ofNat rw_.1).trans hnr) hnr2 hgo hbad
  (λ_=>rfl) (kn1 a0 hrv) (kp1 λkvs as h=>⟨rfl,by obtain ⟨t,e⟩:=h.some hi;rw [e];exact .some ⟨i,t,rfl,rfl⟩⟩) (λ_=>fC (congrArg (λx=>some !x) (decide_eq_false hk0)) fN) (λkvs=>tl2 hm1 hm2 (.cons ⟨_,rfl⟩ (.cons ⟨_,_,rfl,rfl⟩ .nil))) (by kernel_rfl) λkvs=>fC (.ret (σ':={σ with hnd:=k}) rfl ⟨rfl,rfl,rfl,rfl,rfl⟩ (show yaA sp nr at_ (.onerr k) σ = .go (at_+1) {σ with hnd:=k} from (if_neg hk5).trans (if_neg λz=>hk0 z.1))) fN
theorem yfw {k:Int} (e:st = .error k):wpAny (MM w) A (call (.ref 909) [.ref R,.int at_ ta]) Q E s:=by
 refine yab λGG hGG=>?_
 subst e
 obtain ⟨a,b,n1,tk1,hrv,hm1,hst⟩:=rw_.2 _ _ hrow
 obtain ⟨t1,c,n2,t2,t3,n3,hm2,hm3⟩:=ybO hst
 have hk:k∈([5,1,16,21,30,200,255,0,256]:List Int):=ok
 refine hGG ?_;clear hGG GG
 by_cases hr:1<=k/\k<=255
 ·have hc:codes.contains k=true:=(by decide:∀k∈([5,1,16,21,30,200,255,0,256]:List Int),1<=k/\k<=255->codes.contains k=true) k hk hr
  exact yaJ (on:=.v 0) (kn:=[(.v 0,.q 0)]) (kp:=[]) (pc:=[.le (.n 0) (.v 6),.le (.v 6) (.n 1000),.le (.n 1) (.v 6),.le (.v 6) (.n 255),.cod 1 (.v 6)]) (z6:=k) (z7:=0) (x1:=yaj k) (uv:=.none) (q:=[a,b,c]) (line:=line) (qs:=[.tup [.z (.v 5),.q 1],.tup [.s (Str.ofString "ERROR"),.q 2],.tup [.s (Str.ofString "whole"),.z (.v 6)]])
   (V:=[.exc 11 12 11 (osG (.v 2) (.v 0) (.v 3) (.t 0) (.v 4) [(.v 0,.q 0)] [] ++ [.tup [.s (Str.ofString "ERROR"),.r 0],.exc 12,.exd (.t 1) (.s (Str.ofString ""))]) [.le (.n 0) (.v 6),.le (.v 6) (.n 1000),.le (.n 1) (.v 6),.le (.v 6) (.n 255),.cod 1 (.v 6)]]) St0 hf hh hdp hun O ap off hlo G ((congrArg Int.ofNat rw_.1).trans hnr) hnr2 hgo hbad
   (λ_=>rfl) (kn1 a0 hrv) (λ_ _ _=>fN) (λ_=>fC (congrArg some (decide_eq_true (by omega:0<=k))) (fC (congrArg some (decide_eq_true (by omega:k<=1000))) (fC (congrArg some (decide_eq_true hr.1)) (fC (congrArg some (decide_eq_true hr.2)) (fC (congrArg some (Bool.and_eq_true_iff.mpr ⟨beq_iff_eq.mpr rfl,hc⟩)) fN)))))
   (λkvs=>ydT (.cons ⟨hm1,rfl,.cons ⟨line,tk1,rfl,rfl⟩ (.cons ⟨b,rfl,rfl⟩ .nil)⟩ (.cons ⟨hm2,rfl,.cons ⟨_,rfl⟩ (.cons ⟨c,rfl,rfl⟩ .nil)⟩ (.cons ⟨hm3,rfl,.cons ⟨_,rfl⟩ (.cons ⟨k,t3,rfl,rfl⟩ .nil)⟩ .nil)))) (by kernel_rfl) λkvs=>fC (.exc (by decide) (by decide) rfl rfl (.inl rfl) yhm (show yaA sp nr at_ (.error k) σ = .bad k σ from congrArg (Out.bad · σ) (if_pos (by omega)))) fN
 ·have h2:k=0∨k=256:=(by decide:∀k∈([5,1,16,21,30,200,255,0,256]:List Int),¬(1<=k/\k<=255)->k=0∨k=256) k hk hr
  have fc:∀(z:Z),(∀kvs,z.ev (ybi at_ nr σ line 0 0 (Str.ofString "") .none [a,b,c] rvs kvs).z=some k)->(xSs (run YY 40) ⟨ya0.sc,139,false,true⟩ ya0.body ⟨(ya0.ps.zip [.r 6,.z (.v 0)]).reverse,[],osG (.v 2) (.v 0) (.v 3) (.t 0) (.v 4) [(.v 0,.q 0)] [],[.tup [.z (.v 5),.q 1],.tup [.s (Str.ofString "ERROR"),.q 2],.tup [.s (Str.ofString "whole"),.z z]],[],none⟩).map view = [.exc 11 12 11 (osG (.v 2) (.v 0) (.v 3) (.t 0) (.v 4) [(.v 0,.q 0)] [] ++ [.tup [.s (Str.ofString "ERROR"),.r 0],.exc 12,.exd (.s (Str.ofString "FC")) (.s (Str.ofString ""))]) []]->wpAny (MM w) A (call (.ref 909) [.ref R,.int at_ ta]) Q E s:=λz hz hv=>
   yaJ (on:=.v 0) (kn:=[(.v 0,.q 0)]) (kp:=[]) (pc:=[]) (z6:=0) (z7:=0) (x1:=Str.ofString "") (uv:=.none) (q:=[a,b,c]) (line:=line) (qs:=[.tup [.z (.v 5),.q 1],.tup [.s (Str.ofString "ERROR"),.q 2],.tup [.s (Str.ofString "whole"),.z z]]) St0 hf hh hdp hun O ap off hlo G ((congrArg Int.ofNat rw_.1).trans hnr) hnr2 hgo hbad (λ_=>rfl) (kn1 a0 hrv) (λ_ _ _=>fN) (λ_=>fN)
    (λkvs=>ydT (.cons ⟨hm1,rfl,.cons ⟨line,tk1,rfl,rfl⟩ (.cons ⟨b,rfl,rfl⟩ .nil)⟩ (.cons ⟨hm2,rfl,.cons ⟨_,rfl⟩ (.cons ⟨c,rfl,rfl⟩ .nil)⟩ (.cons ⟨hm3,rfl,.cons ⟨_,rfl⟩ (.cons ⟨k,t3,hz kvs,rfl⟩ .nil)⟩ .nil)))) hv λkvs=>fC (.exc (by decide) (by decide) rfl rfl (.inl rfl) yhm (show yaA sp nr at_ (.error k) σ = .bad 5 σ from congrArg (Out.bad · σ) (if_neg (by omega)))) fN
  rcases h2 with rfl|rfl
  ·exact fc (.n 0) (λ_=>rfl) (by kernel_rfl)
  ·exact fc (.n 256) (λ_=>rfl) (by kernel_rfl)
end
set_option backward.match.sparseCases true
set_option genSizeOfSpec false
set_option genInjectivity false
noncomputable abbrev Cx.cgt (c:Cx) (e:Addr) (g':Heap) (E':Value->Shared->Prop):Cx:=⟨c.w,c.cn,c.sc,c.L,c.fa,c.cd,c.cl,g',c.s,E',c.tl,c.A₀.mark (some (.ref e)),c.base,c.outer⟩
inductive CgtOk (e D T:Addr) (oe oT:Obj):Prop
 | mk {vs:Array Value} {a1:Value} (c:oe.cls = .ref 41) (d:oe.dict=some D) (f:oe.data = .fields vs) (g:yjk vs a1) (h:vs[1]? = some (.ref T)) (t:DTb oT):CgtOk e D T oe oT
theorem CgtOk.do {e D T:Addr} {oe oT:Obj} (k:CgtOk e D T oe oT) {as:List Addr} {d t:Nat} (hd:as[d]? = some D) (ht:as[t]? = some T):yoI as d t oe:=by
 refine yab λGG hGG=>?_
 obtain ⟨k1,k2,k3,k4,k5,k6⟩:=k
 refine hGG ?_;clear hGG GG
 exact ⟨hd,ht,k1,k2,k3,k4,k5⟩
noncomputable abbrev ycg (c:Cx) (e:Addr) (n:Str) (pos:Pos):Value->Shared->Prop:=
 AsSuiteRaised (MM c.w) (c.A.mark (some (.ref e))) c.env n pos (notedBy (MM c.w) (c.A.mark (some (.ref e))) c.env (cameBackBy (MM c.w) c.A c.env c.E))
section
variable {c:Cx} {m:Map} {ns:Led} {G h:Heap} {tk:Nat} {e D:Addr} {a0:Value} {oD:Obj}
theorem yeo (f:c.Fit) {e:Addr} {g':Heap} {E':Value->Shared->Prop} (B:Below c.A₀ c.base c.outer g'):(c.cgt e g' E').Fit:=⟨f.XB,f.TB,f.fn,f.dbg,⟨B.stack,B.stays,B.frames⟩⟩
theorem yc2 {n x:Str} {b₀:Stmt} {suite:List Stmt} {pos np:Pos} {more:List ExceptHandler} {Q:Flow->Shared->Prop} (f:c.Fit) (hcl:c.cl = []) (R:RaisedX c.base G (c.env::c.outer) e (.ref 41) a0 (some D) ((D,oD)::(ns++c.tl)) h) (F:Fr c.g c.L G m)
  (ex:nsIn (KK c.w.params) mainGlobals x=some (some (.ref 41))) (hlo:c.sc.names.lookup n=some .local) (hx:c.sc.names.lookup x=some .globalImplicit) (hd:(x==("__debug__" : Str))=false) (nd:(yae ns).Nodup) (off:∀p∈ns,∀q∈c.tl,q.1≠p.1) (nD:∀p∈ns++c.tl,p.1≠D)
  (k:∀g' h' T oe oT tk',KtsTurn (frs c.outer) c.g g'->Below c.A₀ c.base c.outer g'->Is (c.cgt e g' (ycg c e n pos)) (λy=>if y=n then some (.ref e) else m y) (ns ++ [(D,oD)] ++ [(e,oe)] ++ [(T,oT)]) h'->CgtOk e D T oe oT ->
   wpAny (MM c.w) (c.A.mark (some (.ref e))) (execs (b₀::suite) c.env) (λfl s₄=>wpAny (MM c.w) c.A (do bindName c.env n .none;unbindBehindTheSuite c.env n pos) (λ_ s₅=>Q fl s₅) c.E s₄) (ycg c e n pos) (c.st h' tk')) :
  wpAny (MM c.w) c.A (noteFrame (.ref e) c.env) (λ_ s₂=>wpAny (MM c.w) c.A (setFlight (.ref e) none) (λ_ s₃=>wpAny (MM c.w) c.A (handleBy (.ref e) c.env (.ExceptHandler (some (.Name x np)) (some n) (b₀::suite) pos::more)) Q c.E s₃) c.E s₂) c.E (c.st h tk):=by
 refine yab λGG hGG=>?_
 obtain ⟨w,cn,sc,L0,fa,cd,cl,g0,s,E,tl,A₀,base,outer⟩:=c
 cases hcl
 obtain ⟨mean,mg,mb,TB⟩:=f.TB
 refine hGG ?_;clear hGG GG
 refine yfX R F f.B f.XB TB ex yr7 (λh' g' oe T oT vs ts fl tk' kt F' N' ne1 ne2 ne3 c1 c2 c3 c4 c5 c6 c7 B' X' T'=>?_) f.fn hlo hx hd
 have i0:Is (Cx.cgt ⟨w,cn,sc,L0,fa,cd,[],g0,s,E,tl,A₀,base,outer⟩ e g' (ycg ⟨w,cn,sc,L0,fa,cd,[],g0,s,E,tl,A₀,base,outer⟩ e n pos)) (λy=>if y=n then some (.ref e) else m y) ns h':=⟨F',λq hq=>N' q (.tail _ (.tail _ (.tail _ hq))),nd,off⟩
 have i1:=i0.snoc (d:=D) (o:=oD) F' (λq hq=>(List.mem_cons.mp hq).elim (λz=>z▸N' _ (.tail _ (.tail _ (.head _)))) λz=>i0.N q z) nD
 have s1:∀q∈ns ++ [(D,oD)]++tl,q∈(D,oD)::(ns++tl):=λq hq=>by
  rw [List.append_assoc] at hq
  rcases List.mem_append.mp hq with z|z
  ·exact .tail _ (List.mem_append_left _ z)
  rcases List.mem_cons.mp z with z|z
  ·exact z▸.head _
  ·exact .tail _ (List.mem_append_right _ z)
 have i2:=i1.snoc (d:=e) (o:=oe) F' (λq hq=>(List.mem_cons.mp hq).elim (λz=>z▸N' _ (.head _)) λz=>i1.N q z) λq hq=>ne2 q (s1 q hq)
 have i3:=i2.snoc (d:=T) (o:=oT) F' (λq hq=>(List.mem_cons.mp hq).elim (λz=>z▸N' _ (.tail _ (.head _))) λz=>i2.N q z) λq hq=>by
  rw [List.append_assoc] at hq
  rcases List.mem_append.mp hq with z|z
  ·exact ne3 q (s1 q (List.mem_append_left _ z))
  rcases List.mem_cons.mp z with z|z
  ·exact z▸ne1
  ·exact ne3 q (s1 q (List.mem_append_right _ z))
 exact k g' h' T oe oT tk' kt B' i3 ⟨c1,c2,c3,c4,c5,c6,c7⟩
theorem ydU {n:Str} {pos:Pos} {g':Heap} {E' E:Value->Shared->Prop} {Q:Unit->Shared->Prop} (f:c.Fit) (hlo:c.sc.names.lookup n=some .local) (i:Is (c.cgt e g' E') m ns h) (k:∀h' m' tk',Fr g' c.L h' m'->News g' c.L h' (ns++c.tl)->Q () (c.st h' tk')) :
  wpAny (MM c.w) c.A (do bindName c.env n .none;unbindBehindTheSuite c.env n pos) Q E (c.st h tk):=
 wpAny_nameGoes hlo i.F.ns (by show (c.sc.kind == .class || (c.sc.kind == .module && c.L != mainGlobals))=false;rw [f.fn];rfl) λh' m' hn hs=>k h' m' (tk+1) (i.F.set hn hs) (i.N.set hs)
theorem yfx {n:Str} {pos:Pos} {g':Heap} {e':Addr} {m':Map} {od:Option Addr} {rest:Led} (f:c.Fit) (hcl:c.cl = []) (B:Below c.A₀ c.base c.outer g') (hlo:c.sc.names.lookup n=some .local) (R:RaisedX c.base G (c.env::c.outer) e' (.ref 41) a0 od rest h) (F:Fr g' c.L G m')
  (hE:PassesOwnAt (MM c.w) (c.A.mark (some (.ref e))) c.A c.env c.E) (k:∀h' tk',RaisedX c.base g' (c.env::c.outer) e' (.ref 41) a0 od rest h'->c.E (.ref e') (c.st h' tk')):ycg c e n pos (.ref e') (c.st h tk):=by
 refine yab λGG hGG=>?_
 obtain ⟨w,cn,sc,L0,fa,cd,cl,g0,s,E,tl,A₀,base,outer⟩:=c
 cases hcl
 refine hGG ?_;clear hGG GG
 exact ygb (hdl:=some (.ref e)) R F B hE k f.fn hlo
theorem yep {final:List Stmt} {i j:Nat} {oe0:Obj} {E2:Value->Shared->Prop} {Q:Flow->Shared->Prop} (f:c.Fit) (hcl:c.cl = []) (R:RaisedX c.base G (c.env::c.outer) e (.ref 41) a0 (some D) ((D,oD)::(less ns e D e++c.tl)) h) (F:Fr c.g c.L G m)
  (i1:ns[i]? = some (e,oe0)) (i2:ns[j]? = some (D,oD)) (nd:(yae ns).Nodup) (off:∀p∈ns,∀q∈c.tl,q.1≠p.1)
  (k:∀g' h' T oe oT,KtsTurn (frs c.outer) c.g g'->Below c.A₀ c.base c.outer g'->Is (c.cgt e g' (notedBy (MM c.w) (c.A.mark (some (.ref e))) c.env (cameBackBy (MM c.w) c.A c.env c.E))) m (ns.set i (e,oe) ++ [(T,oT)]) h'->CgtOk e D T oe oT ->
   wpAny (MM c.w) (c.A.mark (some (.ref e))) (execs final c.env) (λgf s₂=>match gf with | .next=>wpAny (MM c.w) c.A (PySem.passOn "try.finally" (.ref e) c.env) Q c.E s₂|gf=>wpAny (MM c.w) c.A (setFlight (.ref e) none) (λ_ s₃=>Q gf s₃) c.E s₂)
    (notedBy (MM c.w) (c.A.mark (some (.ref e))) c.env (cameBackBy (MM c.w) c.A c.env c.E)) (c.st h' tk)) :
  wpAny (MM c.w) c.A (noteFrame (.ref e) c.env) (λ_ s₂=>FinallyRaised (PySem.Challenge.rw_pf0025_01.row.prog) c.w c.A c.E c.env final Q (.ref e) s₂) E2 (c.st h tk):=by
 refine yab λGG hGG=>?_
 obtain ⟨w,cn,sc,L0,fa,cd,cl,g0,s,E,tl,A₀,base,outer⟩:=c
 cases hcl
 obtain ⟨mean,mg,mb,TB⟩:=f.TB
 refine hGG ?_;clear hGG GG
 refine yfe R F f.B f.XB TB λh' g' oe T oT vs ts fl kt F' N' ne1 ne2 ne3 c1 c2 c3 c4 c5 c6 c7 B' X' T'=>?_
 have s1:∀q∈ns++tl,q.1≠e->q∈(D,oD)::(less ns e D e++tl):=λq hq ne=>by
  rcases List.mem_append.mp hq with z|z
  ·by_cases qD:q.1=D
   ·obtain ⟨i',hi'⟩:=List.getElem?_of_mem z
    have:=(List.getElem?_inj (List.getElem?_eq_some_iff.mp (yaw i2)).1 nd).mp ((yaw i2).trans (qD▸yaw (a:=q.1) (o:=q.2) hi').symm)
    rw [this] at i2
    exact Option.some.inj (hi'.symm.trans i2)▸.head _
   ·exact .tail _ (List.mem_append_left _ (List.mem_filter.mpr ⟨z,Bool.and_eq_true_iff.mpr ⟨Bool.and_eq_true_iff.mpr ⟨bne_iff_ne.mpr ne,bne_iff_ne.mpr qD⟩,bne_iff_ne.mpr ne⟩⟩))
  ·exact .tail _ (List.mem_append_right _ z)
 have i0:Is (Cx.cgt ⟨w,cn,sc,L0,fa,cd,[],g0,s,E,tl,A₀,base,outer⟩ e g' (notedBy (MM w) (Around.mark (A₀.deeper (envX cn sc L0 fa cd [])) (some (.ref e))) (envX cn sc L0 fa cd []) (cameBackBy (MM w) (A₀.deeper (envX cn sc L0 fa cd [])) (envX cn sc L0 fa cd []) E))) m (ns.set i (e,oe)) h':=by
  have ek:=yaU (o':=oe) i1
  refine ⟨F',λq hq=>?_,by rw [ek];exact nd,λp hp q hq=>?_⟩
  ·rcases List.mem_append.mp hq with z|z
   ·rcases List.mem_or_eq_of_mem_set z with z|z
    ·by_cases qe:q.1=e
     ·refine yab λGG hGG=>?_
      obtain ⟨i',hi'⟩:=List.getElem?_of_mem (List.mem_append_left tl (show q∈ns.set i (e,oe) by assumption))
      obtain ⟨i',hi'⟩:=List.getElem?_of_mem (show q∈ns.set i (e,oe) by assumption)
      have hk:=yaw (a:=q.1) (o:=q.2) hi'
      rw [ek,qe] at hk
      refine hGG ?_;clear hGG GG
      have:=(List.getElem?_inj (List.getElem?_eq_some_iff.mp (yaw i1)).1 nd).mp ((yaw i1).trans hk.symm)
      rw [<-this,List.getElem?_set_self (List.getElem?_eq_some_iff.mp i1).1] at hi'
      exact Option.some.inj hi'▸N' _ (.head _)
     ·exact N' q (.tail _ (.tail _ (s1 q (List.mem_append_left _ z) qe)))
    ·exact z▸N' _ (.head _)
   ·exact N' q (.tail _ (.tail _ (.tail _ (List.mem_append_right _ z))))
  ·have:p.1∈yae ns:=ek▸List.mem_map_of_mem hp
   obtain ⟨p',hp',e'⟩:=List.mem_map.mp this
   rw [<-e'];exact off p' hp' q hq
 refine k g' h' T oe oT kt B' (i0.snoc F' (λq hq=>(List.mem_cons.mp hq).elim (λz=>z▸N' _ (.tail _ (.head _))) λz=>i0.N q z) λq hq=>?_) ⟨c1,c2,c3,c4,c5,c6,c7⟩
 by_cases qe:q.1=e
 ·exact qe▸ne1
 ·rcases List.mem_append.mp hq with z|z
  ·rcases List.mem_or_eq_of_mem_set z with z|z
   ·exact ne3 q (s1 q (List.mem_append_left _ z) qe)
   ·exact absurd (congrArg (·.1) z) qe
  ·exact ne3 q (.tail _ (List.mem_append_right _ z))
end
noncomputable abbrev Cx.wE (c:Cx) (E':Value->Shared->Prop):Cx:=⟨c.w,c.cn,c.sc,c.L,c.fa,c.cd,c.cl,c.g,c.s,E',c.tl,c.A₀,c.base,c.outer⟩
section
variable {c:Cx} {m m':Map} {ns ns':Led} {h:Heap} {ρ ρ':Rho} {mm:List (Str × SV)} {os qs:List SO} {pc:List C} {p:Pl}
theorem Cx.At.wE (f:c.At p) {E':Value->Shared->Prop}:(c.wE E').At p:=⟨⟨f.f.XB,f.f.TB,f.f.fn,f.f.dbg,f.f.B⟩,f.sc,f.dp,f.un,f.cl,f.hh⟩
theorem Is.wE (i:Is c m ns h) {E':Value->Shared->Prop}:Is (c.wE E') m ns h:=⟨i.F,i.N,i.nd,i.off⟩
theorem Den.wE {S:SS} (d:Den c ρ S m ns) {E':Value->Shared->Prop}:Den (c.wE E') ρ S m ns:=⟨d.loc,d.obs,d.pcs,d.tls,d.cls,d.hx⟩
theorem yfy {i j:Nat} {e D T:Addr} {oe0 oe oT oD:Obj} (loc:∀x,DQ ρ' (yae ns') (mm.lookup x) (m' x)) (obs:DOs c.w ρ' (yae ns') os ns') (pcs:∀C∈pc,C.ev ρ'=some true) (i1:ns'[i]? = some (e,oe0)) (i2:ns'[j]? = some (D,oD)) (k:CgtOk e D T oe oT) :
  Den c ρ' ⟨mm,[],(os ++ [SO.tb]).set i (.cgt j os.length),[],pc,none⟩ m' (ns'.set i (e,oe) ++ [(T,oT)]):=by
 have d0:Den c ρ' ⟨mm,[],os,[],pc,none⟩ m' ns':=⟨loc,obs,pcs,(λi x h=>nomatch h),(λx i h=>nomatch h),λi h=>nomatch h⟩
 have hi:=(List.getElem?_eq_some_iff.mp i1).1
 have d1:=d0.new (x:=SO.tb) (a:=T) (o:=oT) (by obtain ⟨_,_,_,_,_,k6⟩:=k;exact k6)
 have d2:=d1.put (i:=i) (a:=e) (o:=oe0) (o':=oe) (x:=SO.cgt j os.length) (by rw [List.getElem?_append_left hi];exact i1) (k.do (yad (yas (ρ:=ρ')).a _ (yaw i2)) d0.last)
 rw [List.set_append_left _ _ hi] at d2
 exact d2
theorem ydV {i:Nat} {e T:Addr} {oe0 oe oT:Obj} (i1:ns'[i]? = some (e,oe0)):Up ρ' ρ' (yae ns') (yae (ns'.set i (e,oe) ++ [(T,oT)])):=by
 have:=yas (ρ:=ρ') (ns:=ns'.set i (e,oe)) (p:=(T,oT))
 rwa [yaU i1] at this
end
theorem yeq {c:Cx} {m:Map} {ns:Led} {h:Heap} {ρ:Rho} {p:Pl} {S:SS} {P:Flow->Shared->Prop} {E':Value->Shared->Prop} {tk:Nat} (n:Nat) (f:c.At p) (ss:List Stmt) {V:List Vt} (d:Den c ρ S m ns) (i:Is c m ns h) (hv:(xSs (run YY n) p ss S).map yaD=V) (hb:yaI (xSs (run YY n) p ss S)=true) (ends:∀x∈V,ybs (c.wE E') ρ ns P (λ_=>True) x) :
  wpAny (MM c.w) c.A (execs ss c.env) P E' (c.st h tk):=ybf (c:=c.wE E') (yaR _) n f.wE ss d.wE i.wE hv hb ends
noncomputable def yer:List Stmt->List Stmt × List ExceptHandler × List Stmt × Pos
 | .Try b h _ f p::_=>(b,h,f,p)
 | _=>([],[],[],⟨0,0,0,0⟩)
noncomputable def yhq:List ExceptHandler->Pos × List Stmt × Pos
 | .ExceptHandler (some (.Name _ np)) _ s p::_=>(np,s,p)
 | _=>(⟨0,0,0,0⟩,[],⟨0,0,0,0⟩)
set_option backward.match.sparseCases false
noncomputable def ynm:List Stmt:=(yer (ya0.body.drop 5)).1
noncomputable def yqv:Pos:=(yer (ya0.body.drop 5)).2.2.2
noncomputable def iF0:Stmt:=((yer (ya0.body.drop 5)).2.2.1).headD (.Pass yqv)
theorem ynn:ya0.body=ya0.body.take 5 ++ [.Try ynm [] [] [iF0] yqv]:=by kernel_rfl
noncomputable def inP (hd:Bool):Pl:=⟨ya0.sc,20,false,hd⟩
noncomputable def inG (ct:Nat):List SO:=[.inst 673 1,.dct false [(Str.ofString "handler",.z (.v 2)),(Str.ofString "is_handling",.b (.v 0)),(Str.ofString "error_line",.z (.v 3)),(Str.ofString "error_code",.t 0)],.inst 278 3,.dct false [(Str.ofString "rows",.r 4),(Str.ofString "places",.r 5)],.vec 0 (.v 1) [(.v 0,.q 0)] [],.map 0 [],.inst 877 7,
 .dct false [(Str.ofString "world",.r 0),(Str.ofString "flat",.r 2),(Str.ofString "control",.r ct),(Str.ofString "bits",.z (.n 16)),(Str.ofString "digits",.z (.n 9))],.inst 208 9,.dct false [(Str.ofString "failed_at",.z (.v 4))]]
noncomputable def inC:List SO:=[.dct true [(Str.ofString "pile",.r 12),(Str.ofString "most",.z (.n 3)),(Str.ofString "failed_at",.z (.n (-1)))],.inst 208 10,.lst []]
noncomputable def inM:List (Str × SV):=[(Str.ofString "at",.z (.v 0)),(Str.ofString "run",.r 6),(Str.ofString "statement",.q 1),(Str.ofString "outer",.r 8)]
noncomputable def yqw:List SO:=[.tup [.z (.v 5),.q 1],.tup [.s (Str.ofString "INNER"),.u 0]]
noncomputable def inR (x:SO):List SO:=[.tup [.s (Str.ofString "RESUME"),.u 0],.tup [.s (Str.ofString "RESUME"),.r 0],x,.exd (.s (Str.ofString "RW")) (.s (Str.ofString ""))]
theorem yby {c:Cx} {p:Pl} {m:Map} {ρ:Rho} {ns:Led} {S:SS} {P:Flow->Shared->Prop} {h:Heap} {tk:Nat} (n:Nat) (f:c.At p) (xs ys:List Stmt) {V:List Vt} (d:Den c ρ S m ns) (i:Is c m ns h) (hv:(xSs (run YY n) p xs S).map yaD=V) (hb:yaI (xSs (run YY n) p xs S)=true)
  (ends:∀x∈V,ybs c ρ ns (λfl s'=>match fl with | .next=>wpAny (MM c.w) c.A (execs ys c.env) P c.E s'|fl=>P fl s') (λ_=>True) x):wpAny (MM c.w) c.A (execs (xs++ys) c.env) P c.E (c.st h tk):=by
 refine ydR (ybf (yaR _) n f xs d i hv hb ends)
section
variable {w:World} {mean:ExcName->Option Value} {mg mb:Str->Option Value} {base:Heap} {env:Env} {outer:List Env} {A:Around} {s:Shared} {Q E:Value->Shared->Prop}
variable {W WD FL FD RW PL R RD CT CD:Addr} {rvs:List Value} {rows:List (Int × St)} {sp:yao} {σ:yaL} {gl tl:List (Addr × Obj)} {nr at_ line:Int} {st:St} {ta:Tok}
theorem yfz (St0:Std w mean mg mb base (env::outer) s.heap) (hf:A.frames=some (env::outer)) (hh:A.handled=none) (hdp:A.depth<=460) (hun:A.units<=1800)
 (O:ybZ base (env::outer) s.heap (gl++tl)) (ap:([W,WD,FL,FD,RW,PL,R,RD,CT,CD]:List Addr).Nodup) (off:OwnOff tl [W,WD,FL,FD,RW,PL,R,RD,CT,CD]) (hlo:(PL==sysModules)=false)
 (G:yb2 W WD FL FD RW PL R RD CT CD w rvs sp σ gl) (rw_:RowsAre tl rvs rows) (hnr:(rows.length:Int)=nr) (hnr2:nr<=100) (a0:0<=at_) {o:How} (hrow:rows[at_.toNat]? = some (line,.inner o))
 (hbad:∀f σ' e h' tk',yaA sp nr at_ (.inner o) σ = .bad f σ'->ylJ W WD FL FD RW PL R RD CT CD w rvs sp base (env::outer) gl tl s.heap h' e f σ'->E (.ref e) {s with heap:=h',toks:=tk'}) :
  wpAny (MM w) A (call (.ref 909) [.ref R,.int at_ ta]) Q E s:=by
 refine yab λGG hGG=>?_
 obtain ⟨a,b,n1,tk1,hrv,hm1,hst⟩:=rw_.2 _ _ hrow
 obtain ⟨t1,v,n2,hm2,hv⟩:=yc9 hst
 obtain ⟨kvs,hsp,hk,nd,off',obs⟩:=yds (w:=w) (tl:=tl) (nr:=nr) (line:=line) (at_:=at_) (on:=.v 0) (kn:=[(.v 0,.q 0)]) (kp:=[]) (z6:=0) (z7:=0) (x1:=Str.ofString "") (uv:=v) (q:=[a,b]) ap off hlo G ((congrArg Int.ofNat rw_.1).trans hnr) hnr2 (λ_=>rfl) (kn1 a0 hrv) (λ_ _ _=>fN)
 have hl:gl.length=10:=by have:=congrArg List.length hk;rwa [List.length_map] at this
 have dv:DVs (ybi at_ nr σ line 0 0 (Str.ofString "") v [a,b] rvs kvs) (yae gl) [.r 6,.z (.v 0)] [.ref R,.int at_ ta]:=by rw [hk];exact .cons ⟨R,rfl,rfl⟩ (.cons ⟨at_,ta,rfl,rfl⟩ .nil)
 have tls:=tl2 (w:=w) (nr:=nr) (at_:=at_) (σ:=σ) (rvs:=rvs) (kvs:=kvs) (z6:=0) (z7:=0) (x1:=Str.ofString "") (uv:=v) (tl:=tl) (line:=line) hm1 hm2 (es:=[.s (Str.ofString "INNER"),.u 0]) (.cons ⟨_,rfl⟩ (.cons rfl .nil))
 have V0:=yhm (nr:=nr) (at_:=at_) (σ:=σ) (rvs:=rvs) (kvs:=kvs) (z6:=0) (z7:=0) (x1:=Str.ofString "") (uv:=v) (q:=[a,b]) (line:=line)
 have l0:(ybi at_ nr σ line 0 0 (Str.ofString "") v [a,b] rvs kvs).l[0]? = some rvs:=rfl
 have k0:(ybi at_ nr σ line 0 0 (Str.ofString "") v [a,b] rvs kvs).k[0]? = some kvs:=rfl
 have hr:(600:Nat)<recursionLimit:=by decide
 refine hGG ?_;clear hGG GG
 refine ycA (yjy w) St0 hf (by omega) O rfl λg L cdv h1 tk1 fit kp gs F N=>?_
 generalize (ybi at_ nr σ line 0 0 (Str.ofString "") v [a,b] rvs kvs)=ρ at obs dv tls V0 l0 k0
 have at0:(fCx w ya0 909 cdv A base (env::outer) s E tl g L).At (inP true):=⟨fit,rfl,by show A.depth+1+20<=600;omega,by show A.units+3+3 * 20<=3000;omega,λ_=>rfl,λ_=>hh⟩
 have d0:Den (fCx w ya0 909 cdv A base (env::outer) s E tl g L) ρ ⟨(ya0.ps.zip [.r 6,.z (.v 0)]).reverse,[],inG 8,yqw,[],none⟩ (λy=>(ya0.ps.zip [Value.ref R,.int at_ ta]).reverse.lookup y) gl:=⟨λx=>DFs.look (DFs.zip dv).rev,obs,fN,tls,(λx i h=>nomatch h),λi h=>nomatch h⟩
 rw [ynn]
 refine yby (c:=fCx w ya0 909 cdv A base (env::outer) s E tl g L) (V:=[.nx inM (inG 11++inC) []]) 40 at0 _ _ d0 ⟨F,N,nd,off'⟩ (by kernel_rfl) (by kernel_rfl) (fC (λρ1 ns1 m1 h2 tk2 H=>?_) fN)
 refine wpAny_execs_cons (wpAny_Try_finally ?_)
 refine yeq (c:=fCx w ya0 909 cdv A base (env::outer) s E tl g L) (V:=[.exc 15 16 15 inM (inG 11++inC++inR (.exc 16)) [.v 0],.exc 15 16 15 inM (inG 11++inC++inR (.exc 16)) [.not (.v 0)]]) 40 (p:=inP true) at0 ynm (S:=⟨inM,[],inG 11++inC,yqw,[],none⟩) (H.den tls) H.i (by kernel_rfl) (by kernel_rfl) ?_
 have fin:∀{pc:List C} {ρ2:Rho} {ns2:Led} {m2:Map} {e D T:Addr} {oe oD:Obj} {a0:Value} {G h:Heap} {tk:Nat} {E':Value->Shared->Prop} {E2:Value->Shared->Prop} {Q':Flow->Shared->Prop},yql ((fCx w ya0 909 cdv A base (env::outer) s E tl g L).wE E') ρ1 ρ2 ns1 ns2 m2 inM (inG 11++inC++inR (.exc 16)) pc 15 16 15 e D T oe oD a0 G h ->
   wpAny (MM w) (A.deeper (envOf ya0.qual ya0.sc L 909 cdv)) (noteFrame (.ref e) (envOf ya0.qual ya0.sc L 909 cdv)) (λ_ s₂=>FinallyRaised (PySem.Challenge.rw_pf0025_01.row.prog) w (A.deeper (envOf ya0.qual ya0.sc L 909 cdv)) (fCx w ya0 909 cdv A base (env::outer) s E tl g L).E (envOf ya0.qual ya0.sc L 909 cdv) [iF0] Q' (.ref e) s₂) E2 {s with heap:=h,toks:=tk}:=by
  intro pc ρ2 ns2 m2 e D T oe oD a0 G h tk E' E2 Q' X
  cases (yaw X.i1).symm.trans X.hT
  have up:=H.up.trans X.up
  refine yep (c:=fCx w ya0 909 cdv A base (env::outer) s E tl g L) fit rfl X.R X.F X.i1 X.i2 X.nd X.off λg' h' T oe' oT kt B' i3 ok=>?_
  have d3:=yfy (c:=(fCx w ya0 909 cdv A base (env::outer) s E tl g L).cgt e g' (notedBy (MM w) (Around.mark (A.deeper (envOf ya0.qual ya0.sc L 909 cdv)) (some (.ref e))) (envOf ya0.qual ya0.sc L 909 cdv) (cameBackBy (MM w) (A.deeper (envOf ya0.qual ya0.sc L 909 cdv)) (envOf ya0.qual ya0.sc L 909 cdv) (fCx w ya0 909 cdv A base (env::outer) s E tl g L).E))) X.loc X.obs X.pcs X.i1 X.i2 ok
  have at3:((fCx w ya0 909 cdv A base (env::outer) s E tl g L).cgt e g' (notedBy (MM w) (Around.mark (A.deeper (envOf ya0.qual ya0.sc L 909 cdv)) (some (.ref e))) (envOf ya0.qual ya0.sc L 909 cdv) (cameBackBy (MM w) (A.deeper (envOf ya0.qual ya0.sc L 909 cdv)) (envOf ya0.qual ya0.sc L 909 cdv) (fCx w ya0 909 cdv A base (env::outer) s E tl g L).E))).At (inP false):=⟨yeo fit B',rfl,by show A.depth+1+20<=600;omega,by show A.units+3+3 * 20<=3000;omega,λ_=>rfl,nofun⟩
  refine ybf (V:=[.nx inM (inG 8++(inC++inR (.cgt 16 17) ++ [.tb])) pc]) (N:=λ_=>True) (yaR _) 40 (p:=inP false) at3 [iF0] d3 i3 (by kernel_rfl) (by kernel_rfl) (fC (λρ4 ns4 m4 h4 tk4 H4=>?_) fN)
  obtain ⟨ea,hdi,hTx,hD,tb,R4⟩:=yeS (ns:=ns4) (i:=15) (j:=16) (k:=17) at3.f rfl H4.obs rfl rfl (by decide) (by decide) (by decide) H4.i
  have k4:=yad ((ydV (ρ':=ρ2) X.i1).trans H4.up).a _ (yaw X.i1)
  cases k4.symm.trans (yaw ea)
  obtain ⟨⟨B4,b1,b2,b3,b4⟩,up4⟩:=R4
  refine yf8 b4 tb λh5 x5 u5=>?_
  refine ya7 B' (⟨⟨B4,b1,b2,b3,x5⟩,up4.trans u5⟩:RaisedX base g' (envOf ya0.qual ya0.sc L 909 cdv::env::outer) e (.ref 41) _ _ _ h5) (kt.none_ _ (kts_self F)) λh6 R6=>?_
  have up:=up.trans ((ydV X.i1).trans H4.up)
  obtain ⟨gl',r,eg,hl',G'⟩:=ybh H4.obs (hk▸up.a) (V0.up up) (yad up.l _ l0) (yad up.k _ k0) hsp
  refine hbad 20 σ _ _ _ rfl ⟨gl',G',yda kp gs (ydr (w:=w) (f:=20) (H4.obs.all 16 _ _ rfl hD) rfl (.inl rfl)) (ybI kt (λ_ h=>h) R6) (fC (.head _) (λp hp=>.tail _ (ycj ⟨ybo eg p hp,yaS eg (by omega) ea H4.i.nd H4.i.off p hp,yaS eg (by omega) hD H4.i.nd H4.i.off p hp,?_⟩))) (yg6 (as:=[]) up.a H4.i.nd H4.i.off hD (by omega))⟩
  rw [List.getElem?_map] at hTx
  obtain ⟨pT,hT4,e9⟩:=Option.map_eq_some_iff.mp hTx
  subst e9
  exact yaS eg (by omega) hT4 H4.i.nd H4.i.off p hp
 exact fC (λρ2 ns2 m2 e D T oe oD a0 G h tk X=>fin X) (fC (λρ2 ns2 m2 e D T oe oD a0 G h tk X=>fin X) fN)
end
set_option genSizeOfSpec false
set_option genInjectivity false
inductive yon (L:List Int) (r:Value):Led->Prop
 | one {a:Addr} {o:Obj} {st:St} (e:r = .ref a) (d:∀a tl,(a,o)∈tl->DatIn tl (.ref a) st.dat) (ok:St.Ok L st):yon L r [(a,o)]
 | two {a b:Addr} {o:Obj} {t:Tok} {n:Nat} (e:r = .ref a) (d:yoJ o) (ne:a≠b):yon L r [(b,o),(a,yal [.str (Str.ofString "ERROR") t,.ref b] n)]
noncomputable def sPl:Pl:=⟨yoi.sc,5,false,true⟩
noncomputable def sLs (m:Nat):List Int:=([10,20,30,40,50]:List Int).take m
noncomputable def zW (l:List Int):List SV:=l.map λk=>.z (.n k)
noncomputable def sLn (m:Nat):SO:=.lst (zW (sLs m))
noncomputable def sSt (m:Nat):SS:=⟨(yoi.ps.zip [.r 0,.q 1]).reverse,[],[.op 0 0],[.op 1 0,sLn m],[],none⟩
noncomputable abbrev yno:List Int:=[5,1,16,21,30,200,255,0,256]
noncomputable def ype (k:Int):Vw:=.ret (.r 3) [.op 0 0,.lst (zW yno),.tup [.s (Str.ofString "whole"),.z (.n k)],.tup [.s (Str.ofString "ERROR"),.r 2]] []
noncomputable def yso:Vw:=.ret (.r 1) [.op 0 0,.tup [.s (Str.ofString "REM"),.s (Str.ofString "x")]] []
noncomputable def ysp:Vw:=.ret (.r 1) [.op 0 0,.tup [.s (Str.ofString "END")]] []
noncomputable def e2 (l:List SV) (m:Nat) (x:Str) (v:SV):Vw:=.ret (.r 3) [.op 0 0,.lst l,.lst (l++zW (sLs m)),.tup [.s x,v]] []
noncomputable def onW:List SV:=[.z (.n 5),.z (.n 0)]
noncomputable def hwW:List SV:=[.no,.s (Str.ofString "NEXT"),.z (.n 5)]
noncomputable def sEn (m:Nat):List Vw:=yno.map ype++(yno.map ype++(yso::((onW++zW (sLs m)).map (e2 onW m (Str.ofString "ONERR"))++((hwW++zW (sLs m)).map (e2 hwW m (Str.ofString "RESUME"))++((hwW++zW (sLs m)).map (e2 hwW m (Str.ofString "INNER")) ++ [ysp])))))
theorem ypf {m:Nat} (h1:2<=m) (h2:m<=5):(xSs (run YY 40) sPl yoi.body (sSt m)).map view=sEn m:=by
 rcases (show m=2∨m=3∨m=4∨m=5 by omega) with rfl|rfl|rfl|rfl<;>kernel_rfl
theorem yk8 {ρ:Rho} {as:List Addr} {vs:List Value} {l:List Int} (h:IntsAre vs l):DVs ρ as (zW l) vs:=by
 induction h with
 | nil=>exact .nil
 | cons k t _ ih=>exact .cons ⟨k,t,rfl,rfl⟩ ih
theorem yk9 {ρ:Rho} {as:List Addr} {l:List Int} {vs:List Value} (D:DVs ρ as (zW l) vs):IntsAre vs l:=by
 induction l generalizing vs with
 | nil=>cases yar D;exact .nil
 | cons k r ih=>
  obtain ⟨_,us,rfl,⟨k',t,hk,rfl⟩,D2⟩:=yai D
  cases hk
  exact .cons _ _ (ih D2)
noncomputable def yfA (v:SV) (d:Dat):Prop:=∀ρ as u tl,DV ρ as v u->DatIn tl u d
theorem ydW (k:Int):yfA (.z (.n k)) (.int k):=λρ as u tl d=>by
 obtain ⟨k',t,hk,rfl⟩:=d
 cases hk
 exact .int _ _
theorem yjG (x:Str):yfA (.s x) (.str x):=λρ as u tl d=>by
 obtain ⟨t,rfl⟩:=d
 exact .str _ _
theorem yla:yfA .no .none:=λρ as u tl d=>by
 cases (show u = .none from d)
 exact .none
theorem yjH {l:List Int} {v:SV} (h:v∈zW l):∃k∈l,v = .z (.n k):=by
 refine yab λGG hGG=>?_
 obtain ⟨k,hk,rfl⟩:=List.mem_map.mp h
 refine hGG ?_;clear hGG GG
 exact ⟨k,hk,rfl⟩
theorem ynp {L:List Int} {v:SV} (h:v∈hwW++zW L):∃x:How,x.Ok L/\yfA v x.dat:=by
 refine yab λGG hGG=>?_
 rcases List.mem_append.mp h with h|h
 ·rcases List.mem_cons.mp h with rfl|h
  ·refine hGG ?_;clear hGG GG
   exact ⟨.none,trivial,yla⟩
  rcases List.mem_cons.mp h with rfl|h
  ·refine hGG ?_;clear hGG GG
   exact ⟨.next,trivial,yjG _⟩
  ·cases List.mem_singleton.mp h
   refine hGG ?_;clear hGG GG
   exact ⟨.line 5,.inl rfl,ydW _⟩
 ·obtain ⟨k,hk,rfl⟩:=yjH h
  refine hGG ?_;clear hGG GG
  exact ⟨.line k,.inr hk,ydW _⟩
theorem ysq {L:List Int} {v:SV} (h:v∈onW++zW L):∃k,St.Ok L (.onerr k)/\yfA v (.int k):=by
 refine yab λGG hGG=>?_
 rcases List.mem_append.mp h with h|h
 ·rcases List.mem_cons.mp h with rfl|h
  ·refine hGG ?_;clear hGG GG
   exact ⟨5,.inl rfl,ydW _⟩
  ·cases List.mem_singleton.mp h
   refine hGG ?_;clear hGG GG
   exact ⟨0,.inr (.inl rfl),ydW _⟩
 ·obtain ⟨k,hk,rfl⟩:=yjH h
  refine hGG ?_;clear hGG GG
  exact ⟨k,.inr (.inr hk),ydW _⟩
noncomputable abbrev yoo (L:List Int) (f:Addr) (ns:Led) (u:Value):Prop:=∃post,yon L u post/\(∀p∈post,p∈ns)/\∀p∈post,p.1≠f
section
variable {L:List Int} {ρ:Rho} {os:List SO} {ns:Led} {w:World} {f:Addr} {u:Value} {i:Nat} {st:St} {x:Str}
theorem ypg (obs:DOs w ρ (yae ns) os ns) (nd:(yae ns).Nodup) (kf:(yae ns)[0]? = some f) (hi:os[i]? = some (.tup [.s x])) (n:i≠0) (ok:St.Ok L st) (e:st.dat = .tuple [.str x]) (dv:DV ρ (yae ns) (.r i) u):yoo L f ns u:=by
 refine yab λGG hGG=>?_
 obtain ⟨a,ha,rfl⟩:=dv
 obtain ⟨o,ea,@⟨vs,m,rfl,D⟩⟩:=obs.atK hi ha
 obtain ⟨_,us,rfl,⟨t,rfl⟩,D2⟩:=yai D
 cases yar D2
 refine hGG ?_;clear hGG GG
 exact ⟨_,.one (st:=st) rfl (λa tl hm=>e▸.tuple hm (.cons (.str _ _) .nil)) ok,fC (List.mem_of_getElem? ea) fN,fC (yaM nd ha kf n) fN⟩
theorem yiS {v:SV} {d:Dat} (obs:DOs w ρ (yae ns) os ns) (nd:(yae ns).Nodup) (kf:(yae ns)[0]? = some f) (hi:os[i]? = some (.tup [.s x,v])) (n:i≠0) (ok:St.Ok L st) (hv:yfA v d) (e:st.dat = .tuple [.str x,d]) (dv:DV ρ (yae ns) (.r i) u):yoo L f ns u:=by
 refine yab λGG hGG=>?_
 obtain ⟨a,ha,rfl⟩:=dv
 obtain ⟨o,ea,@⟨vs,m,rfl,D⟩⟩:=obs.atK hi ha
 obtain ⟨_,us,rfl,⟨t,rfl⟩,D2⟩:=yai D
 obtain ⟨y,us,rfl,dy,D3⟩:=yai D2
 cases yar D3
 refine hGG ?_;clear hGG GG
 exact ⟨_,.one (st:=st) rfl (λa tl hm=>e▸.tuple hm (.cons (.str _ _) (.cons (hv _ _ _ _ dy) .nil))) ok,fC (List.mem_of_getElem? ea) fN,fC (yaM nd ha kf n) fN⟩
theorem yph {k:Int} {j:Nat} (obs:DOs w ρ (yae ns) os ns) (nd:(yae ns).Nodup) (kf:(yae ns)[0]? = some f) (hi:os[i]? = some (.tup [.s (Str.ofString "ERROR"),.r j])) (hj:os[j]? = some (.tup [.s (Str.ofString "whole"),.z (.n k)])) (n:i≠0) (n2:j≠0) (n3:i≠j) (hk:k∈yno) (dv:DV ρ (yae ns) (.r i) u):yoo L f ns u:=by
 refine yab λGG hGG=>?_
 obtain ⟨a,ha,rfl⟩:=dv
 obtain ⟨o,ea,@⟨vs,m,rfl,D⟩⟩:=obs.atK hi ha
 obtain ⟨_,us,rfl,⟨t,rfl⟩,D2⟩:=yai D
 obtain ⟨_,us,rfl,⟨b,hb,rfl⟩,D3⟩:=yai D2
 cases yar D3
 clear D D2 D3
 obtain ⟨o2,eb,@⟨vs,m2,rfl,D⟩⟩:=obs.atK hj hb
 obtain ⟨_,us,rfl,⟨t2,rfl⟩,D2⟩:=yai D
 obtain ⟨_,us,rfl,⟨k',t3,hk',rfl⟩,D3⟩:=yai D2
 cases yar D3
 cases hk'
 refine hGG ?_;clear hGG GG
 exact ⟨_,.two rfl ⟨hk,rfl⟩ (yaM nd ha hb n3),fC (List.mem_of_getElem? eb) (fC (List.mem_of_getElem? ea) fN),fC (yaM nd hb kf n2) (fC (yaM nd ha kf n) fN)⟩
end
noncomputable def yqx (L:List Int):Vw->Prop
 | .ret v os pc=>os[0]? = some (.op 0 0)/\∀w ρ ns f u,DOs w ρ (yae ns) os ns->(yae ns).Nodup->(yae ns)[0]? = some f->DV ρ (yae ns) v u->yoo L f ns u
 | _=>False
theorem ysr (m:Nat):∀x∈sEn m,yqx (sLs m) x:=by
 have er:∀x∈yno.map ype,yqx (sLs m) x:=λx hx=>by
  refine yab λGG hGG=>?_
  obtain ⟨k,hk,rfl⟩:=List.mem_map.mp hx
  refine hGG ?_;clear hGG GG
  exact ⟨rfl,λw ρ ns f u obs nd kf dv=>yph obs nd kf rfl rfl (by decide) (by decide) (by decide) hk dv⟩
 refine List.forall_mem_append.mpr ⟨er,List.forall_mem_append.mpr ⟨er,fC ⟨rfl,λw ρ ns f u obs nd kf dv=>yiS (st:=.rem) obs nd kf rfl (by decide) trivial (yjG _) rfl dv⟩ (List.forall_mem_append.mpr ⟨λx hx=>?_,List.forall_mem_append.mpr ⟨λx hx=>?_,List.forall_mem_append.mpr ⟨λx hx=>?_,fC ⟨rfl,λw ρ ns f u obs nd kf dv=>ypg (st:=.fin) obs nd kf rfl (by decide) trivial rfl dv⟩ fN⟩⟩⟩)⟩⟩
 ·refine yab λGG hGG=>?_
  obtain ⟨v,hv,rfl⟩:=List.mem_map.mp hx
  obtain ⟨k,ok,sd⟩:=ysq hv
  refine hGG ?_;clear hGG GG
  exact ⟨rfl,λw ρ ns f u obs nd kf dv=>yiS (st:=.onerr k) obs nd kf rfl (by decide) ok sd rfl dv⟩
 ·refine yab λGG hGG=>?_
  obtain ⟨v,hv,rfl⟩:=List.mem_map.mp hx
  obtain ⟨k,ok,sd⟩:=ynp hv
  refine hGG ?_;clear hGG GG
  exact ⟨rfl,λw ρ ns f u obs nd kf dv=>yiS (st:=.resume k) obs nd kf rfl (by decide) ok sd rfl dv⟩
 ·refine yab λGG hGG=>?_
  obtain ⟨v,hv,rfl⟩:=List.mem_map.mp hx
  obtain ⟨k,ok,sd⟩:=ynp hv
  refine hGG ?_;clear hGG GG
  exact ⟨rfl,λw ρ ns f u obs nd kf dv=>yiS (st:=.inner k) obs nd kf rfl (by decide) ok sd rfl dv⟩
section
variable {w:World} {mean:ExcName->Option Value} {mg mb:Str->Option Value} {base:Heap} {env:Env} {outer:List Env} {A:Around} {s:Shared} {Q E:Value->Shared->Prop}
theorem ydX {f c lo:Addr} {vs lvs:List Value} {zs:List Int} {n n2 n3 m:Nat} {t:Int} {u:Tok}
  (St0:Std w mean mg mb base (env::outer) s.heap) (hf:A.frames=some (env::outer)) (hh:A.handled=none) (hdp:A.depth<=594) (hun:A.units<=2982)
  (O:ybZ base (env::outer) s.heap [(f,listOf [.ref c,.int t u].toArray n),(c,listOf vs.toArray n2),(lo,listOf lvs.toArray n3)]) (nc:c≠f) (nl:lo≠f)
  (hi:IntsAre vs zs) (hlen:vs.length<=40) (h0:0<=t) (hm1:2<=m) (hm2:m<=5) (hli:IntsAre lvs (sLs m))
  (hret:∀r t2 u3 n' post h' tk',0<=t2->yon (sLs m) r post->ybK [f,c,lo] s.heap h' ((f,listOf [.ref c,.int t2 u3].toArray n')::(post ++ [(c,listOf vs.toArray n2),(lo,listOf lvs.toArray n3)]))->(∀p∈post,p.1 ∉ [f,c,lo])->Q r {s with heap:=h',toks:=tk'}) :
  wpAny (MM w) A (call (.ref 895) [.ref f,.ref lo]) Q E s:=by
 have O2:ybZ base (env::outer) s.heap ([(f,listOf [.ref c,.int t u].toArray n)] ++ [(c,listOf vs.toArray n2),(lo,listOf lvs.toArray n3)]):=λp hp=>O p hp
 refine ydn (ρ:=⟨[],[],[],[c,lo],[],[],[]⟩) (vs:=[.r 0,.q 1]) (os:=[.op 0 0]) (qs:=[.op 1 0,sLn m]) (pc:=[]) (V:=sEn m)
  (yaR w) 40 (k:=5) (ymW w) St0 hf hh (by omega) (by omega) O2 (List.nodup_cons.mpr ⟨List.not_mem_nil,List.nodup_nil⟩) ?off (.cons ⟨f,rfl,rfl⟩ (.cons ⟨lo,rfl,rfl⟩ .nil)) rfl ?obs fN ?tls (ypf hm1 hm2) λx hx=>?ends
 case off=>exact fC (fC nc (fC nl fN)) fN
 case obs=>exact ya9 (.cons ⟨rfl,rfl,h0⟩ .nil)
 case tls=>
  intro i x hx
  refine yab λGG hGG=>?_
  rcases i with _|_|i
  ·cases hx;refine hGG ?_;clear hGG GG;exact ⟨rfl,.head _,⟨rfl,hi,hlen⟩⟩
  ·cases hx;refine hGG ?_;clear hGG GG;exact ⟨rfl,.tail _ (.head _),⟨rfl,yk8 hli⟩⟩
  ·cases hx
 case ends=>
  have ok:=ysr m x hx
  clear St0 O O2 nc nl hi hlen h0 hli hf hh hdp hun hx
  refine yab λGG hGG=>?_
  rcases x with ⟨v,os,pc⟩|⟨i,j,k,os,pc⟩|_
  ·refine hGG ?_;clear hGG GG
   intro ρ' ns' r h' tk' at' dv P
   have kf:=yad at'.up.a (i:=0) f rfl
   refine yab λGG hGG=>?_
   obtain ⟨o1,e1,@⟨c',t2,u3,n',q1,eo,z1⟩⟩:=at'.obs.atK ok.1 kf
   subst eo
   cases q1.symm.trans (yad at'.up.q (i:=0) c rfl)
   obtain ⟨post,R,sub,ne⟩:=ok.2 _ _ _ _ _ at'.obs at'.nd kf dv
   have sub2:∀p∈(f,listOf [.ref c,.int t2 u3].toArray n')::(post ++ [(c,listOf vs.toArray n2),(lo,listOf lvs.toArray n3)]),p∈ns' ++ [(c,listOf vs.toArray n2),(lo,listOf lvs.toArray n3)]:=fC (List.mem_append_left _ (List.mem_of_getElem? e1)) (List.forall_mem_append.mpr ⟨λp hp=>List.mem_append_left _ (sub p hp),λp hp=>List.mem_append_right _ hp⟩)
   refine hGG ?_;clear hGG GG
   refine hret r t2 u3 n' post h' tk' z1 R ⟨P.kept,λp hp=>P.get p (sub2 p hp),λp hp=>P.new p (sub2 p hp)⟩ λp hp hq=>?_
   rcases List.mem_cons.mp hq with hq|hq
   ·exact ne p hp hq
   ·have o2:=at'.off p (sub p hp)
    rcases List.mem_cons.mp hq with hq|hq
    ·exact o2 _ (.head _) hq.symm
    ·exact o2 _ (.tail _ (.head _)) (List.mem_singleton.mp hq).symm
  ·cases ok
  ·cases ok
end
set_option genSizeOfSpec false
set_option genInjectivity false
noncomputable def yhr (p:Pl) (vs:List SV) (S:SS):Option (List (R SV)):=(two? vs).bind λx=>(yk6 x.1 S).bind λ_=>(yqt x.2 S).bind λk=>grd (decide (6<=p.k) && p.hd) [.ok (.r S.os.length) (S.new (.op 2 k)),.ok (.r (S.os.length+1)) ((S.new (.op 3 0)).new (.tup [.s (Str.ofString "ERROR"),.r S.os.length]))]
theorem yhs {w:World} {c:Cx} {p:Pl} {m:Map} {ρ:Rho} {ns:Led} {S:SS} {vs:List SV} {us:List Value} {l:List (R SV)} (hw:c.w=w) (f:c.At p) (hc:p.cells=false) (h:yhr p vs S=some l) (dv:DVs ρ (yae ns) vs us) (d:Den c ρ S m ns):WE c m ns (call (.ref 895) us) (PE DV c m ρ ns l):=by
 clear hw
 refine yab λGG hGG=>?_
 obtain ⟨x,hx,h⟩:=yac h
 obtain ⟨⟨i,j⟩,h1,h⟩:=yac h
 obtain ⟨k,h2,h⟩:=yac h
 obtain ⟨g,rfl⟩:=yah h
 clear h
 cases yce hx
 clear hx
 obtain ⟨u1,us',rfl,du1,dn⟩:=yai dv
 obtain ⟨u2,us2,rfl,du2,dn2⟩:=yai dn
 cases yar dn2
 clear dv dn dn2
 have F:=yhk h1 du1 d
 have L:=ynl h2 du2 d
 clear h1 h2 du1 du2
 have g:=yag g
 have g1:=yaQ g.1
 have hh:=f.hh g.2
 have e1:=f.dp
 have e2:=f.un
 rcases F with @⟨a,c1,t,uu,n,n2,ws,zs,e,ho,ea,q,z,m2,iw,lw⟩
 ·subst e
  rcases L with @⟨lo,lvs,M,n3,e,l5,m5,hM1,hM2,iL⟩
  ·subst e
   refine hGG ?_;clear hGG GG
   refine ⟨λh tk i2=>?_⟩
   refine yab λGG hGG=>?_
   obtain ⟨mean,mg,mb,St⟩:=ydo f hc i2
   have sub:∀p∈[(c1,listOf ws.toArray n2),(lo,listOf lvs.toArray n3)],p∈ns++c.tl:=fC (List.mem_append_right _ m2) (fC (List.mem_append_right _ m5) fN)
   refine hGG ?_;clear hGG GG
   refine ydX St f.f.fr hh (by omega) (by omega) (yc1 f hc i2 (fC (i2.mem ea) sub)) (i2.off _ (List.mem_of_getElem? ea) _ m2) (i2.off _ (List.mem_of_getElem? ea) _ m5) iw lw z hM1 hM2 iL λr t2 u3 n' post h' tk' z2 R P ne=>?_
   have i3:(yae post).Nodup->Is c m (ns.set i (a,listOf [.ref c1,.int t2 u3].toArray n')++post) h':=i2.after (same:=[(c1,listOf ws.toArray n2),(lo,listOf lvs.toArray n3)]) ea sub P ne
   have d3:=yeW (u2:=u3) (n':=n') d ho ea q z2
   have up0:Up ρ ρ (yae ns) (yae (ns.set i (a,listOf [.ref c1,.int t2 u3].toArray n'))):=yaU ea▸.refl
   clear P sub St hh d ho ea q i2 ne iw lw hM1 hM2 m2 m5 e1 e2
   generalize ns.set i (a,listOf [.ref c1,.int t2 u3].toArray n')=ns2 at *
   rcases R with @⟨b,o,st,e,dd,ok⟩ | @⟨b,b2,o,tt,nn,e,dd,neb⟩
   ·exact yap (i3 (List.nodup_cons.mpr ⟨List.not_mem_nil,List.nodup_nil⟩)) (.mk (.head _) (up0.trans yas) ⟨b,d3.last,e⟩ (d3.new ⟨l5,iL,ok,dd⟩))
   ·have i5:=i3 (List.nodup_cons.mpr ⟨λz=>neb (List.mem_singleton.mp z).symm,List.nodup_cons.mpr ⟨List.not_mem_nil,List.nodup_nil⟩⟩)
    have d4:=d3.new (a:=b2) (o:=o) (x:=.op 3 0) dd
    have ln:(S.new (.op 3 0)).os.length=S.os.length+1:=List.length_append
    rw [List.append_cons] at i5
    exact yap i5 (.mk (.tail _ (.head _)) (up0.trans (yas.trans yas)) ⟨b,ln▸d4.last,e⟩ (d4.new ⟨rfl,.cons ⟨tt,rfl⟩ (.cons ⟨b2,yad (yas (ρ:=ρ)).a _ d3.last,rfl⟩ .nil)⟩))
noncomputable def YP:Sys:={YY with con:=λp b vs S=>cond (b==895) (yhr p vs S) (YY.con p b vs S)}
theorem ypi (w:World):YP.Ok w:=by
 have y:=yaR w
 refine ⟨y.gl,y.keep,y.fns,y.ini,y.meth,y.gets,y.sets,λp b vs S l h hc c ρ m ns us hw f dv d g=>?_⟩
 have h:cond (b==895) (yhr p vs S) (YY.con p b vs S)=some l:=h
 by_cases q:(b==895)=true
 ·rw [q] at h;cases beq_iff_eq.mp q;exact yhs hw f hc h dv d
 rw [Bool.eq_false_iff.mpr q,cond_false] at h
 exact y.con p b vs S l h hc c ρ m ns us hw f dv d g
set_option genSizeOfSpec false
set_option genInjectivity false
noncomputable def yht:List Stmt->List Stmt
 | .For _ _ b _ _::_=>b
 | _=>[]
noncomputable def pB:List Stmt:=yht (yiB.body.drop 2)
theorem ynq:∃p1 p2 p3 p4 p5 p6 p7 p8 k,yiB.body=yiB.body.take 2 ++ [.For (.Name (Str.ofString "line") p1) (.Subscript (.Name (Str.ofString "lines") p2) (.Slice (some (.Constant (.int 1) k p3)) none none p4) p5) pB [] p6,.Return (some (.Name (Str.ofString "found") p7)) p8]:=⟨_,_,_,_,_,_,_,_,_,rfl⟩
noncomputable def pP:Pl:=⟨yiB.sc,10,false,true⟩
noncomputable def pO (x:Nat × Int):List SO:=[.op 0 0,sLn 5,sLn x.1,.tup [.s (Str.ofString "ONERR"),.z (.n x.2)],.lst [.r 3],.tup [.z (.n 10),.r 4],.lst [.r 5]]
noncomputable def pE (x:Nat × Int):Vt:=.nx [(Str.ofString "feed",.r 0),(Str.ofString "lines",.r 2),(Str.ofString "found",.r 6)] (pO x) []
noncomputable def pV:List (Nat × Int):=[(2,20),(3,20),(3,30),(4,20),(4,30),(4,40),(5,20),(5,30),(5,40),(5,50)]
noncomputable def pS0:SS:=⟨[(Str.ofString "feed",.r 0)],[],[.op 0 0],[.op 1 0],[],none⟩
theorem p_0:(xSs (run YY 40) pP (yiB.body.take 2) pS0).map yaD=pV.map pE/\yaI (xSs (run YY 40) pP (yiB.body.take 2) pS0)=true:=⟨by kernel_rfl,by kernel_rfl⟩
theorem ypj:∀x∈pV,2<=x.1/\x.1<=5/\x.2∈sLs x.1:=by decide +kernel
noncomputable def pM (more:List (Str × SV)):List (Str × SV):=(Str.ofString "feed",.r 1)::(Str.ofString "lines",.q 1)::(Str.ofString "found",.r 0)::more
noncomputable def pS (more:List (Str × SV)):SS:=⟨pM more,[],[.vec 0 (.v 0) [] [],.op 0 0],[.op 1 0,.op 4 1],[],none⟩
theorem ynr:ydf pP (Str.ofString "line") (.z (.v 1)) (pS [])=some (pS [(Str.ofString "line",.z (.v 1))]):=by kernel_rfl
noncomputable def pT (a b:Nat) (os:List SO):Vt:=.nx (pM [(Str.ofString "line",.z (.v 1)),(Str.ofString "some",.r b)]) (.vec 0 (.v 0) [] [.r a]::.op 0 0::os) []
noncomputable def eW (j:Nat):SO:=.tup [.s (Str.ofString "ERROR"),.r j]
noncomputable def lW (b:Nat):SO:=.tup [.z (.v 1),.r b]
theorem p_1:(xSs (run YP 40) pP pB (pS [(Str.ofString "line",.z (.v 1))])).map yaD = [pT 4 3 [.op 2 1,.lst [.r 2],lW 3],pT 5 3 [.op 2 1,.lst [.r 2,.r 4],.op 2 1,lW 3],pT 6 3 [.op 2 1,.lst [.r 2,.r 5],.op 3 0,eW 4,lW 3],
   pT 5 4 [.op 3 0,eW 2,.lst [.r 3],lW 4],pT 6 4 [.op 3 0,eW 2,.lst [.r 3,.r 5],.op 2 1,lW 4],pT 7 4 [.op 3 0,eW 2,.lst [.r 3,.r 6],.op 3 0,eW 5,lW 4]]/\yaI (xSs (run YP 40) pP pB (pS [(Str.ofString "line",.z (.v 1))]))=true:=⟨by kernel_rfl,by kernel_rfl⟩
theorem yiT {vs:List Value} {a b:List Int} (h:IntsAre vs a) (k:IntsAre vs b):a=b:=by
 induction h generalizing b with
 | nil=>cases k;rfl
 | cons x t _ ih=>
          rcases k with _|⟨_,_,k⟩
          ·rw [ih k]
inductive StW (os:List SO):SV->Prop
 | one {e:Nat} (h:os[e]? = some (.op 2 1)) (n:2<=e):StW os (.r e)
 | two {e j:Nat} (h:os[e]? = some (eW j)) (k:os[j]? = some (.op 3 0)) (n:2<=e) (n2:2<=j):StW os (.r e)
theorem ycC {α:Type} {l:List α} {x:α} {i k:Nat} (h:l[i]? = some x) (n:k<=i):x∈l.drop k:=
 List.mem_of_getElem? (i:=i - k) (by rw [List.getElem?_drop,Nat.add_sub_cancel' n];exact h)
theorem yiU {ns:Led} {k0 k1:Addr} (nd:(yae ns).Nodup) (h0:(yae ns)[0]? = some k0) (h1:(yae ns)[1]? = some k1):OwnOff (ns.drop 2) [k0,k1]:=λp hp b hb=>by
 obtain ⟨i,hi⟩:=List.getElem?_of_mem hp
 rw [List.getElem?_drop] at hi
 rcases List.mem_cons.mp hb with rfl|hb
 ·exact yaM nd (yaw (a:=p.1) (o:=p.2) hi) h0 (by omega)
 ·cases List.mem_singleton.mp hb
  exact yaM nd (yaw (a:=p.1) (o:=p.2) hi) h1 (by omega)
section
variable {ρ:Rho} {os:List SO} {ns tl:Led} {w:World} {M:Nat} {lvs:List Value}
theorem yns (obs:DOs w ρ (yae ns) os ns) (hl:ρ.l[1]? = some lvs) (hi:IntsAre lvs (sLs M)) {v:SV} {u:Value} (h:StW os v) (dv:DV ρ (yae ns) v u) (sub:∀p∈ns.drop 2,p∈tl):∃st:St,St.Ok (sLs M) st/\DatIn tl u st.dat:=by
 refine yab λGG hGG=>?_
 rcases h with ⟨h,n⟩|⟨h,k,n,n2⟩
 ·obtain ⟨X,hX,rfl⟩:=dv
  obtain ⟨ox,ex,l1,i1,ok,dd⟩:=obs.atK h hX
  cases l1.symm.trans hl
  cases yiT i1 hi
  refine hGG ?_;clear hGG GG
  exact ⟨_,ok,dd _ _ (sub _ (ycC ex n))⟩
 ·obtain ⟨X,hX,rfl⟩:=dv
  obtain ⟨ox,ex,rfl,D⟩:=obs.atK h hX
  obtain ⟨u1,us,rfl,⟨t,rfl⟩,D2⟩:=yai D
  obtain ⟨u2,us,rfl,⟨Y,hY,rfl⟩,D3⟩:=yai D2
  cases yar D3
  obtain ⟨oy,ey,hm,rfl⟩:=obs.atK k hY
  refine hGG ?_;clear hGG GG
  exact ⟨.error _,hm,.tuple (sub _ (ycC ex n)) (.cons (.str _ _) (.cons (.tuple (sub _ (ycC ey n2)) (.cons (.str _ _) (.cons (.int _ _) .nil))) .nil))⟩
theorem ylb (obs:DOs w ρ (yae ns) os ns) (hl:ρ.l[1]? = some lvs) (hi:IntsAre lvs (sLs M)) {ss:List SV} {us:List Value} (D:DVs ρ (yae ns) ss us) (h:∀v∈ss,StW os v) (sub:∀p∈ns.drop 2,p∈tl):∃sts:List St,sts.length=ss.length/\(∀t∈sts,St.Ok (sLs M) t)/\DatAll tl us (sts.map St.dat):=by
 induction D with
 | nil=>exact ⟨[],rfl,fN,.nil⟩
 | cons d _ ih=>
  obtain ⟨st,ok,dd⟩:=yns obs hl hi (h _ (.head _)) d sub
  obtain ⟨sts,e,oks,dds⟩:=ih λv hv=>h v (.tail _ hv)
  exact ⟨st::sts,congrArg (· + 1) e,fC ok oks,.cons dd dds⟩
end
inductive ylc (fa f ca lo:Addr) (xs:List Value) (k:Int) (M:Nat) (tl1:Led) (m:Map) (ns:Led):Prop
 | mk {D:Addr} {nn n':Nat} {t:Int} {u:Tok} {sts:List St} (e1:(fa,listOf (xs ++ [Value.ref D]).toArray nn)∈ns) (e2:(f,listOf [.ref ca,.int t u].toArray n')∈ns) (t0:0<=t) (off:OwnOff (ns.drop 2) [fa,f]) (d:DatIn (ns.drop 2++tl1) (.ref D) (yb0 (k,sts)))
  (l1:1<=sts.length) (l2:sts.length<=2) (ok:∀t∈sts,St.Ok (sLs M) t) (m1:m (Str.ofString "feed")=some (.ref f)) (m2:m (Str.ofString "lines")=some (.ref lo)) (m3:m (Str.ofString "found")=some (.ref fa)):ylc fa f ca lo xs k M tl1 m ns
section
variable {c:Cx} {ρ':Rho} {ns0 ns' tl1:Led} {m':Map} {os:List SO} {h:Heap} {a b M:Nat} {ss:List SV} {fa f ca lo:Addr} {xs lvs:List Value} {k:Int}
theorem yfB (H:Here c ⟨[xs.length,k],[],[],[ca,lo],[xs,lvs],[],[]⟩ ρ' ns0 ns' m' (pM [(Str.ofString "line",.z (.v 1)),(Str.ofString "some",.r b)]) (.vec 0 (.v 0) [] [.r a]::.op 0 0::os) [] h) (kfa:(yae ns0)[0]? = some fa) (kf:(yae ns0)[1]? = some f) (hi:IntsAre lvs (sLs M))
  (ha:(.vec 0 (.v 0) [] [.r a]::.op 0 0::os:List SO)[a]? = some (lW b)) (hb:(.vec 0 (.v 0) [] [.r a]::.op 0 0::os:List SO)[b]? = some (.lst ss)) (na:2<=a) (nb:2<=b) (hs:∀v∈ss,StW (.vec 0 (.v 0) [] [.r a]::.op 0 0::os) v) (l1:1<=ss.length) (l2:ss.length<=2):ylc fa f ca lo xs k M tl1 m' ns':=by
 have up:=H.up
 have obs:=H.obs
 have loc:=H.loc
 have nd:=H.i.nd
 clear H
 have kfa:=yad up.a fa kfa
 have kf:=yad up.a f kf
 refine yab λGG hGG=>?_
 obtain ⟨_,m1,x1,h1,rfl⟩:=ya3 (show DQ _ _ (some (SV.r 1)) _ from loc (Str.ofString "feed"))
 obtain ⟨_,m2,x2,h2,rfl⟩:=ya3 (show DQ _ _ (some (SV.q 1)) _ from loc (Str.ofString "lines"))
 obtain ⟨_,m3,x3,h3,rfl⟩:=ya3 (show DQ _ _ (some (SV.r 0)) _ from loc (Str.ofString "found"))
 clear loc
 cases h1.symm.trans kf
 cases h2.symm.trans (yad up.q (i:=1) lo rfl)
 cases h3.symm.trans kfa
 obtain ⟨o0,e0,@⟨vs0,ws0,nn,hl0,rfl,_,_,D0,_⟩⟩:=obs.atK (i:=0) rfl kfa
 cases hl0.symm.trans (yad up.l (i:=0) xs rfl)
 obtain ⟨_,us,rfl,⟨D,hD,rfl⟩,dn⟩:=yai D0
 cases yar dn
 obtain ⟨o1,e1,@⟨c',t,u,n',hq,rfl,t0⟩⟩:=obs.atK (i:=1) rfl kf
 cases hq.symm.trans (yad up.q (i:=0) ca rfl)
 obtain ⟨oD,eD,rfl,DD⟩:=obs.atK ha hD
 obtain ⟨_,us,rfl,dk,D2⟩:=yai DD
 obtain ⟨_,us,rfl,⟨S,hS,rfl⟩,D3⟩:=yai D2
 cases yar D3
 obtain ⟨tk,rfl⟩:=ybt dk (yad up.z (i:=1) k rfl)
 obtain ⟨oS,eS,rfl,DS⟩:=obs.atK hb hS
 obtain ⟨sts,e,oks,dall⟩:=ylb (tl:=ns'.drop 2++tl1) obs (yad up.l (i:=1) lvs rfl) hi DS hs λp hp=>List.mem_append_left _ hp
 refine hGG ?_;clear hGG GG
 exact ⟨List.mem_of_getElem? e0,List.mem_of_getElem? e1,t0,yiU nd kfa kf,.tuple (List.mem_append_left _ (ycC eD na)) (.cons (.int _ _) (.cons (.list (List.mem_append_left _ (ycC eS nb)) dall) .nil)),e▸l1,e▸l2,oks,m1,m2,m3⟩
theorem ynt (at0:c.At pP) {P:Flow->Shared->Prop} {m:Map} {tk nn n':Nat} {t:Int} {u tv:Tok} {tpos:Pos} {oc:Obj} {n3:Nat} (i:Is c m [(fa,listOf xs.toArray nn),(f,listOf [.ref ca,.int t u].toArray n')] h) (hx:xs.length<=1000) (t0:0<=t) (hc:(ca,oc)∈c.tl) (doc:ygs oc) (hl:(lo,listOf lvs.toArray n3)∈c.tl) (hM1:2<=M) (hM2:M<=5) (hi:IntsAre lvs (sLs M))
  (m1:m (Str.ofString "feed")=some (.ref f)) (m2:m (Str.ofString "lines")=some (.ref lo)) (m3:m (Str.ofString "found")=some (.ref fa)) (K:∀h' tk' m' ns',Is c m' ns' h'->ylc fa f ca lo xs k M tl1 m' ns'->P .next (c.st h' tk')) :
  wpAny (MM c.w) c.A (assign (.Name (Str.ofString "line") tpos) c.env (.int k tv)) (λ_ s₂=>wpAny (MM c.w) c.A (execs pB c.env) P c.E s₂) c.E (c.st h tk):=by
 have dT:Den c ⟨[xs.length,k],[],[],[ca,lo],[xs,lvs],[],[]⟩ (pS []) m [(fa,listOf xs.toArray nn),(f,listOf [.ref ca,.int t u].toArray n')]:=by
  refine ⟨yaC (fC ⟨_,m1,f,rfl,rfl⟩ (fC ⟨_,m2,lo,rfl,rfl⟩ (fC ⟨_,m3,fa,rfl,rfl⟩ fN))),ya9 (.cons ⟨rfl,by rw [List.append_nil],rfl,hx,.nil,fN⟩ (.cons ⟨rfl,rfl,t0⟩ .nil)),fN,λi x hx=>?_,(λx i h=>nomatch h),λi h=>nomatch h⟩
  refine yab λGG hGG=>?_
  rcases i with _|_|i
  ·cases hx;refine hGG ?_;clear hGG GG;exact ⟨rfl,hc,doc⟩
  ·cases hx;refine hGG ?_;clear hGG GG;exact ⟨rfl,hl,⟨rfl,rfl,hM1,hM2,hi⟩⟩
  ·cases hx
 refine PyProof.Rows.assign_Name (ybU at0 dT (a:=.z (.v 1)) (v:=.int k tv) ⟨k,tv,rfl,rfl⟩ ynr i λh2 tk2 m' n2 ek i2 d2=>?_)
 have kfa:(yae n2)[0]? = some fa:=ek▸rfl
 have kf:(yae n2)[1]? = some f:=ek▸rfl
 clear dT i ek t0 hx hc doc hl m1 m2 m3
 refine ybf (N:=λ_=>True) (ypi c.w) 40 at0 pB d2 i2 p_1.1 p_1.2 ?_
 clear d2 i2
 refine fC (λρ' ns' m' h tk H=>K h tk m' ns' H.i (yfB H kfa kf hi rfl rfl (by decide) (by decide) (fC (.one rfl (by decide)) fN) (by decide) (by decide))) (fC (λρ' ns' m' h tk H=>K h tk m' ns' H.i (yfB H kfa kf hi rfl rfl (by decide) (by decide) (fC (.one rfl (by decide)) (fC (.one rfl (by decide)) fN)) (by decide) (by decide))) (fC (λρ' ns' m' h tk H=>K h tk m' ns' H.i (yfB H kfa kf hi rfl rfl (by decide) (by decide) (fC (.one rfl (by decide)) (fC (.two (j:=4) rfl rfl (by decide) (by decide)) fN)) (by decide) (by decide))) (fC (λρ' ns' m' h tk H=>K h tk m' ns' H.i (yfB H kfa kf hi rfl rfl (by decide) (by decide) (fC (.two (j:=2) rfl rfl (by decide) (by decide)) fN) (by decide) (by decide))) (fC (λρ' ns' m' h tk H=>K h tk m' ns' H.i (yfB H kfa kf hi rfl rfl (by decide) (by decide) (fC (.two (j:=2) rfl rfl (by decide) (by decide)) (fC (.one rfl (by decide)) fN)) (by decide) (by decide))) (fC (λρ' ns' m' h tk H=>K h tk m' ns' H.i (yfB H kfa kf hi rfl rfl (by decide) (by decide) (fC (.two (j:=2) rfl rfl (by decide) (by decide)) (fC (.two (j:=5) rfl rfl (by decide) (by decide)) fN)) (by decide) (by decide))) fN)))))
end
set_option genSizeOfSpec false
set_option genInjectivity false
theorem ypk {l:List Value} (h:1<=l.length):kms_pick l (some 1) none=l.drop 1:=by
 have e1:kms_lo (some 1) l.length=1:=by
  show (if (1:Int)<0 then l.length - (-(1:Int)).toNat else min (1:Int).toNat l.length)=1
  rw [if_neg (by decide)]
  exact Nat.min_eq_left h
 show (l.drop (kms_lo (some 1) l.length)).take (l.length - kms_lo (some 1) l.length)=l.drop 1
 rw [e1]
 exact List.take_of_length_le (by rw [List.length_drop];exact Nat.le_refl _)
theorem yld {l l':Led} {bs:List Addr} (h:OwnOff l bs) (h':OwnOff l' bs):OwnOff (l++l') bs:=λp hp=>(List.mem_append.mp hp).elim (h p) (h' p)
inductive PJ (f c lo la fa:Addr) (ocell:Obj) (lvs ws:List Value) (n3 n4 M i:Nat) (m:Map) (nx:Led):Prop
 | mk {xs:List Value} {p:ybM} {t:Int} {u:Tok} {nn n':Nat} {tl1:Led} (e:nx=(fa,listOf xs.toArray nn)::(f,listOf [.ref c,.int t u].toArray n')::tl1) (d:DatAll tl1 xs (p.map yb0)) (off:OwnOff tl1 [fa,f]) (t0:0<=t)
  (hp:p.map (·.1)=(sLs M).take (i+1)) (ok:∀x∈p,1<=x.2.length/\x.2.length<=2/\∀t∈x.2,t.Ok (sLs M)) (m1:m (Str.ofString "feed")=some (.ref f)) (m2:m (Str.ofString "lines")=some (.ref lo)) (m3:m (Str.ofString "found")=some (.ref fa))
  (hc:(c,ocell)∈tl1) (hl:(lo,listOf lvs.toArray n3)∈tl1) (hla:(la,listOf ws.toArray n4)∈tl1):PJ f c lo la fa ocell lvs ws n3 n4 M i m nx
section
variable {c:Cx} {s:Shared} {h:Heap} {tk:Nat} {f ca lo la fa I:Addr} {oc oI:Obj} {lvs ws:List Value} {n3 n4 M i:Nat} {m:Map} {nx:Led} {v:Value} {P:Flow->Shared->Prop} {tpos:Pos}
theorem ynu (at0:∀tl,(c.on tl).At pP) (nf:fa≠f) (doc:ygs oc) (hM1:2<=M) (hM2:M<=5) (hi:IntsAre lvs (sLs M)) (hW:IntsAre ws ((sLs M).drop 1)) (hv:ws[i]? = some v) (J:PJ f ca lo la fa oc lvs ws n3 n4 M i m nx)
  (F:Fr c.g c.L h m) (N:News c.g c.L h ((I,oI)::nx)) (nI:∀p∈nx,p.1≠I) (hP:∀s₃,TurnEnd c.g c.L c.s I oI (PJ f ca lo la fa oc lvs ws n3 n4 M) i s₃->P .next s₃) :
  wpAny (MM c.w) c.A (assign (.Name (Str.ofString "line") tpos) c.env v) (λ_ s₂=>wpAny (MM c.w) c.A (execs pB c.env) P c.E s₂) c.E (c.st h tk):=by
 refine yab λGG hGG=>?_
 obtain @⟨xs,p,t,u,nn,n',tl1,rfl,hdt,off,t0,hp,hok,m1,m2,m3,hc,hl,hla⟩:=J
 obtain ⟨k,tv,rfl,hk⟩:=yhZ hW hv
 clear hW hv
 have hs5:(sLs M).length<=5:=by unfold sLs;rw [List.length_take];omega
 have hx:xs.length<=1000:=by
  have e1:=hdt.length
  have e2:=congrArg List.length hp
  rw [List.length_map,List.length_take] at e2
  rw [List.length_map] at e1
  omega
 have iT:Is (c.on ((I,oI)::tl1)) m [(fa,listOf xs.toArray nn),(f,listOf [.ref ca,.int t u].toArray n')] h:=by
  refine ⟨F,λq hq=>N q ?_,List.nodup_cons.mpr ⟨λz=>nf (List.mem_singleton.mp z),List.nodup_cons.mpr ⟨List.not_mem_nil,List.nodup_nil⟩⟩,fC (fC ((nI _ (.head _)).symm) (λq hq=>off q hq fa (.head _))) (fC (fC ((nI _ (.tail _ (.head _))).symm) (λq hq=>off q hq f (.tail _ (.head _)))) fN)⟩
  rcases List.mem_cons.mp hq with rfl|hq
  ·exact .tail _ (.head _)
  rcases List.mem_cons.mp hq with rfl|hq
  ·exact .tail _ (.tail _ (.head _))
  rcases List.mem_cons.mp hq with rfl|hq
  ·exact .head _
  ·exact .tail _ (.tail _ (.tail _ hq))
 clear F N
 have nI1:∀q∈tl1,q.1≠I:=λq hq=>nI q (.tail _ (.tail _ hq))
 have hk1:(sLs M)[i+1]? = some k:=by rw [List.getElem?_drop,Nat.add_comm] at hk;exact hk
 clear nI hk hs5
 refine hGG ?_;clear hGG GG
 refine ynt (c:=c.on ((I,oI)::tl1)) (k:=k) (tl1:=tl1) (at0 _) iT hx t0 (.tail _ hc) doc (.tail _ hl) hM1 hM2 hi m1 m2 m3 λh3 tk3 m' ns' i3 R=>hP _ ?_
 clear iT hx t0 m1 m2 m3 hM1 hM2 hi doc
 refine yab λGG hGG=>?_
 rcases R with @⟨D,nn9,n9,t9,u9,sts,e1,e2,t0,offN,d,l1,l2,oks,m1,m2,m3⟩
 ·have offI:∀p∈ns',p.1≠I:=λp hp e=>i3.off p hp (I,oI) (.head _) e.symm
  refine hGG ?_;clear hGG GG
  refine ⟨h3,tk3,m',ns'++(I,oI)::tl1,rfl,i3.F,i3.N,List.mem_append_right _ (.head _),(fa,listOf (xs ++ [Value.ref D]).toArray nn9)::(f,listOf [.ref ca,.int t9 u9].toArray n9)::(ns'.drop 2++tl1),λq hq=>?_,.mk (p:=p ++ [(k,sts)]) (tl1:=ns'.drop 2++tl1) rfl ?_ (yld offN off) t0 ?_ ?_ m1 m2 m3 (List.mem_append_right _ hc) (List.mem_append_right _ hl) (List.mem_append_right _ hla)⟩
  ·rcases List.mem_cons.mp hq with rfl|hq
   ·exact ⟨List.mem_append_left _ e1,offI _ e1⟩
   rcases List.mem_cons.mp hq with rfl|hq
   ·exact ⟨List.mem_append_left _ e2,offI _ e2⟩
   rcases List.mem_append.mp hq with hq|hq
   ·exact ⟨List.mem_append_left _ (List.mem_of_mem_drop hq),offI _ (List.mem_of_mem_drop hq)⟩
   ·exact ⟨List.mem_append_right _ (.tail _ hq),nI1 q hq⟩
  ·rw [List.map_append]
   exact (hdt.mono λq hq=>List.mem_append_right _ hq).append (.one d)
  ·rw [List.map_append,hp,List.take_add_one (i:=i+1),hk1];rfl
  ·intro x hx
   rcases List.mem_append.mp hx with hx|hx
   ·exact hok x hx
   ·cases List.mem_singleton.mp hx
    exact ⟨l1,l2,oks⟩
end
inductive PB (f ca lo fa:Addr) (M:Nat) (m:Map) (ns:Led):Prop
 | mk {D:Addr} {lvs:List Value} {nn n3 n':Nat} {u:Tok} {t:Int} {st:St} (efa:(fa,listOf [Value.ref D].toArray nn)∈ns) (ef:(f,listOf [.ref ca,.int t u].toArray n')∈ns) (t0:0<=t) (el:(lo,listOf lvs.toArray n3)∈ns) (hi:IntsAre lvs (sLs M)) (ok:St.Ok (sLs M) st)
  (d:∀tl,(∀p∈ns,p.1≠fa->p.1≠f->p∈tl)->DatIn tl (.ref D) (yb0 (10,[st]))) (n1:fa≠f) (n2:lo≠f) (n4:lo≠fa) (m1:m (Str.ofString "feed")=some (.ref f)) (m2:m (Str.ofString "lines")=some (.ref lo)) (m3:m (Str.ofString "found")=some (.ref fa)):PB f ca lo fa M m ns
theorem yle {c:Cx} {ρ ρ':Rho} {ns0 ns:Led} {m:Map} {h:Heap} {M:Nat} {k:Int} {f ca:Addr} (H:Here c ρ ρ' ns0 ns m [(Str.ofString "feed",.r 0),(Str.ofString "lines",.r 2),(Str.ofString "found",.r 6)] (pO (M,k)) [] h) (kf:(yae ns0)[0]? = some f) (kc:ρ.q[0]? = some ca) (hk:k∈sLs M):∃lo fa,PB f ca lo fa M m ns:=by
 have up:=H.up
 have obs:=H.obs
 have loc:=H.loc
 have nd:=H.i.nd
 clear H
 have kf:=yad up.a f kf
 refine yab λGG hGG=>?_
 obtain ⟨_,m1,x1,h1,rfl⟩:=ya3 (show DQ _ _ (some (SV.r 0)) _ from loc (Str.ofString "feed"))
 obtain ⟨_,m2,lo,hlo,rfl⟩:=ya3 (show DQ _ _ (some (SV.r 2)) _ from loc (Str.ofString "lines"))
 obtain ⟨_,m3,fa,hfa,rfl⟩:=ya3 (show DQ _ _ (some (SV.r 6)) _ from loc (Str.ofString "found"))
 clear loc
 cases h1.symm.trans kf
 obtain ⟨_,e0,@⟨c',t,u,n',hq,rfl,t0⟩⟩:=obs.atK (i:=0) rfl kf
 cases hq.symm.trans (yad up.q ca kc)
 obtain ⟨_,el,@⟨lvs,n3,eo,dl⟩⟩:=obs.atK (i:=2) rfl hlo
 cases eo
 obtain ⟨_,e6,@⟨fs,nn,eo,d6⟩⟩:=obs.atK (i:=6) rfl hfa
 cases eo
 obtain ⟨_,us,rfl,⟨D,hD,rfl⟩,d7⟩:=yai d6
 cases yar d7
 obtain ⟨_,e5,@⟨v5,n5,eo,d5⟩⟩:=obs.atK (i:=5) rfl hD
 cases eo
 obtain ⟨_,us,rfl,⟨t1,t2,ht1,rfl⟩,d8⟩:=yai d5
 cases ht1
 obtain ⟨_,us,rfl,⟨S,hS,rfl⟩,d9⟩:=yai d8
 cases yar d9
 obtain ⟨_,e4,@⟨v4,n4,eo,d4⟩⟩:=obs.atK (i:=4) rfl hS
 cases eo
 obtain ⟨_,us,rfl,⟨X,hX,rfl⟩,d10⟩:=yai d4
 cases yar d10
 obtain ⟨_,e3,@⟨v3,n6,eo,d3⟩⟩:=obs.atK (i:=3) rfl hX
 cases eo
 obtain ⟨_,us,rfl,⟨t3,rfl⟩,d11⟩:=yai d3
 obtain ⟨_,us,rfl,⟨k',t4,hk',rfl⟩,d12⟩:=yai d11
 cases yar d12
 cases hk'
 refine hGG ?_;clear hGG GG
 refine ⟨lo,fa,.mk (st:=.onerr k) (List.mem_of_getElem? e6) (List.mem_of_getElem? e0) t0 (List.mem_of_getElem? el) (yk9 dl) (.inr (.inr hk)) (λtl sub=>?_) (yaM nd hfa kf (by decide)) (yaM nd hlo kf (by decide)) (yaM nd hlo hfa (by decide)) m1 m2 m3⟩
 have at':=fun {i:Nat} {a:Addr} {o:Obj} (e:ns[i]? = some (a,o)) (n0:i≠0) (n6:i≠6)=>sub _ (List.mem_of_getElem? e) (yaM nd (yaw e) hfa n6) (yaM nd (yaw e) kf n0)
 exact .tuple (at' e5 (by decide) (by decide)) (.cons (.int _ _) (.cons (.list (at' e4 (by decide) (by decide)) (.cons (.tuple (at' e3 (by decide) (by decide)) (.cons (.str _ _) (.cons (.int _ _) .nil))) .nil)) .nil))
section
variable {w:World} {mean:ExcName->Option Value} {mg mb:Str->Option Value} {base:Heap} {env:Env} {outer:List Env} {A:Around} {s:Shared} {Q E:Value->Shared->Prop}
theorem yfC {f ca:Addr} {vs:List Value} {zs:List Int} {n n2:Nat} {u:Tok}
  (St0:Std w mean mg mb base (env::outer) s.heap) (hf:A.frames=some (env::outer)) (hh:A.handled=none) (hdp:A.depth<=580) (hun:A.units<=2800)
  (O:ybZ base (env::outer) s.heap [(f,listOf [.ref ca,.int 0 u].toArray n),(ca,listOf vs.toArray n2)]) (hcf:ca≠f) (hi:IntsAre vs zs) (hlen:vs.length<=40)
  (hret:∀r p tl h' tk',ybK [f,ca] s.heap h' tl->DatIn tl r (ybj p)->Valid p->Q r {s with heap:=h',toks:=tk'}) :
  wpAny (MM w) A (call (.ref 902) [.ref f]) Q E s:=by
 have hr:(600:Nat)<recursionLimit:=by decide
 refine ybC (tl:=[(f,listOf [.ref ca,.int 0 u].toArray n),(ca,listOf vs.toArray n2)]) (ymX w) St0 hf (by omega) O rfl λc h1 tk1 fc F N=>?_
 refine yab λGG hGG=>?_
 obtain ⟨p1,p2,p3,p4,p5,p6,p7,p8,p9,hb⟩:=ynq
 refine hGG ?_;clear hGG GG
 rw [hb]
 have at0:=fc.at (p:=pP) rfl (by show A.depth+1+10<=600;omega) (by show A.units+3+3 * 10<=3000;omega) hh
 have hh:=(at0 []).hh rfl
 have fin:∀r p tl h tk,ybK [f,ca] s.heap h tl->DatIn tl r (ybj p)->Valid p->Q r (c.st h tk):=λr p tl h tk P d V=>fc.st (P:=Q r) (hret r p tl h tk P d V)
 have po:=fc.po
 have kp:=fc.kp
 have doc:ygs (listOf vs.toArray n2):=⟨rfl,hi,hlen⟩
 clear hret St0 O fc hf hdp hun
 have d0:Den (c.on [(ca,listOf vs.toArray n2)]) ⟨[],[],[],[ca],[],[],[]⟩ pS0 (λy=>(yiB.ps.zip [Value.ref f]).reverse.lookup y) [(f,listOf [.ref ca,.int 0 u].toArray n)]:=by
  refine ⟨yaC (fC ⟨_,by rfl,f,rfl,rfl⟩ fN),ya9 (.cons ⟨rfl,rfl,Int.le_refl _⟩ .nil),fN,λi x hx=>?_,(λx i h=>nomatch h),λi h=>nomatch h⟩
  refine yab λGG hGG=>?_
  rcases i with _|i
  ·cases hx;refine hGG ?_;clear hGG GG;exact ⟨rfl,.head _,doc⟩
  ·cases hx
 have i0:Is (c.on [(ca,listOf vs.toArray n2)]) (λy=>(yiB.ps.zip [Value.ref f]).reverse.lookup y) [(f,listOf [.ref ca,.int 0 u].toArray n)] h1:=⟨F,N,List.nodup_cons.mpr ⟨List.not_mem_nil,List.nodup_nil⟩,fC (fC hcf fN) fN⟩
 refine yby (c:=c.on [(ca,listOf vs.toArray n2)]) 40 (p:=pP) (at0 _) _ _ d0 i0 p_0.1 p_0.2 λx hx=>?_
 clear d0 i0 F N
 refine yab λGG hGG=>?_
 obtain ⟨⟨M,k⟩,hx2,rfl⟩:=List.mem_map.mp hx
 obtain ⟨hM1,hM2,hk⟩:=ypj _ hx2
 refine hGG ?_;clear hGG GG
 intro ρ1 ns1 m1 h2 tk2 H
 refine yab λGG hGG=>?_
 obtain ⟨lo,fa,B⟩:=yle H rfl (ca:=ca) rfl hk
 have i1:=H.i
 clear H hx hx2 hk
 rcases B with @⟨D,lvs,nn,n3,n',u1,t1,st,efa,ef,t0,el,hiL,sok,dd,nf,nlf,nla,mf,ml,md⟩
 ·have hsl:(sLs M).length=M:=by unfold sLs;rw [List.length_take];exact Nat.min_eq_left hM2
  have hlL:lvs.length=M:=(yey hiL).trans hsl
  refine hGG ?_;clear hGG GG
  refine wpAny_execs_cons (ydx (Subscript_ (ybr (at0 _) i1.F ml (by kernel_rfl) (wpAny_Slice ?_))) (by intro _;rfl))
  refine (ydO (c:=c.on [(ca,listOf vs.toArray n2)]) (m:=m1) (ns:=ns1) (ρ:=ρ1) (k:=.int 1) (j:=p9) (pos:=p3) (u:=.z (.n 1)) rfl).run i1 λv h3 tk3 n3' i3 q=>?_
  refine yab λGG hGG=>?_
  obtain ⟨rfl,k1,t2,hk1,rfl⟩:=q
  cases hk1
  clear i1
  refine hGG ?_;clear hGG GG
  refine wpAny_pure (wpAny_pure ?_)
  refine ycV (c:=c.on [(ca,listOf vs.toArray n2)]) (m:=m1) (ns:=n3') (List.mem_append_left _ el) (.int _ _) .none (by omega) (λ_ _=>by with_unfolding_all rfl) i3 λla h4 i4=>?_
  clear i3
  rw [ypk (by omega)] at i4
  have off:OwnOff ((la,listOf (lvs.drop 1).toArray 0)::(ca,listOf vs.toArray n2)::n3'.filter λp=>p.1 != fa && p.1 != f) [fa,f]:=by
   have nl2:∀p∈n3',la≠p.1:=λp hp e=>by
    have nd:=i4.nd
    rw [yae,List.map_append] at nd
    exact (List.nodup_append.mp nd).2.2 p.1 (List.mem_map_of_mem hp) la (.head _) e.symm
   have nc:∀p∈n3',ca≠p.1:=λp hp=>i4.off p (List.mem_append_left _ hp) _ (.head _)
   refine fC (fC (nl2 _ efa) (fC (nl2 _ ef) fN)) (fC (fC (nc _ efa) (fC (nc _ ef) fN)) (λp hp=>?_))
   have q:=yag (List.mem_filter.mp hp).2
   exact fC (bne_iff_ne.mp q.1) (fC (bne_iff_ne.mp q.2) fN)
  have NN:News c.g c.L h4 ((fa,listOf [Value.ref D].toArray nn)::(f,listOf [.ref ca,.int t1 u1].toArray n')::(la,listOf (lvs.drop 1).toArray 0)::(ca,listOf vs.toArray n2)::n3'.filter λp=>p.1 != fa && p.1 != f):=
   fC (i4.N _ (List.mem_append_left _ (List.mem_append_left _ efa))) (fC (i4.N _ (List.mem_append_left _ (List.mem_append_left _ ef))) (fC (i4.N _ (List.mem_append_left _ (List.mem_append_right _ (.head _)))) (fC (i4.N _ (List.mem_append_right _ (.head _))) (λq hq=>i4.N q (List.mem_append_left _ (List.mem_append_left _ (List.mem_filter.mp hq).1))))))
  have sub:∀p∈n3',p.1≠fa->p.1≠f->p∈(la,listOf (lvs.drop 1).toArray 0)::(ca,listOf vs.toArray n2)::n3'.filter λp=>p.1 != fa && p.1 != f:=λp hp a b=>.tail _ (.tail _ (List.mem_filter.mpr ⟨hp,Bool.and_eq_true_iff.mpr ⟨bne_iff_ne.mpr a,bne_iff_ne.mpr b⟩⟩))
  have dd:=dd _ sub
  have el:=sub _ el nla nlf
  have F4:=i4.F
  clear efa ef i4 sub
  generalize hU:(la,listOf (lvs.drop 1).toArray 0)::(ca,listOf vs.toArray n2)::n3'.filter (λp=>p.1 != fa && p.1 != f)=U at *
  have hca:(ca,listOf vs.toArray n2)∈U:=hU▸.tail _ (.head _)
  have hla:(la,listOf (lvs.drop 1).toArray 0)∈U:=hU▸.head _
  clear hU
  refine yex (vs:=lvs.drop 1) (PJ f ca lo la fa (listOf vs.toArray n2) lvs (lvs.drop 1) n3 0 M) hh F4 NN ?j0 ?lst ?turn ?done (by intro _;rfl) po
  case j0=>
   refine .mk (p:=[(10,[st])]) rfl (.cons dd .nil) off t0 ?_ (fC ⟨Nat.le_refl _,Nat.le_succ _,fC sok fN⟩ fN) mf ml md hca el hla
   show [(10:Int)]=List.take 1 (List.take M _)
   rw [List.take_take,Nat.min_eq_left (by omega)];rfl
  case lst=>
   rintro i m nx h ⟨rfl,_,_,_,_,_,_,_,_,_,_,hla⟩ F N
   exact ⟨N.isList (.tail _ (.tail _ hla)),.inr ⟨_,.tail _ (.tail _ hla)⟩⟩
  case turn=>
   intro i v m₁ nx h tk I oI hv hJ F N nI
   exact ynu at0 nf doc hM1 hM2 hiL (hiL.drop 1) hv hJ F N nI λs₃ h=>h
  case done=>
   intro m₁ nx h tk hJ F N
   clear dd off NN F4 hca hla el
   refine yab λGG hGG=>?_
   obtain @⟨xs,p,t,u,nn,n',tl1,rfl,hdt,off,t0,hp,hok,m1,m2,m3,hc,hl,hla⟩:=hJ
   refine hGG ?_;clear hGG GG
   refine wpAny_execs_cons (wpAny_Return_some (ybr (c:=c.on []) (at0 _) F m3 (by kernel_rfl) ?_))
   have e:p.map (·.1)=([10,20,30,40,50]:List Int).take M:=hp.trans (List.take_of_length_le (by rw [hsl,List.length_drop,hlL];omega))
   exact fin (.ref fa) p ((fa,listOf xs.toArray nn)::tl1) h tk (yaN kp F N λq hq=>(List.mem_cons.mp hq).elim (λz=>z▸.head _) λz=>.tail _ (.tail _ z)) (.list (.head _) (hdt.mono λq hq=>.tail _ hq)) ⟨⟨M,hM1,hM2,e⟩,by rw [e];exact hok⟩
end
set_option genSizeOfSpec false
set_option genInjectivity false
noncomputable def hB:List Stmt:=yht (yjx.body.drop 1)
theorem ynv:∃p1 p2 p3 p4 p5 p6 p7 p8 k,yjx.body=yjx.body.take 1 ++ [.For (.Tuple [.Name (Str.ofString "at") p1,.Name (Str.ofString "pair") p2] k p3) (.Call (.Name (Str.ofString "enumerate") p4) [.Attribute (.Name (Str.ofString "flat") p5) (Str.ofString "rows") p6] [] p7) hB [] p8]:=⟨_,_,_,_,_,_,_,_,_,rfl⟩
noncomputable def hP:Pl:=⟨yjx.sc,20,false,true⟩
noncomputable def hq (v:SV):Bool:=v.q? == some 0
noncomputable def okG:Vt->Bool
 | .nx mm _ _=>(mm.lookup (Str.ofString "flat")).any hq
 | _=>false
noncomputable def hS0:SS:=⟨[(Str.ofString "flat",.q 0)],[],[],[],[],none⟩
theorem h_0:((xSs (run YY 40) hP (yjx.body.take 1) hS0).map yaD).all okG=true/\yaI (xSs (run YY 40) hP (yjx.body.take 1) hS0)=true:=⟨by kernel_rfl,by kernel_rfl⟩
noncomputable def hPC:List C:=[.not (.tq 0 (Str.ofString "DATA")),.not (.tq 0 (Str.ofString "WHILE")),.not (.tq 0 (Str.ofString "WEND")),.not (.tq 0 (Str.ofString "DEFLINES")),.not (.tq 0 (Str.ofString "FNEND")),.not (.tq 0 (Str.ofString "FOR")),.not (.tq 0 (Str.ofString "NEXT"))]
noncomputable def hS1:SS:=⟨[(Str.ofString "flat",.q 0)],[],[],[.any,.tup [.z (.v 1),.q 2],.pre [.t 0]],hPC,none⟩
noncomputable def hS2:SS:=⟨[(Str.ofString "flat",.q 0),(Str.ofString "at",.z (.v 0)),(Str.ofString "pair",.q 1)],[],[],[.any,.tup [.z (.v 1),.q 2],.pre [.t 0]],hPC,none⟩
theorem ynw:ycv YY hP [.n (Str.ofString "at"),.n (Str.ofString "pair")] [.z (.v 0),.q 1] hS1=some hS2:=by kernel_rfl
theorem h_1:((xSs (run YY 40) hP hB hS2).map yaD).all okG=true/\yaI (xSs (run YY 40) hP hB hS2)=true:=⟨by kernel_rfl,by kernel_rfl⟩
theorem ypl {v:SV} (h:hq v=true):v = .q 0:=by
 have h9:=beq_iff_eq.mp h
 clear h
 refine yab λGG hGG=>?_
 rcases v with _|_|_|_|_|_|i|_|_|_|_
 ·first|exact yaa h9|cases h9
 ·first|exact yaa h9|cases h9
 ·first|exact yaa h9|cases h9
 ·first|exact yaa h9|cases h9
 ·first|exact yaa h9|cases h9
 ·first|exact yaa h9|cases h9
 ·cases h9;refine hGG ?_;clear hGG GG;rfl
 ·first|exact yaa h9|cases h9
 ·first|exact yaa h9|cases h9
 ·first|exact yaa h9|cases h9
 ·first|exact yaa h9|cases h9
theorem yeY {mm:List (Str × SV)} {os:List SO} {pc:List C} (h:okG (.nx mm os pc)=true) {ρ:Rho} {as:List Addr} {m:Map} {a:Addr} (l:∀x,DQ ρ as (mm.lookup x) (m x)) (hk:ρ.q[0]? = some a):m (Str.ofString "flat")=some (.ref a):=by
 have l:=l (Str.ofString "flat")
 have h:(mm.lookup (Str.ofString "flat")).any hq=true:=h
 generalize mm.lookup (Str.ofString "flat")=v at h l
 refine yab λGG hGG=>?_
 rcases v with _|v
 ·cases h
 ·cases ypl h
  obtain ⟨u,hu,x,hx,rfl⟩:=ya3 l
  cases hx.symm.trans hk;refine hGG ?_;clear hGG GG;exact hu
theorem ylf {x:Str} (h:x∈[Str.ofString "ERROR",Str.ofString "REM",Str.ofString "ONERR",Str.ofString "RESUME",Str.ofString "INNER",Str.ofString "END"]) {z:List Int} {q:List Addr}:∀C∈hPC,C.ev ⟨z,[],[x],q,[],[],[]⟩=some true:=by
 have key:([Str.ofString "ERROR",Str.ofString "REM",Str.ofString "ONERR",Str.ofString "RESUME",Str.ofString "INNER",Str.ofString "END"].all λx=>["DATA", "WHILE", "WEND", "DEFLINES", "FNEND", "FOR", "NEXT"].all λy=>!(x==Str.ofString y))=true:=by decide +kernel
 have k:=List.all_eq_true.mp (List.all_eq_true.mp key x h)
 have e:∀y∈["DATA", "WHILE", "WEND", "DEFLINES", "FNEND", "FOR", "NEXT"],(C.not (.tq 0 (Str.ofString y))).ev ⟨z,[],[x],q,[],[],[]⟩=some true:=λy hy=>congrArg some (k y hy)
 intro D hC
 refine yab λGG hGG=>?_
 obtain ⟨y,hy,rfl⟩:=List.mem_map.mp (show D∈["DATA", "WHILE", "WEND", "DEFLINES", "FNEND", "FOR", "NEXT"].map λy=>C.not (.tq 0 (Str.ofString y)) from hC)
 refine hGG ?_;clear hGG GG
 exact e y hy
theorem ylg {c:Cx} {FL T':Addr} {T U tl:Led} {rvs:List Value} {v:Value} {i:Int} {t:Tok} {m:Map} {h:Heap} {tk:Nat} {o:Obj} {k:Nat} {p1 p2 p3:Pos} {P:Flow->Shared->Prop} (at0:∀tl,(c.on tl).At hP) (hh:c.A.handled=none)
  (rw_:∀v∈rvs,∃a b n x t r n2 k tk,v = .ref a/\(a,yal [.int k tk,.ref b] n)∈tl/\(b,yal (.str x t::r) n2)∈tl/\x∈[Str.ofString "ERROR",Str.ofString "REM",Str.ofString "ONERR",Str.ofString "RESUME",Str.ofString "INNER",Str.ofString "END"])
  (mtl:∀q∈tl,q∈T) (hl:∀q∈T,q∈U) (mFL:(FL,o)∈T) (hv:v∈rvs) (hT1:IsTup h T' #[.int i t,v]) (F1:Fr c.g c.L h m) (N1:News c.g c.L h U) (j:m (Str.ofString "flat")=some (.ref FL))
  (kk:∀h m' tk,Fr c.g c.L h m'->News c.g c.L h U->m' (Str.ofString "flat")=some (.ref FL)->P .next (c.st h tk)) :
  wpAny (MM c.w) c.A (assign (.Tuple [.Name (Str.ofString "at") p1,.Name (Str.ofString "pair") p2] k p3) c.env (.ref T')) (λ_ s₂=>wpAny (MM c.w) c.A (execs hB c.env) P c.E s₂) c.E (c.st h tk):=by
 refine yab λGG hGG=>?_
 obtain ⟨a,b,n,x,tx,r,n2,kk2,tk2,rfl,ha,hb,hx⟩:=rw_ v hv
 have i4:Is (c.on U) m [] h:=⟨F1,N1,List.nodup_nil,fN⟩
 have d4:Den (c.on U) ⟨[i,kk2],[],[x],[FL,a,b],[],[],[]⟩ hS1 m []:=by
  refine ⟨yaC (fC ⟨_,j,FL,rfl,rfl⟩ fN),⟨rfl,λi x p h=>nomatch h⟩,ylf hx,λi y hy=>?_,(λx i h=>nomatch h),λi h=>nomatch h⟩
  refine yab λGG hGG=>?_
  rcases i with _|_|_|i
  ·cases hy;refine hGG ?_;clear hGG GG;exact ⟨rfl,hl _ mFL,trivial⟩
  ·cases hy;refine hGG ?_;clear hGG GG;exact ⟨rfl,hl _ (mtl _ ha),⟨rfl,.cons ⟨kk2,tk2,rfl,rfl⟩ (.cons ⟨b,rfl,rfl⟩ .nil)⟩⟩
  ·cases hy;refine hGG ?_;clear hGG GG;exact ⟨rfl,hl _ (mtl _ hb),⟨(rfl:yal (.str x tx::r) n2=yal ([.str x tx]++r) n2),.cons ⟨x,tx,rfl,rfl⟩ .nil⟩⟩
  ·cases hy
 clear ha hb hx rw_ mtl hl mFL hv N1 F1 j
 refine hGG ?_;clear hGG GG
 refine yc8 i4.F i4.N hT1 (.inl hh) rfl rfl λh5 F5 N5=>?_
 refine ybx (c:=c.on U) (yaR c.w) (at0 _) (yci (es:=[.Name (Str.ofString "at") p1,.Name (Str.ofString "pair") p2]) rfl).1 d4 (as:=[.z (.v 0),.q 1]) (.cons ⟨i,t,rfl,rfl⟩ (.cons ⟨a,rfl,rfl⟩ .nil)) ynw ⟨F5,N5,List.nodup_nil,fN⟩ λh6 tk6 m6 n6 ek i6 d6=>?_
 refine ybf (c:=c.on U) (N:=λ_=>True) (yaR c.w) 40 (at0 _) hB d6 i6 rfl h_1.2 λy hy=>?_
 have ok2:=List.all_eq_true.mp h_1.1 y hy
 rcases y with ⟨mm2,os2,pc2⟩|_|_|_|_
 ·intro ρ7 n7 m7 h7 tk7 H7
  exact kk h7 m7 tk7 H7.i.F (λq hq=>H7.i.N q (List.mem_append_right _ hq)) (yeY ok2 H7.loc (yad H7.up.q (i:=0) FL rfl))
 all_goals cases ok2
section
variable {w:World} {mean:ExcName->Option Value} {mg mb:Str->Option Value} {base:Heap} {env:Env} {outer:List Env} {A:Around} {s:Shared} {Q E:Value->Shared->Prop}
theorem yhu {FL FD RW:Addr} {fes:List DictEntry} {fn lw:Nat} {rvs:List Value} {tl:List (Addr × Obj)} (St0:Std w mean mg mb base (env::outer) s.heap) (hf:A.frames=some (env::outer)) (hh:A.handled=none) (hdp:A.depth<=500) (hun:A.units<=2000)
  (O:ybZ base (env::outer) s.heap ((FL,yaf 278 FD)::(FD,dictOf fes fn)::(RW,listOf rvs.toArray lw)::tl)) (Hf:Has fes [(Str.ofString "rows",.ref RW)]) (rw_:∀v∈rvs,∃a b n x t r n2 k tk,v = .ref a/\(a,yal [.int k tk,.ref b] n)∈tl/\(b,yal (.str x t::r) n2)∈tl/\x∈[Str.ofString "ERROR",Str.ofString "REM",Str.ofString "ONERR",Str.ofString "RESUME",Str.ofString "INNER",Str.ofString "END"])
  (hret:∀h' tk',ybK (((FL,yaf 278 FD)::(FD,dictOf fes fn)::(RW,listOf rvs.toArray lw)::tl).map (·.1)) s.heap h' ((FL,yaf 278 FD)::(FD,dictOf fes fn)::(RW,listOf rvs.toArray lw)::tl)->Q .none {s with heap:=h',toks:=tk'}) :
  wpAny (MM w) A (call (.ref 310) [.ref FL]) Q E s:=by
 have hr:(600:Nat)<recursionLimit:=by decide
 generalize hT:(FL,yaf 278 FD)::(FD,dictOf fes fn)::(RW,listOf rvs.toArray lw)::tl=T at *
 refine ybC (tl:=T) (ymU w) St0 hf (by omega) O rfl λc h1 tk1 fc F N=>?_
 refine yab λGG hGG=>?_
 obtain ⟨p1,p2,p3,p4,p5,p6,p7,p8,k,hb⟩:=ynv
 refine hGG ?_;clear hGG GG
 rw [hb]
 have at0:=fc.at (p:=hP) rfl (by show A.depth+1+20<=600;omega) (by show A.units+3+3 * 20<=3000;omega) hh
 have hh:=(at0 T).hh rfl
 have d0:Den (c.on T) ⟨[],[],[],[FL],[],[],[]⟩ hS0 (λy=>(yjx.ps.zip [Value.ref FL]).reverse.lookup y) []:=
  ⟨yaC (fC ⟨_,by rfl,FL,rfl,rfl⟩ fN),⟨rfl,λi x p h=>nomatch h⟩,fN,(λi x h=>nomatch h),(λx i h=>nomatch h),λi h=>nomatch h⟩
 have fin:∀m₁ h tk,Fr c.g c.L h m₁->News c.g c.L h T->Q .none (c.st h tk):=λm₁ h tk F N=>fc.st (P:=Q .none) (hret _ _ (yaN fc.kp F N λ_ h=>h))
 have hT3:(FL,yaf 278 FD)∈T/\(FD,dictOf fes fn)∈T/\(RW,listOf rvs.toArray lw)∈T/\∀q∈tl,q∈T:=by
  rw [<-hT]
  exact ⟨.head _,.tail _ (.head _),.tail _ (.tail _ (.head _)),λq hq=>.tail _ (.tail _ (.tail _ hq))⟩
 have po:=fc.po
 clear hret St0 O fc hT
 refine yab λGG hGG=>?_
 obtain ⟨mFL,mFD,mRW,mtl⟩:=hT3
 refine hGG ?_;clear hGG GG
 refine yby (c:=c.on T) 40 (p:=hP) (at0 _) _ _ d0 ⟨F,N,List.nodup_nil,fN⟩ rfl h_0.2 λx hx=>?_
 have ok:=List.all_eq_true.mp h_0.1 x hx
 rcases x with ⟨mm,os,pc⟩|_|_|_|_
 ·intro ρ1 ns1 m1 h2 tk2 H
  have mf:=yeY ok H.loc (yad H.up.q (i:=0) FL rfl)
  have G:=(yaR c.w).gets (278,Str.ofString "rows") (List.mem_of_getElem? (i:=11) rfl)
  obtain ⟨u,e1,e2⟩:=G.c
  have i1:=H.i
  clear H d0 F N
  refine wpAny_execs_cons (ygp i1.F ?it (by intro _;rfl) po)
  case it=>
   refine Call_ ((yef (c:=c.on T) (ρ:=ρ1) (m:=m1) (ns:=ns1) (x:=Str.ofString "enumerate") (xp:=p4) (u:=.ty "enumerate") (yaR c.w) (at0 _) ((kind_of (at0 T) _).trans (by kernel_rfl)) (by kernel_rfl)).run i1 λfv h3 tk3 n3 i3 q=>?_)
   refine yab λGG hGG=>?_
   obtain ⟨rfl,rfl⟩:=q
   clear i1
   refine hGG ?_;clear hGG GG
   refine Pv.callWith_type1 (args_cons (Attribute_any_ (ybr (at0 T) i3.F mf (by kernel_rfl) (get_own i3.F (at0 T).f.X (InstAt.of_news i3.N (List.mem_append_right _ mFL) (List.mem_append_right _ mFD)) G.a G.b e1 e2 (Hf.all _ (.head _)) rfl ?_)) (yb6 rfl)) rfl) rfl rfl
   refine args_nil ?_
   refine yih (vs:=rvs) (λm=>m (Str.ofString "flat")=some (.ref FL)) hh i3.F i3.N (List.mem_append_right _ mRW) rfl rfl mf ?turn ?done
   case turn=>
    intro v i m₁ h T' t tk I o1 o2 j hT1 F1 N1 hv
    generalize hU:(I+1,o1)::(I,o2)::(n3++T)=U at *
    have hl:∀q∈T,q∈U:=λq hq=>hU▸.tail _ (.tail _ (List.mem_append_right _ hq))
    exact ylg at0 hh rw_ mtl hl (mFL) hv hT1 F1 (hU▸N1) j λh m' tk F N j=>⟨_,_,_,rfl,F,hU▸N,j⟩
   case done=>
    intro m₁ h tk j F1 N1
    exact wpAny_execs_nil (fin _ _ _ F1 λq hq=>N1 q (List.mem_append_right _ hq))
 all_goals cases ok
end
set_option genSizeOfSpec false
set_option genInjectivity false
noncomputable def uB:List Stmt:=yht yoh.body
theorem ynx:∃p1 p2 p3,yoh.body = [.For (.Name (Str.ofString "statement") p1) (.Name (Str.ofString "statements") p2) uB [] p3]:=⟨_,_,_,rfl⟩
noncomputable def uP:Pl:=⟨yoh.sc,40,false,true⟩
noncomputable def uF:List (Str × SV):=[(Str.ofString "rows",.r 2),(Str.ofString "places",.q 1)]
noncomputable def uM (more:List (Str × SV)):List (Str × SV):=(Str.ofString "flat",.r 0)::(Str.ofString "line",.z (.v 1))::more
noncomputable def uO (app:List SV) (more:List SO):List SO:=.inst 278 1::.dct false uF::.vec 0 (.v 0) [] app::more
noncomputable def uS (more:List (Str × SV)):SS:=⟨uM more,[],uO [] [],[.pre [.t 0]],[.not (.tq 0 (Str.ofString "IF"))],none⟩
theorem yny:ydf uP (Str.ofString "statement") (.q 0) (uS [])=some (uS [(Str.ofString "statement",.q 0)]):=by kernel_rfl
noncomputable def uE:Vt:=.nx (uM [(Str.ofString "statement",.q 0)]) (uO [.r 3] [.tup [.z (.v 1),.q 0]]) [.not (.tq 0 (Str.ofString "IF"))]
theorem u_1:(xSs (run YY 40) uP uB (uS [(Str.ofString "statement",.q 0)])).map yaD = [uE]/\yaI (xSs (run YY 40) uP uB (uS [(Str.ofString "statement",.q 0)]))=true:=⟨by kernel_rfl,by kernel_rfl⟩
inductive yqy (FL FD RW P b:Addr) (rvs:List Value) (k:Int) (m:Map) (ns:Led):Prop
 | mk {fes:List DictEntry} {fn lw n:Nat} {D:Addr} {t t2:Tok} (e:ns = [(FL,yaf 278 FD),(FD,dictOf fes fn),(RW,listOf (rvs ++ [Value.ref D]).toArray lw),(D,yal [.int k t,.ref b] n)]) (Hf:Has fes [(Str.ofString "rows",.ref RW),(Str.ofString "places",.ref P)])
  (m1:m (Str.ofString "flat")=some (.ref FL)) (m2:m (Str.ofString "line")=some (.int k t2)):yqy FL FD RW P b rvs k m ns
theorem ypm {c:Cx} {ρ':Rho} {ns0 ns':Led} {m':Map} {h:Heap} {FL FD RW P b:Addr} {rvs:List Value} {k:Int} {x:Str} (H:Here c ⟨[rvs.length,k],[],[x],[b,P],[rvs],[],[]⟩ ρ' ns0 ns' m' (uM [(Str.ofString "statement",.q 0)]) (uO [.r 3] [.tup [.z (.v 1),.q 0]]) [.not (.tq 0 (Str.ofString "IF"))] h)
  (k0:yae ns0 = [FL,FD,RW]):yqy FL FD RW P b rvs k m' ns':=by
 have up:=H.up
 have obs:=H.obs
 have loc:=H.loc
 clear H
 rw [k0] at up
 have kFL:=yad up.a (i:=0) FL rfl
 have kFD:=yad up.a (i:=1) FD rfl
 have kRW:=yad up.a (i:=2) RW rfl
 have hb:=yad up.q (i:=0) b rfl
 have hk:=yad up.z (i:=1) k rfl
 refine yab λGG hGG=>?_
 obtain ⟨t2,m2⟩:=q_z (show DQ _ _ (some (SV.z (.v 1))) _ from loc (Str.ofString "line")) hk
 obtain ⟨o0,e0,d0⟩:=obs.atK (i:=0) rfl kFL
 obtain ⟨o1,e1,d1⟩:=obs.atK (i:=1) rfl kFD
 obtain ⟨o2,e2,d2⟩:=obs.atK (i:=2) rfl kRW
 obtain ⟨D,o3,kD,e3,d3⟩:=ylP (i:=3) obs rfl
 obtain ⟨fes,fn,f1,Hf⟩:=yk0 d1 (λw h=>ybW h kRW) λw h=>f_q h (yad up.q (i:=1) P rfl)
 obtain ⟨lw,f2⟩:=ypc d2 (yad up.l (i:=0) rvs rfl) λw h=>ybW h kD
 obtain ⟨t,n,f3⟩:=ypd d3 hk hb
 rw [yiE d0 kFD] at e0
 rw [f1] at e1
 rw [f2] at e2
 rw [f3] at e3
 refine hGG ?_;clear hGG GG
 exact ⟨yk1 obs.len.symm e0 e1 e2 e3,Hf,q_r (show DQ _ _ (some (SV.r 0)) _ from loc (Str.ofString "flat")) kFL,m2⟩
inductive yop (FL FD RW P:Addr) (tl:Led) (rows:List (Int × St)) (k:Int) (sts:List St) (i:Nat) (m:Map) (nx:Led):Prop
 | mk {rvs:List Value} {lw fn:Nat} {fes:List DictEntry} {tl2:Led} {t:Tok} (e:nx=(FL,yaf 278 FD)::(FD,dictOf fes fn)::(RW,listOf rvs.toArray lw)::(tl2++tl)) (Hf:Has fes [(Str.ofString "rows",.ref RW),(Str.ofString "places",.ref P)])
  (R:RowsAre (tl2++tl) rvs (rows++(sts.take i).map λt=>(k,t))) (off:OwnOff tl2 (FL::FD::RW::yae tl)) (m1:m (Str.ofString "flat")=some (.ref FL)) (m2:m (Str.ofString "line")=some (.int k t)):yop FL FD RW P tl rows k sts i m nx
theorem yjI {tl:Led} {v:Value} {st:St} (h:DatIn tl v st.dat):∃b x t r n,v = .ref b/\(b,yal (.str x t::r) n)∈tl/\(x==Str.ofString "IF")=false:=by
 refine yab λGG hGG=>?_
 obtain ⟨b,rfl⟩:∃b,v = .ref b:=by cases st<;>(cases h;exact ⟨_,rfl⟩)
 obtain ⟨x,t,r,n,hm,hx⟩:=yd8 h
 refine hGG ?_;clear hGG GG
 refine ⟨b,x,t,r,n,rfl,hm,?_⟩
 simp only [List.mem_cons,List.not_mem_nil,or_false] at hx
 rcases hx with rfl|rfl|rfl|rfl|rfl|rfl<;>decide +kernel
theorem ynz {c:Cx} {h:Heap} {tk:Nat} {FL FD RW P I:Addr} {oI:Obj} {tl nx:Led} {rows:List (Int × St)} {k:Int} {sts:List St} {ys:List Value} {i:Nat} {m:Map} {v:Value} {PP':Flow->Shared->Prop} {tpos:Pos} (at0:∀tl,(c.on tl).At uP) (n1:FL≠FD) (n2:FL≠RW) (n3:FD≠RW) (offT:OwnOff tl [FL,FD,RW])
  (hl:rows.length<=20) (h2:sts.length<=2) (hys:DatAll tl ys (sts.map St.dat)) (hv:ys[i]? = some v) (J:yop FL FD RW P tl rows k sts i m nx) (F:Fr c.g c.L h m) (N:News c.g c.L h ((I,oI)::nx)) (nI:∀p∈nx,p.1≠I)
  (hP:∀s₃,TurnEnd c.g c.L c.s I oI (yop FL FD RW P tl rows k sts) i s₃->PP' .next s₃) :
  wpAny (MM c.w) c.A (assign (.Name (Str.ofString "statement") tpos) c.env v) (λ_ s₂=>wpAny (MM c.w) c.A (execs uB c.env) PP' c.E s₂) c.E (c.st h tk):=by
 refine yab λGG hGG=>?_
 obtain @⟨rvs,lw,fn,fes,tl2,t,rfl,Hf,R,off,m1,m2⟩:=J
 obtain ⟨d,hx0,hxd⟩:=ycq hys hv
 rw [List.getElem?_map] at hx0
 obtain ⟨st,hst,rfl⟩:=Option.map_eq_some_iff.mp hx0
 clear hx0 hys hv
 obtain ⟨b,x,t1,r,n,rfl,hb,hx⟩:=yjI hxd
 have hlen:rvs.length<=1000:=by
  have h1:=R.1
  rw [List.length_append,List.length_map,List.length_take] at h1;omega
 have offA:OwnOff ((I,oI)::(tl2++tl)) [FL,FD,RW]:=fC (fC ((nI _ (.head _)).symm) (fC ((nI _ (.tail _ (.head _))).symm) (fC ((nI _ (.tail _ (.tail _ (.head _)))).symm) fN))) (λp hp b hb=>(List.mem_append.mp hp).elim (λz=>off p z b (by
  rcases List.mem_cons.mp hb with rfl|hb
  ·exact .head _
  rcases List.mem_cons.mp hb with rfl|hb
  ·exact .tail _ (.head _)
  ·rw [List.mem_singleton.mp hb];exact .tail _ (.tail _ (.head _)))) λz=>offT p z b hb)
 have iT:Is (c.on ((I,oI)::(tl2++tl))) m [(FL,yaf 278 FD),(FD,dictOf fes fn),(RW,listOf rvs.toArray lw)] h:=by
  refine ⟨F,λq hq=>N q ?_,?_,λp hp q hq=>offA q hq p.1 (List.mem_map_of_mem (f:=(·.1)) hp)⟩
  ·rcases List.mem_cons.mp hq with rfl|hq
   ·exact .tail _ (.head _)
   rcases List.mem_cons.mp hq with rfl|hq
   ·exact .tail _ (.tail _ (.head _))
   rcases List.mem_cons.mp hq with rfl|hq
   ·exact .tail _ (.tail _ (.tail _ (.head _)))
   rcases List.mem_cons.mp hq with rfl|hq
   ·exact .head _
   ·exact .tail _ (.tail _ (.tail _ (.tail _ hq)))
  ·exact List.nodup_cons.mpr ⟨λz=>(List.mem_cons.mp z).elim n1 λz=>n2 (List.mem_singleton.mp z),List.nodup_cons.mpr ⟨λz=>n3 (List.mem_singleton.mp z),List.nodup_cons.mpr ⟨List.not_mem_nil,List.nodup_nil⟩⟩⟩
 have dT:Den (c.on ((I,oI)::(tl2++tl))) ⟨[rvs.length,k],[],[x],[b,P],[rvs],[],[]⟩ (uS []) m [(FL,yaf 278 FD),(FD,dictOf fes fn),(RW,listOf rvs.toArray lw)]:=by
  refine ⟨yaC (fC ⟨_,m1,FL,rfl,rfl⟩ (fC ⟨_,m2,k,t,rfl,rfl⟩ fN)),ya9 (.cons ⟨rfl,rfl⟩ (.cons ⟨rfl,Hf,nofun,.cons ⟨rfl,RW,rfl,rfl⟩ (.cons ⟨rfl,P,rfl,rfl⟩ .nil)⟩ (.cons ⟨rfl,by rw [List.append_nil],rfl,hlen,.nil,fN⟩ .nil))),fC (congrArg (λb=>some (!b)) hx) fN,λi y hy=>?_,(λx i h=>nomatch h),λi h=>nomatch h⟩
  refine yab λGG hGG=>?_
  rcases i with _|i
  ·cases hy;refine hGG ?_;clear hGG GG;exact ⟨rfl,.tail _ (List.mem_append_right _ hb),⟨(rfl:yal (.str x t1::r) n=yal ([.str x t1]++r) n),.cons ⟨x,t1,rfl,rfl⟩ .nil⟩⟩
  ·cases hy
 clear F N Hf m1 m2 hlen hb hx
 refine hGG ?_;clear hGG GG
 refine PyProof.Rows.assign_Name (ybU (c:=c.on ((I,oI)::(tl2++tl))) (at0 _) dT (a:=.q 0) (v:=.ref b) ⟨b,rfl,rfl⟩ yny iT λh2 tk2 m' n2 ek i2 d2=>?_)
 clear dT iT
 refine ybf (c:=c.on ((I,oI)::(tl2++tl))) (N:=λ_=>True) (yaR c.w) 40 (at0 _) uB d2 i2 u_1.1 u_1.2 (fC (λρ' ns' m' h3 tk3 H=>hP _ ?_) fN)
 have i3:=H.i
 have E:=ypm H ek
 clear H d2 i2 ek
 refine yab λGG hGG=>?_
 rcases E with @⟨fes',fn',lw',nD,D,t',t2',e,Hf',m1',m2'⟩
 ·subst e
  have offD:=λq (hq:q∈(I,oI)::(tl2++tl))=>i3.off (D,yal [.int k t',.ref b] nD) (.tail _ (.tail _ (.tail _ (.head _)))) q hq
  have nd:=i3.nd
  have dD:D ∉ ([FL,FD,RW]:List Addr):=λz=>by
   have:=(List.nodup_append.mp (show ([FL,FD,RW] ++ [D]:List Addr).Nodup from nd)).2.2 D z D (.head _)
   exact this rfl
  have hk:(sts.take (i+1)).map (λt=>(k,t))=(sts.take i).map (λt=>(k,t)) ++ [(k,st)]:=by rw [List.take_add_one,hst,List.map_append];rfl
  refine hGG ?_;clear hGG GG
  refine ⟨h3,tk3,m',_,rfl,i3.F,i3.N,List.mem_append_right _ (.head _),(FL,yaf 278 FD)::(FD,dictOf fes' fn')::(RW,listOf (rvs ++ [Value.ref D]).toArray lw')::(((D,yal [.int k t',.ref b] nD)::tl2)++tl),λq hq=>?_,.mk rfl Hf' ?_ ?_ m1' m2'⟩
  ·have o:=λq (hq:q∈[(FL,yaf 278 FD),(FD,dictOf fes' fn'),(RW,listOf (rvs ++ [Value.ref D]).toArray lw'),(D,yal [.int k t',.ref b] nD)])=>(⟨List.mem_append_left _ hq,λe=>i3.off q hq (I,oI) (.head _) e.symm⟩:q∈_++(I,oI)::(tl2++tl)/\q.1≠I)
   rcases List.mem_cons.mp hq with rfl|hq
   ·exact o _ (.head _)
   rcases List.mem_cons.mp hq with rfl|hq
   ·exact o _ (.tail _ (.head _))
   rcases List.mem_cons.mp hq with rfl|hq
   ·exact o _ (.tail _ (.tail _ (.head _)))
   rcases List.mem_cons.mp hq with rfl|hq
   ·exact o _ (.tail _ (.tail _ (.tail _ (.head _))))
   ·exact ⟨List.mem_append_right _ (.tail _ hq),nI q (.tail _ (.tail _ (.tail _ hq)))⟩
  ·rw [hk,<-List.append_assoc]
   exact (R.mono λq hq=>.tail _ hq).put (.head _) (hxd.mono λq hq=>.tail _ (List.mem_append_right _ hq))
  ·refine fC (λb hb e=>?_) off
   rcases List.mem_cons.mp hb with rfl|hb
   ·exact dD (e▸.head _)
   rcases List.mem_cons.mp hb with rfl|hb
   ·exact dD (e▸.tail _ (.head _))
   refine yab λGG hGG=>?_
   rcases List.mem_cons.mp hb with rfl|hb
   ·refine hGG ?_;clear hGG GG
    exact dD (e▸.tail _ (.tail _ (.head _)))
   ·obtain ⟨q,hq,rfl⟩:=List.mem_map.mp hb
    refine hGG ?_;clear hGG GG
    exact offD q (.tail _ (List.mem_append_right _ hq)) e.symm
section
variable {w:World} {mean:ExcName->Option Value} {mg mb:Str->Option Value} {base:Heap} {env:Env} {outer:List Env} {A:Around} {s:Shared} {Q E:Value->Shared->Prop}
theorem yfD {FL FD RW S P:Addr} {fes:List DictEntry} {fn lw n2:Nat} {rvs ys:List Value} {rows:List (Int × St)} {tl:List (Addr × Obj)} {k:Int} {tk0:Tok} {sts:List St}
  (St0:Std w mean mg mb base (env::outer) s.heap) (hf:A.frames=some (env::outer)) (hh:A.handled=none) (hdp:A.depth<=500) (hun:A.units<=2000)
  (O:ybZ base (env::outer) s.heap ((FL,yaf 278 FD)::(FD,dictOf fes fn)::(RW,listOf rvs.toArray lw)::tl)) (Hf:Has fes [(Str.ofString "rows",.ref RW),(Str.ofString "places",.ref P)]) (off:OwnOff tl [FL,FD,RW]) (n1:FL≠FD) (n2':FL≠RW) (n3:FD≠RW)
  (hR:RowsAre tl rvs rows) (hl:rows.length<=20) (hS:(S,listOf ys.toArray n2)∈tl) (hys:DatAll tl ys (sts.map St.dat)) (h2:sts.length<=2)
  (hret:∀rvs' lw' fes' fn' tl2 h' tk',ybK (((FL,yaf 278 FD)::(FD,dictOf fes fn)::(RW,listOf rvs.toArray lw)::tl).map (·.1)) s.heap h' ((FL,yaf 278 FD)::(FD,dictOf fes' fn')::(RW,listOf rvs'.toArray lw')::(tl2++tl))->Has fes' [(Str.ofString "rows",.ref RW),(Str.ofString "places",.ref P)] ->
   RowsAre (tl2++tl) rvs' (rows++sts.map λt=>(k,t))->OwnOff tl2 (FL::FD::RW::yae tl)->Q .none {s with heap:=h',toks:=tk'}) :
  wpAny (MM w) A (call (.ref 303) [.ref FL,.int k tk0,.ref S]) Q E s:=by
 have hr:(600:Nat)<recursionLimit:=by decide
 refine ybC (ymT w) St0 hf (by omega) O rfl λc h1 tk1 fc F N=>?_
 refine yab λGG hGG=>?_
 obtain ⟨p1,p2,p3,hb⟩:=ynx
 refine hGG ?_;clear hGG GG
 rw [hb]
 have at0:=fc.at (p:=uP) rfl (by show A.depth+1+40<=600;omega) (by show A.units+3+3 * 40<=3000;omega) hh
 have hh:=(at0 []).hh rfl
 have fin:=λrvs' lw' fes' fn' tl2 h' tk' a b c d=>fc.st (P:=Q .none) (hret rvs' lw' fes' fn' tl2 h' tk' a b c d)
 have po:=fc.po
 have kp:=fc.kp
 clear hret St0 O fc hf hdp hun
 have el:ys.length=sts.length:=by rw [hys.length,List.length_map]
 refine wpAny_execs_cons (ydx (ybr (c:=c.on []) (at0 _) F (v:=.ref S) rfl (by kernel_rfl) (yex (vs:=ys) (yop FL FD RW P tl rows k sts) hh F N (.mk (tl2:=[]) rfl Hf (by rw [List.take_zero,List.map_nil,List.append_nil];exact hR) fN rfl rfl) ?lst ?turn ?done (by intro _;rfl) po)) (by intro _;rfl))
 case lst=>
  rintro i m nx h ⟨rfl,_,_,_,_,_⟩ F N
  exact ⟨N.isList (.tail _ (.tail _ (.tail _ (List.mem_append_right _ hS)))),.inr ⟨_,.tail _ (.tail _ (.tail _ (List.mem_append_right _ hS)))⟩⟩
 case turn=>
  intro i v m₁ nx h tk I oI hv hJ F N nI
  exact ynz at0 n1 n2' n3 off hl h2 hys hv hJ F N nI λs₃ h=>h
 case done=>
  intro m₁ nx h tk hJ F N
  refine yab λGG hGG=>?_
  obtain @⟨rvs',lw',fn',fes',tl2,t,rfl,Hf',R,off2,_,_⟩:=hJ
  rw [el,List.take_length] at R
  refine hGG ?_;clear hGG GG
  exact wpAny_execs_nil (fin _ _ _ _ _ _ _ (yaN kp F N λ_ h=>h) Hf' R off2)
end
set_option genSizeOfSpec false
set_option genInjectivity false
noncomputable def flB:List Stmt:=yht (yfr.body.drop 1)
theorem ynA:∃p1 p2 p3 p4 p5 p6 p7 p8 p9 k,yfr.body=yfr.body.take 1 ++ [.For (.Tuple [.Name (Str.ofString "line") p1,.Name (Str.ofString "statements") p2] k p3) (.Name (Str.ofString "parsed") p4) flB [] p5,.Expr (.Call (.Name (Str.ofString "gather") p6) ([(Str.ofString "flat",p7)].map λx=>PySem.Expr.Name x.1 x.2) [] p8) p9]++yfr.body.drop 3:=⟨_,_,_,_,_,_,_,_,_,_,rfl⟩
noncomputable def flP:Pl:=⟨yfr.sc,60,false,true⟩
noncomputable def yes:List Stmt->PySem.Expr
 | .Assign _ v _::_=>v
 | _=>.Constant .none 0 ⟨0,0,0,0⟩
noncomputable def flF:List (Str × SV):=[(Str.ofString "rows",.r 2),(Str.ofString "places",.r 3)]
noncomputable def flO (kn:List (Z × Option SV)):List SO:=[.inst 278 1,.dct false flF,.vec 0 (.v 0) [] [],.map 0 kn]
noncomputable def flM (more:List (Str × SV)):List (Str × SV):=(Str.ofString "flat",.r 0)::more
noncomputable def fLS:List (Str × SV):=[(Str.ofString "line",.z (.v 1)),(Str.ofString "statements",.q 0)]
noncomputable def flS (more:List (Str × SV)) (kn:List (Z × Option SV)) (pc:List C):SS:=⟨flM more,[],flO kn,[],pc,none⟩
theorem f_0:(xSs (run YY 40) flP (yfr.body.take 1) ⟨[(Str.ofString "parsed",.q 0)],[],[],[],[],none⟩).map yaD = [.nx [(Str.ofString "parsed",.q 0),(Str.ofString "flat",.r 1)] [.dct true [(Str.ofString "rows",.r 2),(Str.ofString "places",.r 3),(Str.ofString "data",.r 4),(Str.ofString "pairs",.r 5),(Str.ofString "loops",.r 6),(Str.ofString "fns",.r 7)],.inst 278 0,.lst [],.emp,.lst [],.emp,.emp,.emp] []]/\yaI (xSs (run YY 40) flP (yfr.body.take 1) ⟨[(Str.ofString "parsed",.q 0)],[],[],[],[],none⟩)=true:=⟨by kernel_rfl,by kernel_rfl⟩
theorem ynB:ycv YY flP [.n (Str.ofString "line"),.n (Str.ofString "statements")] [.z (.v 1),.q 0] (flS [] [] [])=some (flS fLS [] []):=by kernel_rfl
theorem ynC:(run YY 40).E flP (yes flB) (flS fLS [] [])=one (.z (.v 0)) (flS fLS [] []):=by kernel_rfl
theorem yqz:(xSs (run YY 40) flP (flB.drop 2) (flS fLS [(.v 1,some (.z (.v 2)))] [.not (.eq (.v 2) (.v 0))])).map yaD = [.nx (flM fLS) (flO [(.v 1,some (.z (.v 2)))]) [.not (.eq (.v 2) (.v 0))]]/\yaI (xSs (run YY 40) flP (flB.drop 2) (flS fLS [(.v 1,some (.z (.v 2)))] [.not (.eq (.v 2) (.v 0))]))=true:=⟨by kernel_rfl,by kernel_rfl⟩
inductive FlO (w:World) (FL FD RW PL:Addr) (rvs:List Value) (kvs:List (Int × Value)) (ns:Led):Prop
 | mk {fes:List DictEntry} {fn lw:Nat} {po:Obj} (e:ns = [(FL,yaf 278 FD),(FD,dictOf fes fn),(RW,listOf rvs.toArray lw),(PL,po)]) (Hf:Has fes [(Str.ofString "rows",.ref RW),(Str.ofString "places",.ref PL)]) (lo:(PL==sysModules)=false) (hpo:po.IsDictOf (PySem.intKind PP w) kvs):FlO w FL FD RW PL rvs kvs ns
theorem ypn {w:World} {ρ:Rho} {as:List Addr} {i:Nat} {kp:List (Z × Option SV)} {a:Addr} {o:Obj} (h:yn5 w ρ as i kp a o):(a==sysModules)=false:=by
 refine yab λGG hGG=>?_
 obtain ⟨lo,_,_,_⟩:=h
 refine hGG ?_;clear hGG GG
 exact lo
theorem yjJ {w:World} {ρ:Rho} {ns:Led} {FL FD RW PL:Addr} {rvs:List Value} {kvs:List (Int × Value)} {kn:List (Z × Option SV)} (obs:DOs w ρ (yae ns) (flO kn) ns) (k0:yae ns = [FL,FD,RW,PL]) (hl:ρ.l[0]? = some rvs) (hk:ρ.k[0]? = some kvs):FlO w FL FD RW PL rvs kvs ns:=by
 have ix:∀{i:Nat} {a:Addr},([FL,FD,RW,PL]:List Addr)[i]? = some a->(yae ns)[i]? = some a:=λh=>k0▸h
 refine yab λGG hGG=>?_
 obtain ⟨o0,e0,d0⟩:=obs.atK (i:=0) rfl (ix rfl)
 obtain ⟨o1,e1,d1⟩:=obs.atK (i:=1) rfl (ix rfl)
 obtain ⟨o2,e2,d2⟩:=obs.atK (i:=2) rfl (ix rfl)
 obtain ⟨o3,e3,d3⟩:=obs.atK (i:=3) rfl (ix rfl)
 obtain ⟨fes,fn,f1,Hf⟩:=yk0 d1 (λw h=>ybW h (ix rfl)) λw h=>ybW h (ix rfl)
 obtain ⟨lw,f2⟩:=ylN d2 hl
 rw [yiE d0 (ix rfl)] at e0
 rw [f1] at e1
 rw [f2] at e2
 refine hGG ?_;clear hGG GG
 exact ⟨yk1 obs.len.symm e0 e1 e2 e3,Hf,ypn d3,ylO d3 hk⟩
set_option genSizeOfSpec false
set_option genInjectivity false
theorem yeZ {prog:Program} {w:World} {A:Around} {E:Value->Shared->Prop} {s:Shared} {h₀:Heap} {L d:Addr} {m:Map} {news:Led} {g:Obj->Led} {o:Obj} {kvs:List (Int × Value)} {k:Int} {t:Tok} {v:Value} {Q:Unit->Shared->Prop} (F:Fr h₀ L s.heap m) (N:News h₀ L s.heap news) (U:UpdF d o news g) (hd:o.IsDictOf (PySem.intKind prog w) kvs) (hn:valueAt kvs k=none) (hsz:kvs.length<=100)
  (h:∀h' o',Fr h₀ L h' m->News h₀ L h' (g o')->o'.IsDictOf (PySem.intKind prog w) (kvs ++ [(k,v)])->valueAt (kvs ++ [(k,v)]) k=some v->Q () {s with heap:=h',toks:=s.toks+1}):wpAny (model prog w) A (setItem (.ref d) (.int k t) v) Q E s:=
 kda_set F N U hd (intKind_is _ _ _ _) (Nat.le_trans hsz (by decide)) λh' o' F' N' hd'=>by
  rw [stored_absent hn] at hd'
  exact h h' o' F' N' hd' (yca hn)
theorem yiV {c:Cx} {h:Heap} {tk:Nat} {FL FD RW PL S:Addr} {rvs:List Value} {kvs:List (Int × Value)} {k:Int} {m:Map} {ns:Led} {Q:Flow->Shared->Prop} {p1 p2 p3 p4 p5:Pos} (f:c.At flP) (i:Is c m ns h) (d:Den c ⟨[rvs.length,k],[],[],[S],[rvs],[],[kvs]⟩ (flS fLS [] []) m ns) (k0:yae ns = [FL,FD,RW,PL]) (hn:valueAt kvs k=none) (hsz:kvs.length<=100)
  (K:∀h' tk' fes fn lw po t,Is c m [(FL,yaf 278 FD),(FD,dictOf fes fn),(RW,listOf rvs.toArray lw),(PL,po)] h'->Has fes [(Str.ofString "rows",.ref RW),(Str.ofString "places",.ref PL)]->(PL==sysModules)=false->po.IsDictOf (PySem.intKind PP c.w) (kvs ++ [(k,.int rvs.length t)])->Q .next (c.st h' tk')) :
  wpAny (MM c.w) c.A (exec (.Assign [.Subscript (.Attribute (.Name (Str.ofString "flat") p1) (Str.ofString "places") p2) (.Name (Str.ofString "line") p3) p4] (yes flB) p5) c.env) Q c.E (c.st h tk):=by
 refine wpAny_Assign_Subscript (((ybV (yaR c.w) 40).E c flP (yes flB) (flS fLS [] []) _ m ns rfl f d (by rw [ynC];exact ybS)).run i λv h7 t7 n7 i7 q=>?_) ?sw
 case sw=>exact yaV (by kernel_rfl)
 refine yab λGG hGG=>?_
 obtain ⟨hm,up,dv,d7⟩:=q
 rw [ynC] at hm
 cases List.mem_singleton.mp hm
 obtain ⟨t,rfl⟩:=ybt dv (yad up.z (i:=0) (rvs.length:Int) rfl)
 have k7:yae n7 = [FL,FD,RW,PL]:=by
  obtain ⟨r,hr⟩:=up.a
  have e:=congrArg List.length hr
  rw [List.length_append,k0,yae,List.length_map,<-d7.obs.len] at e
  have:r = []:=List.eq_nil_of_length_eq_zero (Nat.add_left_cancel (n:=4) e)
  rw [<-hr,this,List.append_nil,k0]
 have loc:=d7.loc
 have O:=yjJ d7.obs k7 (yad up.l (i:=0) rvs rfl) (yad up.k (i:=0) kvs rfl)
 have m1:=q_r (show DQ _ _ (some (SV.r 0)) _ from loc (Str.ofString "flat")) (a:=FL) (by rw [k7];rfl)
 obtain ⟨t2,m2⟩:=q_z (show DQ _ _ (some (SV.z (.v 1))) _ from loc (Str.ofString "line")) (yad up.z (i:=1) k rfl)
 clear d7 loc dv hm up d i k7
 rcases O with @⟨fes,fn,lw,po,e,Hf,lo,hpo⟩
 ·subst e
  have G:=(yaR c.w).gets (278,Str.ofString "places") (List.mem_of_getElem? (i:=12) rfl)
  obtain ⟨u,e1,e2⟩:=G.c
  refine hGG ?_;clear hGG GG
  refine Attribute_any_ (ybr f i7.F m1 (by kernel_rfl) (get_own i7.F f.f.X (InstAt.of_news i7.N (i7.mem (i:=0) rfl) (i7.mem (i:=1) rfl)) G.a G.b e1 e2 (Hf.all _ (.tail _ (.head _))) rfl ?_)) (yb6 rfl)
  refine ybr f i7.F m2 (by kernel_rfl) ?_
  refine yeZ i7.F i7.N (i7.upd (i:=3) rfl) hpo hn hsz λh' o' F' N' hd' _=>?_
  exact K h' _ fes fn lw o' t (i7.set (i:=3) rfl F' N') Hf lo hd'
set_option genSizeOfSpec false
set_option genInjectivity false
theorem ynD {T R:Led} {c:Cx} {h:Heap} {tk:Nat} {FL FD RW PL S:Addr} {rvs ys:List Value} {fes:List DictEntry} {fn lw n2:Nat} {po:Obj} {k:Int} {t:Tok} {rows:List (Int × St)} {sts:List St} {m:Map} {Q:Flow->Shared->Prop} {p6 p7 p8 p9 p10 p11:Pos} (inT:∀q∈T,q∈c.tl) (inR:∀q∈R,q∈c.tl/\q.1 ∉ yae T) (cov:∀q∈c.tl,q∈T∨q∈R) (f:c.At flP) (hdp:c.A.depth<=500) (hun:c.A.units<=2000) (i:Is c m [(FL,yaf 278 FD),(FD,dictOf fes fn),(RW,listOf rvs.toArray lw),(PL,po)] h) (Hf:Has fes [(Str.ofString "rows",.ref RW),(Str.ofString "places",.ref PL)])
  (m1:m (Str.ofString "flat")=some (.ref FL)) (m2:m (Str.ofString "line")=some (.int k t)) (m3:m (Str.ofString "statements")=some (.ref S)) (hR:RowsAre T rvs rows) (hl:rows.length<=20) (hS:(S,listOf ys.toArray n2)∈T) (hys:DatAll T ys (sts.map St.dat)) (h2:sts.length<=2)
  (K:∀h' tk' fes' fn' rvs' lw' tl2,Fr c.g c.L h' m->News c.g c.L h' ((FL,yaf 278 FD)::(FD,dictOf fes' fn')::(RW,listOf rvs'.toArray lw')::(PL,po)::(tl2++c.tl))->Has fes' [(Str.ofString "rows",.ref RW),(Str.ofString "places",.ref PL)]->RowsAre (tl2++T) rvs' (rows++sts.map λt=>(k,t))->OwnOff tl2 (FL::FD::RW::PL::yae c.tl)->Q .next (c.st h' tk')) :
  wpAny (MM c.w) c.A (exec (.Expr (.Call (.Name (Str.ofString "put_all") p6) ([(Str.ofString "flat",p7),(Str.ofString "line",p8),(Str.ofString "statements",p9)].map λx=>PySem.Expr.Name x.1 x.2) [] p10) p11) c.env) Q c.E (c.st h tk):=by
 have hi:interactive c.env=false:=by unfold interactive;rw [show c.env.scope=c.sc from rfl,f.f.fn];rfl
 refine wpAny_Expr_any (ybg (b:=303) (us:=[.ref FL,.int k t,.ref S]) f i.F (by k_is) (by k_is) (by kernel_rfl) (.cons ⟨m1,by kernel_rfl⟩ (.cons ⟨m2,by kernel_rfl⟩ (.cons ⟨m3,by kernel_rfl⟩ .nil))) nofun ?_) hi (yaV rfl)
 refine yab λGG hGG=>?_
 obtain ⟨mean,mg,mb,St⟩:=ydo f rfl i
 have nd:([FL,FD,RW,PL]:List Addr).Nodup:=i.nd
 have ne:=fun {x y:Addr} {a b:Nat} (h1:([FL,FD,RW,PL]:List Addr)[a]? = some x) (h2:([FL,FD,RW,PL]:List Addr)[b]? = some y) (n:a≠b)=>(yaM (ns:=[(FL,yaf 278 FD),(FD,dictOf fes fn),(RW,listOf rvs.toArray lw),(PL,po)]) nd h1 h2 n)
 have sub:∀p∈(FL,yaf 278 FD)::(FD,dictOf fes fn)::(RW,listOf rvs.toArray lw)::T,p∈[(FL,yaf 278 FD),(FD,dictOf fes fn),(RW,listOf rvs.toArray lw),(PL,po)]++c.tl:=fC (.head _) (fC (.tail _ (.head _)) (fC (.tail _ (.tail _ (.head _))) (λp hp=>List.mem_append_right _ (inT p hp))))
 have off:OwnOff c.tl [FL,FD,RW,PL]:=λp hp b hb=>by
  refine yab λGG hGG=>?_
  obtain ⟨q,hq,rfl⟩:=List.mem_map.mp (show b∈yae [(FL,yaf 278 FD),(FD,dictOf fes fn),(RW,listOf rvs.toArray lw),(PL,po)] from hb)
  refine hGG ?_;clear hGG GG
  exact i.off q hq p hp
 have off3:OwnOff T [FL,FD,RW]:=λp hp b hb=>off p (inT p hp) b (List.mem_append_left [PL] hb)
 refine hGG ?_;clear hGG GG
 refine yfD St f.f.fr (f.hh rfl) hdp hun (yc1 f rfl i sub) Hf off3 (ne (a:=0) (b:=1) rfl rfl (by decide)) (ne (a:=0) (b:=2) rfl rfl (by decide)) (ne (a:=1) (b:=2) rfl rfl (by decide)) hR hl hS hys h2 λrvs' lw' fes' fn' tl2 h' tk' P Hf' hR2 off2=>?_
 have nPL:PL ∉ ((FL,yaf 278 FD)::(FD,dictOf fes fn)::(RW,listOf rvs.toArray lw)::T).map (·.1):=λz=>by
  rcases List.mem_cons.mp z with z|z
  ·exact ne (a:=3) (b:=0) rfl rfl (by decide) z
  rcases List.mem_cons.mp z with z|z
  ·exact ne (a:=3) (b:=1) rfl rfl (by decide) z
  rcases List.mem_cons.mp z with z|z
  ·exact ne (a:=3) (b:=2) rfl rfl (by decide) z
  ·obtain ⟨q,hq,e⟩:=List.mem_map.mp z
   exact off q (inT q hq) PL (.tail _ (.tail _ (.tail _ (.head _)))) e
 have nR:∀q∈R,q.1 ∉ ((FL,yaf 278 FD)::(FD,dictOf fes fn)::(RW,listOf rvs.toArray lw)::T).map (·.1):=λq hq z=>by
  have oI:=off _ (inR q hq).1
  rcases List.mem_cons.mp z with z|z
  ·exact oI _ (.head _) z
  rcases List.mem_cons.mp z with z|z
  ·exact oI _ (.tail _ (.head _)) z
  rcases List.mem_cons.mp z with z|z
  ·exact oI _ (.tail _ (.tail _ (.head _))) z
  ·exact (inR q hq).2 z
 obtain ⟨F',N'⟩:=yd2 i.F i.N (rest:=(PL,po)::R) ⟨sub,fC ⟨.tail _ (.tail _ (.tail _ (.head _))),nPL⟩ (λq hq=>⟨List.mem_append_right _ (inR q hq).1,nR q hq⟩)⟩ P
 refine K h' tk' fes' fn' rvs' lw' tl2 F' ?_ Hf' hR2 λp hp b hb e=>?_
 ·refine fC (N' _ (.head _)) (fC (N' _ (.tail _ (.head _))) (fC (N' _ (.tail _ (.tail _ (.head _)))) (fC (N' _ (List.mem_append_right _ (.head _))) (λq hq=>?_))))
  rcases List.mem_append.mp hq with hq|hq
  ·exact N' q (List.mem_append_left _ (.tail _ (.tail _ (.tail _ (List.mem_append_left _ hq)))))
  ·rcases cov q hq with hq|hq
   ·exact N' q (List.mem_append_left _ (.tail _ (.tail _ (.tail _ (List.mem_append_right _ hq)))))
   ·exact N' _ (List.mem_append_right _ (.tail _ hq))
 ·refine yab λGG hGG=>?_
  obtain ⟨q,hq,rfl⟩:=List.mem_map.mp (show b∈yae ([(FL,yaf 278 FD),(FD,dictOf fes fn),(RW,listOf rvs.toArray lw),(PL,po)]++c.tl) from hb)
  have new:=P.new p (.tail _ (.tail _ (.tail _ (List.mem_append_left _ hp)))) λz=>off2 p hp _ z rfl
  rw [e,(i.N q hq).1] at new
  cases new
set_option genSizeOfSpec false
set_option genInjectivity false
inductive FlI (w:World) (FL FD RW PL:Addr) (tl T1:Led) (p:ybM) (i:Nat) (m:Map) (nx:Led):Prop
 | mk {rvs:List Value} {lw fn:Nat} {fes:List DictEntry} {kvs:List (Int × Value)} {po:Obj} {tl2:Led} (e:nx=(FL,yaf 278 FD)::(FD,dictOf fes fn)::(RW,listOf rvs.toArray lw)::(PL,po)::(tl2++(tl++T1))) (Hf:Has fes [(Str.ofString "rows",.ref RW),(Str.ofString "places",.ref PL)])
  (hR:RowsAre (tl2++tl) rvs (yak (p.take i))) (hpo:po.IsDictOf (PySem.intKind PP w) kvs) (sp:SpotsAre kvs (yam 0 (p.take i))) (off:OwnOff tl2 (FL::FD::RW::PL::yae (tl++T1))) (m1:m (Str.ofString "flat")=some (.ref FL)):FlI w FL FD RW PL tl T1 p i m nx
theorem ypo {c:Cx} {h:Heap} {tk:Nat} {FL FD RW PL S:Addr} {rvs:List Value} {fes:List DictEntry} {fn lw:Nat} {po:Obj} {n0:Int} {k:Int} {t t0:Tok} {kvs:List (Int × Value)} {m:Map} {P:Flow->Shared->Prop} (f:c.At flP) (i:Is c m [(FL,yaf 278 FD),(FD,dictOf fes fn),(RW,listOf rvs.toArray lw),(PL,po)] h) (Hf:Has fes [(Str.ofString "rows",.ref RW),(Str.ofString "places",.ref PL)])
  (m1:m (Str.ofString "flat")=some (.ref FL)) (m2:m (Str.ofString "line")=some (.int k t)) (m3:m (Str.ofString "statements")=some (.ref S)) (lo:(PL==sysModules)=false) (hpo:po.IsDictOf (PySem.intKind PP c.w) kvs) (hv:valueAt kvs k=some (.int n0 t0)) (hne:n0≠rvs.length) (hl:rvs.length<=1000)
  (K:∀h' tk' m' ns',Is c m' ns' h'->FlO c.w FL FD RW PL rvs kvs ns'->m' (Str.ofString "flat")=some (.ref FL)->P .next (c.st h' tk')):wpAny (MM c.w) c.A (execs (flB.drop 2) c.env) P c.E (c.st h tk):=by
 have d:Den c ⟨[rvs.length,k,n0],[],[],[S],[rvs],[],[kvs]⟩ (flS fLS [(.v 1,some (.z (.v 2)))] [.not (.eq (.v 2) (.v 0))]) m [(FL,yaf 278 FD),(FD,dictOf fes fn),(RW,listOf rvs.toArray lw),(PL,po)]:=by
  refine ⟨yaC (fC ⟨_,m1,FL,rfl,rfl⟩ (fC ⟨_,m2,k,t,rfl,rfl⟩ (fC ⟨_,m3,S,rfl,rfl⟩ fN))),ya9 (.cons ⟨rfl,rfl⟩ (.cons ⟨rfl,Hf,nofun,.cons ⟨rfl,RW,rfl,rfl⟩ (.cons ⟨rfl,PL,rfl,rfl⟩ .nil)⟩ (.cons ⟨rfl,by rw [List.append_nil],rfl,hl,.nil,fN⟩ (.cons ⟨lo,rfl,hpo,fC ⟨rfl,hv▸.some ⟨n0,t0,rfl,rfl⟩⟩ fN⟩ .nil)))),fC ?_ fN,(λi x h=>nomatch h),(λx i h=>nomatch h),λi h=>nomatch h⟩
  exact congrArg some (show (!decide (n0=(rvs.length:Int)))=true by rw [decide_eq_false hne];rfl)
 refine ybf (N:=λ_=>True) (yaR c.w) 40 f (flB.drop 2) d i yqz.1 yqz.2 (fC (λρ' ns' m' h3 tk3 H=>?_) fN)
 have up:=H.up
 have k7:yae ns' = [FL,FD,RW,PL]:=by
  obtain ⟨r,hr⟩:=up.a
  have e:=congrArg List.length hr
  rw [List.length_append,yae,List.length_map,yae,List.length_map,<-H.obs.len] at e
  have:r = []:=List.eq_nil_of_length_eq_zero (Nat.add_left_cancel (n:=4) e)
  rw [<-hr,this,List.append_nil];rfl
 exact K h3 tk3 m' ns' H.i (yjJ H.obs k7 (yad up.l (i:=0) rvs rfl) (yad up.k (i:=0) kvs rfl)) (q_r (show DQ _ _ (some (SV.r 0)) _ from H.loc (Str.ofString "flat")) (by rw [k7];rfl))
theorem ylh:∃p1 p2 p3 p4 p5 p6 p7 p8 p9 p10 p11,flB = .Assign [.Subscript (.Attribute (.Name (Str.ofString "flat") p1) (Str.ofString "places") p2) (.Name (Str.ofString "line") p3) p4] (yes flB) p5::.Expr (.Call (.Name (Str.ofString "put_all") p6) ([(Str.ofString "flat",p7),(Str.ofString "line",p8),(Str.ofString "statements",p9)].map λx=>PySem.Expr.Name x.1 x.2) [] p10) p11::flB.drop 2:=⟨_,_,_,_,_,_,_,_,_,_,_,rfl⟩
theorem yli {c:Cx} {h:Heap} {tk n1 n2 kk:Nat} {FL FD RW PL I D S:Addr} {oI:Obj} {tl T1 nx:Led} {p:ybM} {k:Int} {t:Tok} {sts:List St} {ys:List Value} {i:Nat} {m:Map} {P:Flow->Shared->Prop} {q1 q2 q3:Pos} (at0:∀tl,(c.on tl).At flP) (hdp:c.A.depth<=500) (hun:c.A.units<=2000) (lo:(PL==sysModules)=false) (nd:([FL,FD,RW,PL]:List Addr).Nodup) (offT:OwnOff (tl++T1) [FL,FD,RW,PL]) (off1:OwnOff T1 (yae tl))
  (V:Valid p) (hx:p[i]? = some (k,sts)) (hD:(D,yal [.int k t,.ref S] n1)∈tl) (hS:(S,listOf ys.toArray n2)∈tl) (hys:DatAll tl ys (sts.map St.dat)) (J:FlI c.w FL FD RW PL tl T1 p i m nx) (F:Fr c.g c.L h m) (N:News c.g c.L h ((I,oI)::nx)) (nI:∀p∈nx,p.1≠I) (hP:∀s₃,TurnEnd c.g c.L c.s I oI (FlI c.w FL FD RW PL tl T1 p) i s₃->P .next s₃) :
  wpAny (MM c.w) c.A (assign (.Tuple [.Name (Str.ofString "line") q1,.Name (Str.ofString "statements") q2] kk q3) c.env (.ref D)) (λ_ s₂=>wpAny (MM c.w) c.A (execs flB c.env) P c.E s₂) c.E (c.st h tk):=by
 refine yab λGG hGG=>?_
 obtain @⟨rvs,lw,fn,fes,kvs,po,tl2,rfl,Hf,hR,hpo,sp,off,m1⟩:=J
 obtain ⟨ok1,ok2,_⟩:=V.ok _ (List.mem_of_getElem? hx)
 have hpn:=sp.none (V.new hx)
 have hrl:(yak (p.take i)).length<=10:=by
  have h1:=V.sp.2.2.2.1
  rw [<-List.take_append_drop i p,ybk,List.length_append] at h1;omega
 have hkl:kvs.length<=100:=by
  have h1:=sp.length
  have h2:=congrArg List.length (yaO 0 (p.take i))
  have h3:=V.sp.2.2.2.2
  simp only [List.length_map,List.length_take] at h2;omega
 have hlen:=hR.1
 obtain ⟨U,hU⟩:∃U,U=(I,oI)::(tl2++(tl++T1)):=⟨_,rfl⟩
 have uI:(I,oI)∈U:=hU▸.head _
 have inT:∀q∈tl2++tl,q∈U:=λq hq=>hU▸.tail _ ((List.mem_append.mp hq).elim (λz=>List.mem_append_left _ z) λz=>List.mem_append_right _ (List.mem_append_left _ z))
 have inU:∀q∈tl,q∈U:=λq hq=>inT q (List.mem_append_right _ hq)
 have in1:∀q∈T1,q∈U:=λq hq=>hU▸.tail _ (List.mem_append_right _ (List.mem_append_right _ hq))
 have cov:∀q∈U,q∈tl2++tl∨q∈(I,oI)::T1:=λq hq=>by
  rw [hU,<-List.append_assoc] at hq
  rcases List.mem_cons.mp hq with rfl|hq
  ·exact .inr (.head _)
  ·exact (List.mem_append.mp hq).imp id (.tail _)
 have nIT:∀q∈tl2++tl,q.1≠I:=λq hq=>nI q (.tail _ (.tail _ (.tail _ (.tail _ ((List.mem_append.mp hq).elim (λz=>List.mem_append_left _ z) λz=>List.mem_append_right _ (List.mem_append_left _ z))))))
 have inR:∀q∈(I,oI)::T1,q∈U/\q.1 ∉ yae (tl2++tl):=fC ⟨uI,λz=>by
  obtain ⟨q,hq,e⟩:=List.mem_map.mp z
  exact nIT q hq e⟩ (λq hq=>⟨in1 q hq,λz=>by
  obtain ⟨r,hr,e⟩:=List.mem_map.mp z
  rcases List.mem_append.mp hr with hr|hr
  ·exact off r hr q.1 (.tail _ (.tail _ (.tail _ (.tail _ (List.mem_map_of_mem (f:=(·.1)) (List.mem_append_right tl hq)))))) e
  ·exact off1 q hq r.1 (List.mem_map_of_mem (f:=(·.1)) hr) e.symm⟩)
 have offU:OwnOff U [FL,FD,RW,PL]:=hU▸fC (fC ((nI _ (.head _)).symm) (fC ((nI _ (.tail _ (.head _))).symm) (fC ((nI _ (.tail _ (.tail _ (.head _)))).symm) (fC ((nI _ (.tail _ (.tail _ (.tail _ (.head _))))).symm) fN)))) (λp hp b hb=>(List.mem_append.mp hp).elim (λz=>off p z b (List.mem_append_left (yae (tl++T1)) hb)) λz=>offT p z b hb)
 have N0:News c.g c.L h U:=λq hq=>by
  rw [hU] at hq
  rcases List.mem_cons.mp hq with rfl|hq
  ·exact N _ (.head _)
  ·exact N q (.tail _ (.tail _ (.tail _ (.tail _ (.tail _ hq)))))
 have i0:Is (c.on U) m [(FL,yaf 278 FD),(FD,dictOf fes fn),(RW,listOf rvs.toArray lw),(PL,po)] h:=⟨F,fC (N _ (.tail _ (.head _))) (fC (N _ (.tail _ (.tail _ (.head _)))) (fC (N _ (.tail _ (.tail _ (.tail _ (.head _))))) (fC (N _ (.tail _ (.tail _ (.tail _ (.tail _ (.head _)))))) N0))),nd,λp hp q hq=>offU q hq p.1 (List.mem_map_of_mem (f:=(·.1)) hp)⟩
 have lk:∀q∈U,q.1≠I->q∈tl2++(tl++T1):=λq hq n=>by
  rw [hU] at hq
  rcases List.mem_cons.mp hq with rfl|hq
  ·exact absurd rfl n
  ·exact hq
 have off':∀b,b∈FL::FD::RW::PL::yae (tl++T1)->b∈FL::FD::RW::PL::yae U:=λb hb=>by
  rcases List.mem_cons.mp hb with rfl|hb
  ·exact .head _
  rcases List.mem_cons.mp hb with rfl|hb
  ·exact .tail _ (.head _)
  rcases List.mem_cons.mp hb with rfl|hb
  ·exact .tail _ (.tail _ (.head _))
  refine yab λGG hGG=>?_
  rcases List.mem_cons.mp hb with rfl|hb
  ·refine hGG ?_;clear hGG GG
   exact .tail _ (.tail _ (.tail _ (.head _)))
  ·obtain ⟨q,hq,rfl⟩:=List.mem_map.mp hb
   refine hGG ?_;clear hGG GG
   exact .tail _ (.tail _ (.tail _ (.tail _ (List.mem_map_of_mem (f:=(·.1)) ((List.mem_append.mp hq).elim (inU q) (in1 q))))))
 have sub2:∀q∈tl2++(tl++T1),q∈U/\q.1≠I:=λq hq=>⟨hU▸.tail _ hq,nI q (.tail _ (.tail _ (.tail _ (.tail _ hq))))⟩
 clear lk offT off1 N0 N F hU
 have d0:Den (c.on U) ⟨[rvs.length,k],[],[],[S],[rvs],[],[kvs]⟩ (flS [] [] []) m [(FL,yaf 278 FD),(FD,dictOf fes fn),(RW,listOf rvs.toArray lw),(PL,po)]:=
  ⟨yaC (fC ⟨_,m1,FL,rfl,rfl⟩ fN),ya9 (.cons ⟨rfl,rfl⟩ (.cons ⟨rfl,Hf,nofun,.cons ⟨rfl,RW,rfl,rfl⟩ (.cons ⟨rfl,PL,rfl,rfl⟩ .nil)⟩ (.cons ⟨rfl,by rw [List.append_nil],rfl,by omega,.nil,fN⟩ (.cons ⟨lo,rfl,hpo,fN⟩ .nil)))),fN,(λi x h=>nomatch h),(λx i h=>nomatch h),λi h=>nomatch h⟩
 refine hGG ?_;clear hGG GG
 refine yc8 i0.F i0.N (News.isTup i0.N (List.mem_append_right _ (inU _ hD))) (.inl ((at0 []).hh rfl)) rfl rfl λh5 F5 N5=>?_
 refine ybx (c:=c.on U) (yaR c.w) (at0 _) (yci (es:=[.Name (Str.ofString "line") q1,.Name (Str.ofString "statements") q2]) rfl).1 d0 (as:=[.z (.v 1),.q 0]) (.cons ⟨k,t,rfl,rfl⟩ (.cons ⟨S,rfl,rfl⟩ .nil)) ynB ⟨F5,N5,i0.nd,i0.off⟩ λh6 tk6 m6 n6 ek i6 d6=>?_
 refine yab λGG hGG=>?_
 obtain ⟨p1,p2,p3,p4,p5,p6,p7,p8,p9,p10,p11,hb⟩:=ylh
 refine hGG ?_;clear hGG GG
 rw [hb]
 clear hb d0 i0 F5 N5 m1 Hf hpo
 have k6:yae n6 = [FL,FD,RW,PL]:=ek
 have loc:=d6.loc
 have m1:=q_r (show DQ _ _ (some (SV.r 0)) _ from loc (Str.ofString "flat")) (a:=FL) (by rw [k6];rfl)
 obtain ⟨t2,m2⟩:=q_z (show DQ _ _ (some (SV.z (.v 1))) _ from loc (Str.ofString "line")) (k:=k) rfl
 have m3:=q_q (show DQ _ _ (some (SV.q 0)) _ from loc (Str.ofString "statements")) (a:=S) rfl
 clear loc
 refine wpAny_execs_cons (yiV (c:=c.on U) (at0 _) i6 d6 k6 hpn hkl λh7 tk7 fes7 fn7 lw7 po7 t7 i7 Hf7 lo7 hpo7=>?_)
 clear d6 i6 ek k6
 refine wpAny_execs_cons (ynD (c:=c.on U) inT inR cov (at0 _) hdp hun i7 Hf7 m1 m2 m3 hR (by omega) (List.mem_append_right _ hS) (hys.mono λq hq=>List.mem_append_right _ hq) ok2 λh8 tk8 fes8 fn8 rvs8 lw8 tl3 F8 N8 Hf8 R8 off8=>?_)
 have l8:=R8.1
 rw [List.length_append,List.length_map] at l8
 have ok1':1<=sts.length:=ok1
 have ok2':sts.length<=2:=ok2
 clear i7 Hf7 hS hys inR cov
 refine ypo (c:=c.on (tl3++U)) (at0 _) ⟨F8,N8,nd,λp hp q hq=>(List.mem_append.mp hq).elim (λz=>off8 q z p.1 (List.mem_append_left (yae U) (List.mem_map_of_mem (f:=(·.1)) hp))) λz=>offU q z p.1 (List.mem_map_of_mem (f:=(·.1)) hp)⟩ Hf8 m1 m2 m3 lo7 hpo7 (yca hpn) (by omega) (by omega) λh9 tk9 m9 ns9 i9 O m1'=>?_
 have oI9:∀q∈ns9,q.1≠I:=λq hq e=>i9.off q hq (I,oI) (List.mem_append_right _ uI) e.symm
 refine yab λGG hGG=>?_
 rcases O with @⟨fes9,fn9,lw9,po9,e,Hf9,lo9,hpo9⟩
 ·subst e
  refine hGG ?_;clear hGG GG
  refine hP _ ⟨h9,tk9,m9,_,rfl,i9.F,i9.N,List.mem_append_right _ (List.mem_append_right _ uI),(FL,yaf 278 FD)::(FD,dictOf fes9 fn9)::(RW,listOf rvs8.toArray lw9)::(PL,po9)::((tl3++tl2)++(tl++T1)),λq hq=>?_,.mk rfl Hf9 ?_ hpo9 ?_ ?_ m1'⟩
  ·have o:=λq hq=>(⟨List.mem_append_left _ hq,oI9 q hq⟩:q∈[(FL,yaf 278 FD),(FD,dictOf fes9 fn9),(RW,listOf rvs8.toArray lw9),(PL,po9)]++(tl3++U)/\q.1≠I)
   rcases List.mem_cons.mp hq with rfl|hq
   ·exact o _ (.head _)
   rcases List.mem_cons.mp hq with rfl|hq
   ·exact o _ (.tail _ (.head _))
   rcases List.mem_cons.mp hq with rfl|hq
   ·exact o _ (.tail _ (.tail _ (.head _)))
   rcases List.mem_cons.mp hq with rfl|hq
   ·exact o _ (.tail _ (.tail _ (.tail _ (.head _))))
   rw [List.append_assoc] at hq
   rcases List.mem_append.mp hq with hq|hq
   ·exact ⟨List.mem_append_right _ (List.mem_append_left _ hq),off8 q hq I (.tail _ (.tail _ (.tail _ (.tail _ (List.mem_map_of_mem (f:=(·.1)) uI)))))⟩
   ·exact (sub2 q hq).imp (λz=>List.mem_append_right _ (List.mem_append_right _ z)) id
  ·rw [ydJ hx,List.append_assoc];exact R8
  ·rw [ycT hx]
   have key:=sp.put k (yak (p.take i)).length t7
   rw [<-hlen] at key ⊢
   exact key
  ·exact λq hq b hb=>(List.mem_append.mp hq).elim (λz=>off8 q z b (off' b hb)) λz=>off q z b hb
set_option genSizeOfSpec false
set_option genInjectivity false
theorem yc3 {w:World} {n:Nat}:(dictOf [] n).IsDictOf (PySem.intKind PP w) []:=⟨#[],n,⟨rfl,rfl,rfl⟩,rfl,λ_ he=>(Array.not_mem_empty _ he).elim,Pairs.nil,List.nodup_nil⟩
theorem ynE:(xSs (run YY 40) flP (yfr.body.drop 3) ⟨[(Str.ofString "flat",.q 0)],[],[],[],[],none⟩).map yaD = [.ret (.q 0) [] []]/\yaI (xSs (run YY 40) flP (yfr.body.drop 3) ⟨[(Str.ofString "flat",.q 0)],[],[],[],[],none⟩)=true:=⟨by kernel_rfl,by kernel_rfl⟩
theorem yhv {ρ:Rho} {as:List Addr} {o:Obj} (h:yoG ρ as [] o):∃n,o=listOf ([]:List Value).toArray n:=by
 obtain ⟨eo,D⟩:=h
 rw [yar D] at eo
 exact ⟨_,eo⟩
theorem yjK {a:Addr} {o:Obj} (h:yoK a o):∃n,(a==sysModules)=false/\o=dictOf [] n:=by
 obtain ⟨lo,e⟩:=h
 exact ⟨_,lo,e⟩
theorem ye0 {α:Type} {n:Nat} {l:List α} (h:l.length=n+1):∃a r,l=a::r/\r.length=n:=by
 rcases l with _|⟨a,r⟩
 ·cases h
 ·exact ⟨a,r,rfl,Nat.succ.inj h⟩
theorem ypp {α:Type} {l:List α} (h:l.length=8):∃a b c d r,l=a::b::c::d::r:=by
 refine yab λGG hGG=>?_
 obtain ⟨p0,r0,rfl,l0⟩:=ye0 h
 obtain ⟨p1,r1,rfl,l1⟩:=ye0 l0
 obtain ⟨p2,r2,rfl,l2⟩:=ye0 l1
 obtain ⟨p3,r3,rfl,_⟩:=ye0 l2
 refine hGG ?_;clear hGG GG
 exact ⟨_,_,_,_,_,rfl⟩
noncomputable def f0O:List SO:=[.dct true [(Str.ofString "rows",.r 2),(Str.ofString "places",.r 3),(Str.ofString "data",.r 4),(Str.ofString "pairs",.r 5),(Str.ofString "loops",.r 6),(Str.ofString "fns",.r 7)],.inst 278 0,.lst [],.emp,.lst [],.emp,.emp,.emp]
inductive FlN (w:World) (tl:Led) (ns:Led) (m:Map):Prop
 | mk {FL FD RW PL:Addr} {fes:List DictEntry} {fn lw:Nat} {po:Obj} {r:Led} (e:ns=(FD,dictOf fes fn)::(FL,yaf 278 FD)::(RW,listOf ([]:List Value).toArray lw)::(PL,po)::r) (Hf:Has fes [(Str.ofString "rows",.ref RW),(Str.ofString "places",.ref PL)]) (hpo:po.IsDictOf (PySem.intKind PP w) []) (lo:(PL==sysModules)=false) (m1:m (Str.ofString "flat")=some (.ref FL)):FlN w tl ns m
theorem ynF {c:Cx} {ρ ρ':Rho} {ns0 ns:Led} {m:Map} {h:Heap} (H:Here c ρ ρ' ns0 ns m [(Str.ofString "parsed",.q 0),(Str.ofString "flat",.r 1)] f0O [] h):FlN c.w c.tl ns m:=by
 have obs:=H.obs
 have loc:=H.loc
 clear H
 refine yab λGG hGG=>?_
 obtain ⟨p0,p1,p2,p3,r,e⟩:=ypp obs.len.symm
 have ix:∀{i:Nat} {p:Addr × Obj},(p0::p1::p2::p3::r)[i]? = some p->ns[i]? = some p:=λh=>e▸h
 have d0:=obs.all 0 _ _ rfl (ix rfl)
 have d1:=obs.all 1 _ _ rfl (ix rfl)
 have d2:=obs.all 2 _ _ rfl (ix rfl)
 have d3:=obs.all 3 _ _ rfl (ix rfl)
 have m1:=q_r (show DQ _ _ (some (SV.r 1)) _ from loc (Str.ofString "flat")) (yaw (ix (i:=1) rfl))
 obtain ⟨fes,fn,f0,Hf⟩:=yk0 d0 (λw h=>ybW h (yaw (ix (i:=2) rfl))) λw h=>ybW h (yaw (ix (i:=3) rfl))
 obtain ⟨n,f2⟩:=yhv d2
 obtain ⟨n3,lo,f3⟩:=yjK d3
 have f1:=yiE d1 (yaw (ix (i:=0) rfl))
 clear obs loc ix d0 d1 d2 d3
 obtain ⟨a0,o0⟩:=p0
 obtain ⟨a1,o1⟩:=p1
 obtain ⟨a2,o2⟩:=p2
 obtain ⟨a3,o3⟩:=p3
 refine hGG ?_;clear hGG GG
 exact ⟨by rw [e,show o0=_ from f0,show o1=_ from f1,show o2=_ from f2],Hf,(show o3=_ from f3)▸yc3,lo,m1⟩
theorem yfE {tl:Led} {rvs:List Value} {rows:List (Int × St)} (hR:RowsAre tl rvs rows):∀v∈rvs,∃a b n x t r n2 k tk,v = .ref a/\(a,yal [.int k tk,.ref b] n)∈tl/\(b,yal (.str x t::r) n2)∈tl/\x∈[Str.ofString "ERROR",Str.ofString "REM",Str.ofString "ONERR",Str.ofString "RESUME",Str.ofString "INNER",Str.ofString "END"]:=λv hv=>by
 obtain ⟨i,hi⟩:=List.getElem?_of_mem hv
 have hlt:i<rows.length:=by rw [<-hR.1];exact (List.getElem?_eq_some_iff.mp hi).1
 obtain ⟨a,b,n,tk,h1,h2,h3⟩:=hR.2 i _ (List.getElem?_eq_getElem hlt)
 rw [hi] at h1
 cases h1
 obtain ⟨x,t,r,n2,h4,h5⟩:=yd8 h3
 exact ⟨a,b,n,x,t,r,n2,_,tk,rfl,h2,h4,h5⟩
theorem ynG {c:Cx} {h:Heap} {tk:Nat} {FL FD RW:Addr} {rvs:List Value} {fes:List DictEntry} {fn lw:Nat} {rows:List (Int × St)} {l:List (Str × Value)} {T nx:Led} {m:Map} {P:Flow->Shared->Prop} {p6 p7 p8 p9:Pos} (at0:∀tl,(c.on tl).At flP) (hdp:c.A.depth<=500) (hun:c.A.units<=2000) (hR:RowsAre T rvs rows) (Hf:Has fes ((Str.ofString "rows",.ref RW)::l)) (sub:∀q∈(FL,yaf 278 FD)::(FD,dictOf fes fn)::(RW,listOf rvs.toArray lw)::T,q∈nx) (F:Fr c.g c.L h m) (N:News c.g c.L h nx) (m1:m (Str.ofString "flat")=some (.ref FL))
  (K:∀m' h' tk',Fr c.g c.L h' m'->News c.g c.L h' nx->P (.ret (.ref FL)) (c.st h' tk')) :
  wpAny (MM c.w) c.A (execs (.Expr (.Call (.Name (Str.ofString "gather") p6) ([(Str.ofString "flat",p7)].map λx=>PySem.Expr.Name x.1 x.2) [] p8) p9::yfr.body.drop 3) c.env) P c.E (c.st h tk):=by
 have f:=at0 nx
 have hi:interactive c.env=false:=by unfold interactive;rw [show c.env.scope=c.sc from rfl,show c.sc.kind=_ from f.f.fn];rfl
 refine wpAny_execs_cons (wpAny_Expr_any (ybg (c:=c.on nx) (b:=310) (us:=[.ref FL]) f F (by k_is) (by k_is) (by kernel_rfl) (.cons ⟨m1,by kernel_rfl⟩ .nil) nofun ?_) hi (yaV rfl))
 have i:Is (c.on nx) m [] h:=⟨F,N,List.nodup_nil,fN⟩
 refine yab λGG hGG=>?_
 obtain ⟨mean,mg,mb,St⟩:=ydo f rfl i
 refine hGG ?_;clear hGG GG
 refine yhu St f.f.fr (f.hh rfl) hdp hun (yc1 f rfl i sub) ⟨Hf.len,Hf.no,fC (Hf.all _ (.head _)) fN⟩ (yfE hR) λh' tk' Po=>?_
 obtain ⟨F',N'⟩:=ybP F N sub Po
 clear Po St i F N hR Hf sub
 have d:Den (c.on nx) ⟨[],[],[],[FL],[],[],[]⟩ ⟨[(Str.ofString "flat",.q 0)],[],[],[],[],none⟩ m []:=
  ⟨yaC (fC ⟨_,m1,FL,rfl,rfl⟩ fN),⟨rfl,λi x p h=>nomatch h⟩,fN,(λi x h=>nomatch h),(λx i h=>nomatch h),λi h=>nomatch h⟩
 refine ybf (c:=c.on nx) (N:=λ_=>True) (yaR c.w) 40 f (yfr.body.drop 3) d ⟨F',N',List.nodup_nil,fN⟩ ynE.1 ynE.2 (fC (λρ' ns' m' u h3 tk3 H dv=>?_) fN)
 refine yab λGG hGG=>?_
 obtain ⟨a,ha,rfl⟩:=dv
 cases ha.symm.trans (yad H.up.q (i:=0) FL rfl)
 refine hGG ?_;clear hGG GG
 exact K m' h3 tk3 H.i.F λq hq=>H.i.N q (List.mem_append_right _ hq)
section
variable {w:World} {mean:ExcName->Option Value} {mg mb:Str->Option Value} {base:Heap} {env:Env} {outer:List Env} {A:Around} {s:Shared} {Q E:Value->Shared->Prop}
theorem yfF {P:Addr} {p:ybM} {tl T1:Led} (V:Valid p) (hdat:DatIn tl (.ref P) (ybj p)) (St0:Std w mean mg mb base (env::outer) s.heap) (hf:A.frames=some (env::outer)) (hh:A.handled=none) (hdp:A.depth<=490) (hun:A.units<=1900)
  (O:ybZ base (env::outer) s.heap (tl++T1)) (off1:OwnOff T1 (yae tl))
  (hret:∀FL FD RW PL fes fn lw rvs po kvs tl2 h' tk',ybK (yae (tl++T1)) s.heap h' ((FL,yaf 278 FD)::(FD,dictOf fes fn)::(RW,listOf rvs.toArray lw)::(PL,po)::(tl2++(tl++T1)))->Has fes [(Str.ofString "rows",.ref RW),(Str.ofString "places",.ref PL)] ->
   po.IsDictOf (PySem.intKind PP w) kvs->SpotsAre kvs (yam 0 p)->RowsAre (tl2++tl) rvs (yak p)->([FL,FD,RW,PL]:List Addr).Nodup->OwnOff (tl++T1) [FL,FD,RW,PL]->OwnOff tl2 (FL::FD::RW::PL::yae (tl++T1))->(PL==sysModules)=false->Q (.ref FL) {s with heap:=h',toks:=tk'}) :
  wpAny (MM w) A (call (.ref 331) [.ref P]) Q E s:=by
 have hr:(600:Nat)<recursionLimit:=by decide
 refine yab λGG hGG=>?_
 obtain ⟨xs,pn,hP,hxs⟩:=ygq hdat
 clear hdat
 refine hGG ?_;clear hGG GG
 refine ybC (tl:=tl++T1) (ymV w) St0 hf (by omega) O rfl λc h1 tk1 fc F N=>?_
 refine yab λGG hGG=>?_
 obtain ⟨p1,p2,p3,p4,p5,p6,p7,p8,p9,k,hb⟩:=ynA
 refine hGG ?_;clear hGG GG
 rw [hb,List.append_assoc]
 have at0:=fc.at (p:=flP) rfl (by show A.depth+1+60<=600;omega) (by show A.units+3+3 * 60<=3000;omega) hh
 have hh:=(at0 []).hh rfl
 have fin:=λFL FD RW PL fes fn lw rvs po kvs tl2 h' tk' a b c d e f g i j=>fc.st (P:=Q (.ref FL)) (hret FL FD RW PL fes fn lw rvs po kvs tl2 h' tk' a b c d e f g i j)
 have po:=fc.po
 have kp:=fc.kp
 have cw:=fc.hw
 have hcd:c.A.depth<=500:=by show c.A₀.depth+1<=500;rw [fc.hA];omega
 have hcu:c.A.units<=2000:=by show c.A₀.units+3<=2000;rw [fc.hA];omega
 clear hret St0 O fc hf hdp hun hb
 have d0:Den (c.on (tl++T1)) ⟨[],[],[],[P],[],[],[]⟩ ⟨[(Str.ofString "parsed",.q 0)],[],[],[],[],none⟩ (λy=>(yfr.ps.zip [Value.ref P]).reverse.lookup y) []:=
  ⟨yaC (fC ⟨_,by rfl,P,rfl,rfl⟩ fN),⟨rfl,λi x p h=>nomatch h⟩,fN,(λi x h=>nomatch h),(λx i h=>nomatch h),λi h=>nomatch h⟩
 refine yby (c:=c.on (tl++T1)) 40 (p:=flP) (at0 _) _ _ d0 ⟨F,N,List.nodup_nil,fN⟩ f_0.1 f_0.2 (fC (λρ1 ns1 m1 h2 tk2 H=>?_) fN)
 have i1:=H.i
 have mp:=q_q (show DQ _ _ (some (SV.q 0)) _ from H.loc (Str.ofString "parsed")) (yad H.up.q (i:=0) P rfl)
 have NN:=ynF H
 clear H d0 F N
 refine yab λGG hGG=>?_
 rcases NN with @⟨FL,FD,RW,PL,fes,fn,lw,po1,r,e,Hf,hpo,lo,m1'⟩
 ·subst e
  have off:=i1.off
  have nd1:=i1.nd
  have nd:([FL,FD,RW,PL]:List Addr).Nodup:=by
   have a:=(List.nodup_append.mp (show ([FD,FL,RW,PL]++yae r:List Addr).Nodup from nd1)).1
   exact a.perm (List.Perm.swap _ _ _)
  have offT:OwnOff (tl++T1) [FL,FD,RW,PL]:=λq hq=>fC (off _ (.tail _ (.head _)) q hq) (fC (off _ (.head _) q hq) (fC (off _ (.tail _ (.tail _ (.head _))) q hq) (fC (off _ (.tail _ (.tail _ (.tail _ (.head _)))) q hq) fN)))
  have offr:OwnOff r (FL::FD::RW::PL::yae (tl++T1)):=λq hq b hb e=>by
   have ne:=(List.nodup_append.mp (show ([FD,FL,RW,PL]++yae r:List Addr).Nodup from nd1)).2.2
   have kr:b∈yae r:=e▸List.mem_map_of_mem (f:=(·.1)) hq
   rcases List.mem_cons.mp hb with rfl|hb
   ·exact ne _ (.tail _ (.head _)) _ kr rfl
   rcases List.mem_cons.mp hb with rfl|hb
   ·exact ne _ (.head _) _ kr rfl
   rcases List.mem_cons.mp hb with rfl|hb
   ·exact ne _ (.tail _ (.tail _ (.head _))) _ kr rfl
   refine yab λGG hGG=>?_
   rcases List.mem_cons.mp hb with rfl|hb
   ·refine hGG ?_;clear hGG GG
    exact ne _ (.tail _ (.tail _ (.tail _ (.head _)))) _ kr rfl
   ·obtain ⟨z,hz,rfl⟩:=List.mem_map.mp hb
    refine hGG ?_;clear hGG GG
    exact off q (.tail _ (.tail _ (.tail _ (.tail _ hq)))) z hz e.symm
  have N2:News c.g c.L h2 ((FL,yaf 278 FD)::(FD,dictOf fes fn)::(RW,listOf ([]:List Value).toArray lw)::(PL,po1)::(r++(tl++T1))):=fC (i1.N _ (.tail _ (.head _))) (fC (i1.N _ (.head _)) (λq hq=>i1.N q (.tail _ (.tail _ hq))))
  have F2:=i1.F
  clear i1 off nd1
  refine hGG ?_;clear hGG GG
  refine wpAny_execs_cons (ydx (ybr (c:=c.on []) (at0 _) F2 (v:=.ref P) mp (by kernel_rfl) (ydB (vs:=xs) (FlI c.w FL FD RW PL tl T1 p) hh F2 N2 (.mk rfl Hf .nil hpo .nil offr m1') ?lst ?turn ?done ?vs po)) (by intro _;rfl))
  case vs=>
   intro v hv
   refine yab λGG hGG=>?_
   obtain ⟨i,hi⟩:=List.getElem?_of_mem hv
   obtain ⟨d,hx,hxd⟩:=ycq hxs hi
   rw [List.getElem?_map] at hx
   obtain ⟨x,_,rfl⟩:=Option.map_eq_some_iff.mp hx
   obtain ⟨D,_,_,_,_,_,e,_⟩:=ydd hxd
   refine hGG ?_;clear hGG GG
   exact ⟨D,e⟩
  case lst=>
   rintro i m nx h ⟨rfl,_,_,_,_,_,_⟩ F N
   have hm:∀{l:Led},(P,listOf xs.toArray pn)∈l++(tl++T1):=List.mem_append_right _ (List.mem_append_left _ hP)
   exact ⟨N.isList (.tail _ (.tail _ (.tail _ (.tail _ hm)))),.inr ⟨_,.tail _ (.tail _ (.tail _ (.tail _ hm)))⟩⟩
  case turn=>
   intro i v m₁ nx h tk I oI hv hJ F N nI
   refine yab λGG hGG=>?_
   obtain ⟨d,hx0,hxd⟩:=ycq hxs hv
   rw [List.getElem?_map] at hx0
   obtain ⟨⟨k,sts⟩,hx,rfl⟩:=Option.map_eq_some_iff.mp hx0
   obtain ⟨D,S,t,n1,n2,ys,rfl,hD,hS,hys⟩:=ydd hxd
   refine hGG ?_;clear hGG GG
   exact yli at0 hcd hcu lo nd offT off1 V hx hD hS hys hJ F N nI λs₃ h=>h
  case done=>
   intro m₁ nx h tk hJ F N
   refine yab λGG hGG=>?_
   obtain @⟨rvs,lw2,fn2,fes2,kvs,po2,tl2,rfl,Hf2,hR,hpo2,hsp,off2,m1''⟩:=hJ
   have el:xs.length=p.length:=by rw [hxs.length,List.length_map]
   rw [el,List.take_length] at hR hsp
   have hq2:∀q∈tl2++tl,q∈tl2++(tl++T1):=λq hq=>(List.mem_append.mp hq).elim (λz=>List.mem_append_left _ z) λz=>List.mem_append_right _ (List.mem_append_left _ z)
   refine hGG ?_;clear hGG GG
   refine ynG at0 hcd hcu hR Hf2 (fC (.head _) (fC (.tail _ (.head _)) (fC (.tail _ (.tail _ (.head _))) (λq hq=>.tail _ (.tail _ (.tail _ (.tail _ (hq2 q hq)))))))) F N m1'' λm' h' tk' F' N'=>?_
   exact fin _ _ _ _ _ _ _ _ _ _ _ _ _ (yaN kp F' N' λ_ h=>h) Hf2 (cw▸hpo2) hsp hR nd offT off2 lo
end
section
variable {w:World} {mean:ExcName->Option Value} {mg mb:Str->Option Value} {base:Heap} {env:Env} {outer:List Env} {A:Around} {s:Shared} {Q E:Value->Shared->Prop}
variable {W WD FL FD RW PL R RD CT CD:Addr} {rvs:List Value} {rows:List (Int × St)} {sp:yao} {σ:yaL} {gl tl:List (Addr × Obj)} {nr at_ line:Int} {st:St} {ta:Tok}
set_option linter.unusedSectionVars false
variable (St0:Std w mean mg mb base (env::outer) s.heap) (hf:A.frames=some (env::outer)) (hh:A.handled=none) (hdp:A.depth<=460) (hun:A.units<=1800)
 (O:ybZ base (env::outer) s.heap (gl++tl)) (ap:([W,WD,FL,FD,RW,PL,R,RD,CT,CD]:List Addr).Nodup) (off:OwnOff tl [W,WD,FL,FD,RW,PL,R,RD,CT,CD]) (hlo:(PL==sysModules)=false)
 (G:yb2 W WD FL FD RW PL R RD CT CD w rvs sp σ gl) (rw_:RowsAre tl rvs rows) (hnr:(rows.length:Int)=nr) (hnr2:nr<=100) (M:MOk sp nr σ) (l5:lk sp 5=none) (l0:lk sp 0=none)
 (a0:0<=at_) (hrow:rows[at_.toNat]? = some (line,st)) (ok:yeG sp nr st)
 (hgo:∀goal σ' u h' tk',yaA sp nr at_ st σ = .go goal σ'->yoE W WD FL FD RW PL R RD CT CD w rvs sp gl tl s.heap h' σ'->Q (.int goal u) {s with heap:=h',toks:=tk'})
 (hbad:∀f σ' e h' tk',yaA sp nr at_ st σ = .bad f σ'->ylJ W WD FL FD RW PL R RD CT CD w rvs sp base (env::outer) gl tl s.heap h' e f σ'->E (.ref e) {s with heap:=h',toks:=tk'})
include St0 hf hh hdp hun O ap off hlo G rw_ hnr hnr2 M l5 l0 a0 hrow ok hgo hbad
theorem ylj:wpAny (MM w) A (call (.ref 909) [.ref R,.int at_ ta]) Q E s:=by
 cases st with
 | rem=>exact yiP St0 hf hh hdp hun O ap off hlo G rw_ hnr hnr2 M l5 l0 a0 hrow ok hgo hbad rfl
 | fin=>exact yiQ St0 hf hh hdp hun O ap off hlo G rw_ hnr hnr2 M l5 l0 a0 hrow ok hgo hbad rfl
 | error k=>exact yfw St0 hf hh hdp hun O ap off hlo G rw_ hnr hnr2 M l5 l0 a0 hrow ok hgo hbad rfl
 | inner o=>exact yfz St0 hf hh hdp hun O ap off hlo G rw_ hnr hnr2 a0 hrow hbad
 | onerr k=>
  rcases ok with rfl|rfl|⟨i,hi,i0,i1⟩
  ·exact yiR St0 hf hh hdp hun O ap off hlo G rw_ hnr hnr2 M l5 l0 a0 hrow (.inl rfl) hgo hbad rfl
  ·cases hon:σ.on with
   | false=>exact yho St0 hf hh hdp hun O ap off hlo G rw_ hnr hnr2 M l5 l0 a0 hrow (.inr (.inl rfl)) hgo hbad rfl hon
   | true=>exact yhp St0 hf hh hdp hun O ap off hlo G rw_ hnr hnr2 M l5 l0 a0 hrow (.inr (.inl rfl)) hgo hbad rfl hon
  ·exact yen St0 hf hh hdp hun O ap off hlo G rw_ hnr hnr2 M l5 l0 a0 hrow (.inr (.inr ⟨i,hi,i0,i1⟩)) hgo hbad rfl hi
 | resume o=>
  cases hon:σ.on with
  | false=>exact yhn St0 hf hh hdp hun O ap off hlo G rw_ hnr hnr2 M l5 l0 a0 hrow ok hgo hbad rfl hon
  | true=>
   cases o with
   | none=>exact yft St0 hf hh hdp hun O ap off hlo G rw_ hnr hnr2 M l5 l0 a0 hrow ok hgo hbad rfl hon
   | next=>exact yfu St0 hf hh hdp hun O ap off hlo G rw_ hnr hnr2 M l5 l0 a0 hrow ok hgo hbad rfl hon
   | line k=>
    rcases ok with rfl|⟨i,hi,i0,i1⟩
    ·exact yk7 St0 hf hh hdp hun O ap off hlo G rw_ hnr hnr2 M l5 l0 a0 hrow (.inl rfl) hgo hbad rfl hon
    ·exact yfv St0 hf hh hdp hun O ap off hlo G rw_ hnr hnr2 M l5 l0 a0 hrow (.inr ⟨i,hi,i0,i1⟩) hgo hbad rfl hon hi
end
theorem ye1 {base h₀ h h':Heap} {l:List Env} {L e:Addr} {m:Str->Option Value} {exo post:List (Addr × Obj)} {f:Int} (F:Fr h₀ L h m) (N:News h₀ L h exo) (P:yif base l exo h h' e f post) :
  ∃D oD a0 G,yjl oD f/\(∀p∈exo,p.1≠D)/\Fr h₀ L G m/\RaisedX base G l e (.ref 41) a0 (some D) ((D,oD)::post) h':=by
 refine yab λGG hGG=>?_
 obtain ⟨D,oD,told,ne,⟨g,a0,kp,gs,R⟩⟩:=P.there
 have nx:∀b,(h₀.get? b≠none∨b=L)->b ∉ exo.map (·.1):=λb hb z=>by
  refine yab λGG hGG=>?_
  obtain ⟨q,hq,rfl⟩:=List.mem_map.mp z
  rcases hb with hb|hb
  ·refine hGG ?_;clear hGG GG
   exact hb (N q hq).2.2
  ·refine hGG ?_;clear hGG GG
   exact (N q hq).2.1 hb
 obtain ⟨oL,es,ep,hL,r⟩:=F.ns
 refine hGG ?_;clear hGG GG
 exact ⟨D,oD,a0,g,told,ne,⟨⟨oL,es,ep,kp _ _ hL (nx _ (.inr rfl)),r⟩,λb o e=>kp b o (F.keep b o e) (nx b (.inl (by rw [e];simp))),F.above⟩,R⟩
theorem ycD {news:List (Addr × Obj)}:(∀p∈news,p∈news)/\∀p∈([]:List (Addr × Obj)),p∈news/\p.1 ∉ news.map (·.1):=⟨λ_ h=>h,fN⟩
section
variable {w:World} {mean:ExcName->Option Value} {mg mb:Str->Option Value} {base h₀:Heap} {outer:List Env} {A₀:Around} {s:Shared} {Q E:Value->Shared->Prop} {L a:Addr} {m:Str->Option Value} {cn:Str} {cs:Scope} {ccd:Value}
variable {W WD FL FD RW PL R RD CT CD:Addr} {rvs:List Value} {rows:List (Int × St)} {sp:yao} {σ:yaL} {gl tl:List (Addr × Obj)} {nr at_ line:Int} {st:St} {ta:Tok}
theorem yiW (B:Below A₀ base outer h₀) (F:Fr h₀ L s.heap m) (N:News h₀ L s.heap (gl++tl)) (XB:(KK w.params).In base) (TB:Top VV LO mean mg mb base) (hk:cs.kind = .function)
  (hf:(A₀.deeper (envOf cn cs L a ccd)).frames=some (envOf cn cs L a ccd::outer)) (hh:(A₀.deeper (envOf cn cs L a ccd)).handled=none) (hdp:(A₀.deeper (envOf cn cs L a ccd)).depth<=460) (hun:(A₀.deeper (envOf cn cs L a ccd)).units<=1800)
  (ap:([W,WD,FL,FD,RW,PL,R,RD,CT,CD]:List Addr).Nodup) (off:OwnOff tl [W,WD,FL,FD,RW,PL,R,RD,CT,CD]) (hlo:(PL==sysModules)=false)
  (G:yb2 W WD FL FD RW PL R RD CT CD w rvs sp σ gl) (rw_:RowsAre tl rvs rows) (hnr:(rows.length:Int)=nr) (hnr2:nr<=100) (M:MOk sp nr σ) (l5:lk sp 5=none) (l0:lk sp 0=none)
  (a0:0<=at_) (hrow:rows[at_.toNat]? = some (line,st)) (ok:yeG sp nr st)
  (hgo:∀goal σ' gl' u h' tk',yaA sp nr at_ st σ = .go goal σ'->yb2 W WD FL FD RW PL R RD CT CD w rvs sp σ' gl'->Fr h₀ L h' m->News h₀ L h' (gl'++tl)->Q (.int goal u) {s with heap:=h',toks:=tk'})
  (hbad:∀f σ' gl' e D oD a0 G₀ h' tk',yaA sp nr at_ st σ = .bad f σ'->yb2 W WD FL FD RW PL R RD CT CD w rvs sp σ' gl'->yjl oD f->(∀p∈gl++tl,p.1≠D)->Fr h₀ L G₀ m->RaisedX base G₀ (envOf cn cs L a ccd::outer) e (.ref 41) a0 (some D) ((D,oD)::(gl'++tl)) h'->E (.ref e) {s with heap:=h',toks:=tk'}) :
  wpAny (MM w) (A₀.deeper (envOf cn cs L a ccd)) (call (.ref 909) [.ref R,.int at_ ta]) Q E s:=by
 refine ylj (ybL B F XB TB hk) hf hh hdp hun (ybH B N λ_ h=>h) ap off hlo G rw_ hnr hnr2 M l5 l0 a0 hrow ok (λgoal σ' u h' tk' e P=>?_) (λf σ' e h' tk' ee P=>?_)
 ·refine yab λGG hGG=>?_
  obtain ⟨gl',G',P⟩:=P
  obtain ⟨F',N'⟩:=yd2 F N ycD P
  rw [List.append_nil] at N'
  refine hGG ?_;clear hGG GG
  exact hgo _ _ _ _ _ _ e G' F' N'
 ·refine yab λGG hGG=>?_
  obtain ⟨gl',G',P⟩:=P
  obtain ⟨D,oD,a1,G₀,told,ne,F',R'⟩:=ye1 F N P
  refine hGG ?_;clear hGG GG
  exact hbad _ _ _ _ _ _ _ _ _ _ ee G' told ne F' R'
end
set_option backward.match.sparseCases true
set_option genSizeOfSpec false
set_option genInjectivity false
noncomputable def ynH (W WD FL FD RW PL R RD CT CD:Addr) (w:World) (rvs:List Value) (sp:yao) (l:List Env) (gl tl:List (Addr × Obj)) (h h':Heap) (σ:yaL):Prop:=
 ∃gl',yb2 W WD FL FD RW PL R RD CT CD w rvs sp σ gl'/\yff l ((gl++tl).map (·.1)) h h' (gl'++tl)
theorem ybp {sp:yao} {nr at_ line f:Int} {st:St} {σ σ':yaL} (e1:yaA sp nr at_ st σ = .bad f σ') (z:σ'.hnd=0∨σ'.on=true):step sp nr at_ line st σ = .bad f σ':=by
 simp only [step,ylI];rw [e1];dsimp only;rw [if_pos z]
theorem yhw {sp:yao} {nr at_ line f i:Int} {st:St} {σ σ':yaL} (e1:yaA sp nr at_ st σ = .bad f σ') (z:σ'.hnd≠0) (y:σ'.on=false) (x:lk sp σ'.hnd=some i):step sp nr at_ line st σ = .go i {hnd:=σ'.hnd,on:=true,num:=f,el:=line,fa:=at_}:=by
 simp only [step,ylI];rw [e1];dsimp only;rw [if_neg (by simp [z,y]),x];rfl
theorem ybq {sp:yao} {nr at_ line g:Int} {st:St} {σ σ':yaL} (e1:yaA sp nr at_ st σ = .go g σ'):step sp nr at_ line st σ = .go g σ':=by
 simp only [step];rw [e1]
noncomputable def ypq:List Stmt:=(yer ybn.body).1
noncomputable def yfG:Pos × List Stmt × Pos:=yhq (yer ybn.body).2.1
noncomputable def ydt:Stmt:=yfG.2.1.headD (.Pass yfG.1)
theorem yiX:ybn.body = [.Try ypq [.ExceptHandler (some (.Name (Str.ofString "BasicError") yfG.1)) (some (Str.ofString "wrong")) [ydt] yfG.2.2] [] [] (yer ybn.body).2.2.2]:=by kernel_rfl
noncomputable def ynI:List Pos:=match ypq with
 | [.Return (some (.Call (.Name _ p1) [.Name _ p2,.Name _ p3] _ p4)) p5]=>[p1,p2,p3,p4,p5]
 | _=>[]
theorem ypr:∃p1 p2 p3 p4 p5,ypq = [.Return (some (.Call (.Name (Str.ofString "_law_done") p1) ([(Str.ofString "run",p2),(Str.ofString "at",p3)].map λx=>PySem.Expr.Name x.1 x.2) [] p4)) p5]:=⟨ynI.getD 0 yfG.1,ynI.getD 1 yfG.1,ynI.getD 2 yfG.1,ynI.getD 3 yfG.1,ynI.getD 4 yfG.1,by kernel_rfl⟩
noncomputable def ledP:Pl:=⟨ybn.sc,80,false,false⟩
noncomputable def yps:List (Str × SV):=[(Str.ofString "wrong",.r 11),(Str.ofString "run",.r 6),(Str.ofString "at",.z (.v 0))]
noncomputable def ylQ (x:SV):List SO:=[.exd (.t 1) x,.cgt 10 12,.tb]
noncomputable def yjL (on:C) (kp:List (Z × Option SV)) (x:SV) (pc:List C):SS:=⟨yps,[],osG (.v 2) on (.v 3) (.t 0) (.v 4) [(.v 0,.q 0)] kp++ylQ x,[.tup [.z (.v 5),.q 1]],pc,some 11⟩
inductive ypt (ρ:Rho) (sp:yao) (nr at_ line:Int) (st:St) (σ:yaL) (f:Int) (x:SV) (kn:List (Z × SV)) (kp:List (Z × Option SV)):Vt->Prop
 | ret {gz hnd el fa:Z} {on:C} {code:SV} {rest:List SO} {pc:List C} {goal:Int} {σ':yaL} (g:gz.ev ρ.z=some goal) (v:Vals ρ hnd on el code fa σ') (e:step sp nr at_ line st σ = .go goal σ'):ypt ρ sp nr at_ line st σ f x kn kp (.ret (.z gz) (osG hnd on el code fa kn kp++rest) pc)
 | exc {mm:List (Str × SV)} {hnd el fa:Z} {on:C} {code:SV} {pc:List C} {σ':yaL} (v:Vals ρ hnd on el code fa σ') (e:step sp nr at_ line st σ = .bad f σ'):ypt ρ sp nr at_ line st σ f x kn kp (.exc 11 10 12 mm (osG hnd on el code fa kn kp++ylQ x) pc)
theorem ybX {w:World} {W WD FL FD RW PL R RD CT CD:Addr} {rvs:List Value} {sp:yao} {σ:yaL} {gl:Led} (G:yb2 W WD FL FD RW PL R RD CT CD w rvs sp σ gl):yae gl = [W,WD,FL,FD,RW,PL,R,RD,CT,CD]:=by
 refine yab λGG hGG=>?_
 obtain ⟨_,_,_,_,_,_,_,_,_,_,_,_,_,_,_,_,_,rfl,_⟩:=G
 refine hGG ?_;clear hGG GG
 rfl
section
variable {w:World} {mean:ExcName->Option Value} {mg mb:Str->Option Value} {base:Heap} {env:Env} {outer:List Env} {A:Around} {s:Shared} {Q E:Value->Shared->Prop}
variable {W WD FL FD RW PL R RD CT CD:Addr} {rvs:List Value} {rows:List (Int × St)} {sp:yao} {σ:yaL} {gl tl:List (Addr × Obj)} {nr at_ line:Int} {st:St} {ta:Tok}
theorem yhx {g G₀ h1:Heap} {L:Addr} {cdv:Value} {tk1:Nat} {f:Int} {σ':yaL} {gl':Led} {e D:Addr} {oD:Obj} {a0':Value} {m:Map} {n1:Nat} {tb1:Tok} {a b:Addr} {x:SV} {v:Value} {z6 z7:Int} {on:C} {kp:List (Z × Option SV)} {pc:List C} {V:List Vt}
  (fit:(fCx w ybn 916 cdv A base (env::outer) s E tl g L).Fit) (kpt:ycO (yae (gl++tl)) s.heap g) (gs:∀b o,g.get? b=some o->s.heap.get? b=some o) (nL:g.get? L=none) (hdp:A.depth<=450) (hun:A.units<=1700)
  (ap:([W,WD,FL,FD,RW,PL,R,RD,CT,CD]:List Addr).Nodup) (off:OwnOff tl [W,WD,FL,FD,RW,PL,R,RD,CT,CD]) (hlo:(PL==sysModules)=false) (hkg:yae gl = [W,WD,FL,FD,RW,PL,R,RD,CT,CD]) (G1:yb2 W WD FL FD RW PL R RD CT CD w rvs sp σ' gl') (hnr:(rvs.length:Int)=nr) (hnr2:nr<=100)
  (a0:0<=at_) (hrv:rvs[at_.toNat]? = some (.ref a)) (hm1:(a,yal [.int line tb1,.ref b] n1)∈tl)
  (ne:∀p∈gl++tl,p.1≠D) (F1:Fr g L G₀ m) (hmr:m (Str.ofString "run")=some (.ref R)) (hma:m (Str.ofString "at")=some (.int at_ ta)) (R1:RaisedX base G₀ (envOf ybn.qual ybn.sc L 916 cdv::env::outer) e (.ref 41) a0' (some D) ((D,oD)::(gl'++tl)) h1)
  (dx:∀ρ as,ρ.z[7]? = some z7->DV ρ as x v) (tx:x = .s (Str.ofString "")∨(f=8/\∃z,x = .z z)) {tc:Tok} (nd:NsObj oD (λy=>if y=Str.ofString "told" then some v else if y=Str.ofString "code" then some (.str (yaj f) tc) else none))
  (hon:∀kvs,on.ev (ybi at_ nr σ' line z6 z7 (yaj f) .none [a,b] rvs kvs)=some σ'.on) (hkp:∀kvs as,SpotsAre kvs sp->∀p∈kp,DM (ybi at_ nr σ' line z6 z7 (yaj f) .none [a,b] rvs kvs) as kvs p)
  (pcs:∀kvs,∀C∈pc,C.ev (ybi at_ nr σ' line z6 z7 (yaj f) .none [a,b] rvs kvs)=some true)
  (hv:(xSs (run YY 40) ledP [ydt] (yjL on kp x pc)).map yaD=V) (hb:yaI (xSs (run YY 40) ledP [ydt] (yjL on kp x pc))=true)
  (ends:∀kvs,∀y∈V,ypt (ybi at_ nr σ' line z6 z7 (yaj f) .none [a,b] rvs kvs) sp nr at_ line st σ f x [(.v 0,.q 0)] kp y)
  (hgo:∀goal σ' u h' tk',step sp nr at_ line st σ = .go goal σ'->ynH W WD FL FD RW PL R RD CT CD w rvs sp (env::outer) gl tl s.heap h' σ'->Q (.int goal u) {s with heap:=h',toks:=tk'})
  (hbad:∀f σ' e h' tk',step sp nr at_ line st σ = .bad f σ'->ylJ W WD FL FD RW PL R RD CT CD w rvs sp base (env::outer) gl tl s.heap h' e f σ'->E (.ref e) {s with heap:=h',toks:=tk'}) {more:List ExceptHandler} :
  wpAny (MM w) (A.deeper (envOf ybn.qual ybn.sc L 916 cdv)) (noteFrame (.ref e) (envOf ybn.qual ybn.sc L 916 cdv)) (λ_ s₂=>wpAny (MM w) (A.deeper (envOf ybn.qual ybn.sc L 916 cdv)) (setFlight (.ref e) none) (λ_ s₃=>wpAny (MM w) (A.deeper (envOf ybn.qual ybn.sc L 916 cdv)) (handleBy (.ref e) (envOf ybn.qual ybn.sc L 916 cdv) (.ExceptHandler (some (.Name (Str.ofString "BasicError") yfG.1)) (some (Str.ofString "wrong")) [ydt] yfG.2.2::more)) (λfl s'=>match fl with | .next=>wpAny (MM w) (A.deeper (envOf ybn.qual ybn.sc L 916 cdv)) (execs [] (envOf ybn.qual ybn.sc L 916 cdv)) (λfl s'=>Q (ybF fl) s') (fCx w ybn 916 cdv A base (env::outer) s E tl g L).E s'|fl=>Q (ybF fl) s')
   (fCx w ybn 916 cdv A base (env::outer) s E tl g L).E s₃) (fCx w ybn 916 cdv A base (env::outer) s E tl g L).E s₂) (fCx w ybn 916 cdv A base (env::outer) s E tl g L).E {s with heap:=h1,toks:=tk1}:=by
 refine yab λGG hGG=>?_
 obtain ⟨kvs,hsp,hk,nd',off',obs⟩:=yds (w:=w) (tl:=tl) (nr:=nr) (line:=line) (at_:=at_) (on:=on) (kn:=[(.v 0,.q 0)]) (kp:=kp) (z6:=z6) (z7:=z7) (x1:=yaj f) (uv:=.none) (q:=[a,b]) ap off hlo G1 hnr hnr2 hon (kn1 a0 hrv) hkp
 have hl:gl'.length=10:=by have:=congrArg List.length hk;rwa [List.length_map] at this
 have en:=ends kvs
 have pc1:=pcs kvs
 have l0:(ybi at_ nr σ' line z6 z7 (yaj f) .none [a,b] rvs kvs).l[0]? = some rvs:=rfl
 have k0:(ybi at_ nr σ' line z6 z7 (yaj f) .none [a,b] rvs kvs).k[0]? = some kvs:=rfl
 have t1:(ybi at_ nr σ' line z6 z7 (yaj f) .none [a,b] rvs kvs).t[1]? = some (yaj f):=rfl
 have z0:(ybi at_ nr σ' line z6 z7 (yaj f) .none [a,b] rvs kvs).z[0]? = some at_:=rfl
 have dx:=λas=>dx (ybi at_ nr σ' line z6 z7 (yaj f) .none [a,b] rvs kvs) as rfl
 have tls:A2 (yjF w tl (ybi at_ nr σ' line z6 z7 (yaj f) .none [a,b] rvs kvs)) [.tup [.z (.v 5),.q 1]] [a]:=.cons ⟨hm1,rfl,.cons ⟨line,tb1,rfl,rfl⟩ (.cons ⟨b,rfl,rfl⟩ .nil)⟩ .nil
 have q0:(ybi at_ nr σ' line z6 z7 (yaj f) .none [a,b] rvs kvs).q[0]? = some a:=rfl
 clear hon hkp pcs ends
 refine hGG ?_;clear hGG GG
 generalize (ybi at_ nr σ' line z6 z7 (yaj f) .none [a,b] rvs kvs)=ρ at obs en pc1 l0 k0 t1 z0 dx tls q0
 have nD:∀p∈gl'++tl,p.1≠D:=λp hp=>by
  rcases List.mem_append.mp hp with hp|hp
  ·have hm:p.1∈yae gl:=hkg▸hk▸List.mem_map_of_mem hp
   obtain ⟨p',hp',e'⟩:=List.mem_map.mp hm
   exact e'▸ne p' (List.mem_append_left _ hp')
  ·exact ne p (List.mem_append_right _ hp)
 refine yc2 (c:=fCx w ybn 916 cdv A base (env::outer) s E tl g L) fit rfl R1 F1 (by k_is) (by kernel_rfl) (by kernel_rfl) (by decide) nd' off' nD λg' h' T oe oT tk' kt B' i2 ok=>?_
 have u1:Up ρ ρ (yae gl') (yae (gl' ++ [(D,oD)])):=yas
 have u2:Up ρ ρ (yae (gl' ++ [(D,oD)])) (yae (gl' ++ [(D,oD)] ++ [(e,oe)])):=yas
 have u3:Up ρ ρ (yae (gl' ++ [(D,oD)] ++ [(e,oe)])) (yae (gl' ++ [(D,oD)] ++ [(e,oe)] ++ [(T,oT)])):=yas
 have kD:(yae (gl' ++ [(D,oD)] ++ [(e,oe)] ++ [(T,oT)]))[10]? = some D:=yad (u2.trans u3).a _ (by rw [yae,List.map_append,List.getElem?_append_right (by rw [List.length_map,hl];exact Nat.le_refl _),List.length_map,hl];rfl)
 have ke:(yae (gl' ++ [(D,oD)] ++ [(e,oe)] ++ [(T,oT)]))[11]? = some e:=yad u3.a _ (by rw [yae,List.map_append,List.getElem?_append_right (by rw [List.length_map,List.length_append,hl];exact Nat.le_refl _),List.length_map,List.length_append,hl];rfl)
 have kT:(yae (gl' ++ [(D,oD)] ++ [(e,oe)] ++ [(T,oT)]))[12]? = some T:=by rw [yae,List.map_append,List.getElem?_append_right (by rw [List.length_map,List.length_append,List.length_append,hl];exact Nat.le_refl _),List.length_map,List.length_append,List.length_append,hl];rfl
 have kR:(yae (gl' ++ [(D,oD)] ++ [(e,oe)] ++ [(T,oT)]))[6]? = some R:=yad ((u1.trans u2).trans u3).a _ (by rw [hk];rfl)
 have obs2:DOs w ρ (yae (gl' ++ [(D,oD)] ++ [(e,oe)] ++ [(T,oT)])) (yjL on kp x pc).os (gl' ++ [(D,oD)] ++ [(e,oe)] ++ [(T,oT)]):=by
  have a1:A2 (DP w ρ (yae (gl' ++ [(D,oD)] ++ [(e,oe)] ++ [(T,oT)]))) (osG (.v 2) on (.v 3) (.t 0) (.v 4) [(.v 0,.q 0)] kp) gl':=obs.a2.imp λy p d=>DO.up ((u1.trans u2).trans u3) d
  have a2:=a1.app (.cons (y:=(D,oD)) (x:=SO.exd (.t 1) x) ⟨⟨_,tc,t1,rfl⟩,dx _,nd⟩ (.cons (y:=(e,oe)) (x:=SO.cgt 10 12) (ok.do kD kT) (.cons (y:=(T,oT)) (x:=SO.tb) (by obtain ⟨_,_,_,_,_,k6⟩:=ok;exact k6) .nil)))
  rw [List.append_assoc,List.append_assoc] at a2 ⊢
  exact ya9 a2
 have d2:Den ((fCx w ybn 916 cdv A base (env::outer) s E tl g L).cgt e g' (ycg (fCx w ybn 916 cdv A base (env::outer) s E tl g L) e (Str.ofString "wrong") yfG.2.2)) ρ (yjL on kp x pc) (λy=>if y=Str.ofString "wrong" then some (.ref e) else m y) (gl' ++ [(D,oD)] ++ [(e,oe)] ++ [(T,oT)]):=by
  refine ⟨yaC (fC ⟨_,if_pos rfl,e,ke,rfl⟩ (fC ⟨_,(if_neg (by decide)).trans hmr,R,kR,rfl⟩ (fC ⟨_,(if_neg (by decide)).trans hma,at_,ta,z0,rfl⟩ fN))),obs2,pc1,λi y hy=>?_,(λx i h=>nomatch h),λi hi=>?_⟩
  ·refine yab λGG hGG=>?_
   obtain ⟨a',ha',hm,hd⟩:=tls.at hy
   rcases i with _|i
   ·cases ha';refine hGG ?_;clear hGG GG;exact ⟨q0,hm,hd⟩
   ·cases ha'
  ·cases hi;exact ⟨e,ke,rfl⟩
 have at2:((fCx w ybn 916 cdv A base (env::outer) s E tl g L).cgt e g' (ycg (fCx w ybn 916 cdv A base (env::outer) s E tl g L) e (Str.ofString "wrong") yfG.2.2)).At ledP:=⟨yeo fit B',rfl,by show A.depth+1+80<=600;omega,by show A.units+3+3 * 80<=3000;omega,λ_=>rfl,nofun⟩
 have u0:Up ρ ρ (yae gl') (yae (gl' ++ [(D,oD)] ++ [(e,oe)] ++ [(T,oT)])):=(u1.trans u2).trans u3
 refine ybf (N:=λ_=>True) (yaR w) 40 (p:=ledP) at2 [ydt] d2 i2 hv hb λy hy=>?_
 have ey:=en y hy
 rcases ey with ⟨gq,v,e1⟩|⟨v,e1⟩
 ·intro ρ' ns' m' u h tk H du
  have up:=u0.trans H.up
  refine yab λGG hGG=>?_
  obtain ⟨t,rfl⟩:=ybt du (Z.up up.z _ _ gq)
  obtain ⟨gl2,r,eg,hl',G2⟩:=ybh H.obs (hk▸up.a) (v.up up) (yad up.l _ l0) (yad up.k _ k0) hsp
  refine hGG ?_;clear hGG GG
  exact ydU (c:=fCx w ybn 916 cdv A base (env::outer) s E tl g L) fit (by kernel_rfl) H.i λh' m' tk' F' N'=>hgo _ _ _ _ _ e1 ⟨gl2,G2,yc7 kpt kt F' N' (ybo eg)⟩
 ·intro ρ' ns' m' e' D' T' oe' oD' a9 G9 h tk X
  have up:=u0.trans X.up
  refine yfx (c:=fCx w ybn 916 cdv A base (env::outer) s E tl g L) fit rfl B' (by kernel_rfl) X.R X.F PassesOwnAt.leaving λh' tk' R'=>ya7 B' R' (kt.none_ _ nL) λh6 R6=>?_
  refine yab λGG hGG=>?_
  obtain ⟨gl2,r,eg,hl',G2⟩:=ybh X.obs (hk▸up.a) (v.up up) (yad up.l _ l0) (yad up.k _ k0) hsp
  have hTx:=X.hT
  rw [List.getElem?_map] at hTx
  obtain ⟨pT,hT4,e9⟩:=Option.map_eq_some_iff.mp hTx
  subst e9
  have ux:yem ρ' (.t 1)=some (yaj f):=yad up.t _ t1
  have oDk:DO w ρ' (yae ns') (.exd (.t 1) x) D' oD':=X.obs.all 10 _ _ rfl X.i2
  refine hGG ?_;clear hGG GG
  refine hbad f _ _ _ _ e1 ⟨gl2,G2,yda kpt gs (ydr (w:=w) (f:=f) oDk ux tx) (ybI kt (λ_ h=>h) R6) (fC (.head _) (λp hp=>.tail _ (ycj ⟨ybo eg p hp,yaS eg (by omega) X.i1 X.nd X.off p hp,yaS eg (by omega) X.i2 X.nd X.off p hp,yaS eg (by omega) hT4 X.nd X.off p hp⟩))) (λp hp=>?_)⟩
  have kd:(yae (gl' ++ [(D,oD)]))[10]? = some D:=by rw [yae,List.map_append,List.getElem?_append_right (by rw [List.length_map,hl];exact Nat.le_refl _),List.length_map,hl];rfl
  cases (yad ((u2.trans u3).trans X.up).a _ kd).symm.trans (yaw X.i2)
  exact ne p hp
end
set_option backward.match.sparseCases false
noncomputable def pcL (pc:List C):List C:=.le (.n 0) (.v 0)::.lt (.v 0) (.v 1)::pc
noncomputable def yqA (stop:Bool) (x:SV) (pc:List C):List Vt:=[.exc 11 10 12 yps (osG (.v 2) (cond stop (.b true) (.v 0)) (.v 3) (.t 0) (.v 4) [(.v 0,.q 0)] []++ylQ x) (.tq 1 (Str.ofString "ST")::pcL pc),.exc 11 10 12 yps (osG (.v 2) (cond stop (.b true) (.v 0)) (.v 3) (.t 0) (.v 4) [(.v 0,.q 0)] []++ylQ x) (.not (.tq 1 (Str.ofString "ST"))::pcL pc)]
noncomputable def yss (x:SV):List Vt:=[.ret (.z (.v 6)) (osG (.v 2) (.b true) (.v 5) (.t 1) (.v 0) [(.v 0,.q 0)] [(.v 2,some (.z (.v 6)))]++(ylQ x ++ [.tup [.b (.b true),.t 1,.z (.v 5)]])) (.tq 1 (Str.ofString "ST")::pcL [.not (.eq (.v 2) (.n 0))]),
 .ret (.z (.v 6)) (osG (.v 2) (.b true) (.v 5) (.t 1) (.v 0) [(.v 0,.q 0)] [(.v 2,some (.z (.v 6)))]++(ylQ x ++ [.tup [.b (.b true),.t 1,.z (.v 5)]])) (.not (.tq 1 (Str.ofString "ST"))::pcL [.not (.eq (.v 2) (.n 0))])]
noncomputable def ypu (on:C) (kp:List (Z × Option SV)) (x:SV) (pc:List C):List Vt:=(xSs (run YY 40) ledP [ydt] (yjL on kp x (pcL pc))).map yaD
noncomputable def yiY (f:Int) (x:SV):Prop:=x = .s (Str.ofString "")∨(f=8/\x = .z (.v 7))
theorem ypv {f:Int} {x:SV} (h:yiY f x):ypu (.v 0) [] x [.eq (.v 2) (.n 0)]=yqA false x [.eq (.v 2) (.n 0)]/\yaI (xSs (run YY 40) ledP [ydt] (yjL (.v 0) [] x (pcL [.eq (.v 2) (.n 0)])))=true:=by
 rcases h with rfl|⟨_,rfl⟩<;>exact ⟨by kernel_rfl,by kernel_rfl⟩
theorem ypw {f:Int} {x:SV} (h:yiY f x):ypu (.b true) [] x [.not (.eq (.v 2) (.n 0))]=yqA true x [.not (.eq (.v 2) (.n 0))]/\yaI (xSs (run YY 40) ledP [ydt] (yjL (.b true) [] x (pcL [.not (.eq (.v 2) (.n 0))])))=true:=by
 rcases h with rfl|⟨_,rfl⟩<;>exact ⟨by kernel_rfl,by kernel_rfl⟩
theorem ypx {f:Int} {x:SV} (h:yiY f x):ypu (.b false) [(.v 2,some (.z (.v 6)))] x [.not (.eq (.v 2) (.n 0))]=yss x/\yaI (xSs (run YY 40) ledP [ydt] (yjL (.b false) [(.v 2,some (.z (.v 6)))] x (pcL [.not (.eq (.v 2) (.n 0))])))=true:=by
 rcases h with rfl|⟨_,rfl⟩<;>exact ⟨by kernel_rfl,by kernel_rfl⟩
section
variable {w:World} {mean:ExcName->Option Value} {mg mb:Str->Option Value} {base:Heap} {env:Env} {outer:List Env} {A:Around} {s:Shared} {Q E:Value->Shared->Prop}
variable {W WD FL FD RW PL R RD CT CD:Addr} {rvs:List Value} {rows:List (Int × St)} {sp:yao} {σ:yaL} {gl tl:List (Addr × Obj)} {nr at_ line:Int} {st:St} {ta:Tok}
theorem ynJ (St0:Std w mean mg mb base (env::outer) s.heap) (hf:A.frames=some (env::outer)) (hh:A.handled=none) (hdp:A.depth<=450) (hun:A.units<=1700)
  (O:ybZ base (env::outer) s.heap (gl++tl)) (ap:([W,WD,FL,FD,RW,PL,R,RD,CT,CD]:List Addr).Nodup) (off:OwnOff tl [W,WD,FL,FD,RW,PL,R,RD,CT,CD]) (hlo:(PL==sysModules)=false)
  (G:yb2 W WD FL FD RW PL R RD CT CD w rvs sp σ gl) (rw_:RowsAre tl rvs rows) (hnr:(rows.length:Int)=nr) (hnr2:nr<=100) (M:MOk sp nr σ) (l5:lk sp 5=none) (l0:lk sp 0=none)
  (a0:0<=at_) (hrow:rows[at_.toNat]? = some (line,st)) (ok:yeG sp nr st)
  (hgo:∀goal σ' u h' tk',step sp nr at_ line st σ = .go goal σ'->ynH W WD FL FD RW PL R RD CT CD w rvs sp (env::outer) gl tl s.heap h' σ'->Q (.int goal u) {s with heap:=h',toks:=tk'})
  (hbad:∀f σ' e h' tk',step sp nr at_ line st σ = .bad f σ'->ylJ W WD FL FD RW PL R RD CT CD w rvs sp base (env::outer) gl tl s.heap h' e f σ'->E (.ref e) {s with heap:=h',toks:=tk'}) :
  wpAny (MM w) A (call (.ref 916) [.ref R,.int at_ ta]) Q E s:=by
 have hr:(600:Nat)<recursionLimit:=by decide
 have hnr':(rvs.length:Int)=nr:=(congrArg Int.ofNat rw_.1).trans hnr
 have a1:at_<nr:=by have:=(List.getElem?_eq_some_iff.mp hrow).1;omega
 refine ycA (ymY w) St0 hf (by omega) O rfl λg L cdv h1 tk1 fit kp gs F N=>?_
 rw [yiX]
 refine yab λGG hGG=>?_
 obtain ⟨p1,p2,p3,p4,p5,hb⟩:=ypr
 refine hGG ?_;clear hGG GG
 rw [hb]
 refine wpAny_execs_cons (wpAny_Try_except (wpAny_execs_cons (wpAny_Return_some ?_)))
 have at0:(fCx w ybn 916 cdv A base (env::outer) s E tl g L).At ⟨ybn.sc,20,false,true⟩:=⟨fit,rfl,by show A.depth+1+20<=600;omega,by show A.units+3+3 * 20<=3000;omega,λ_=>rfl,λ_=>hh⟩
 refine ybg (c:=fCx w ybn 916 cdv A base (env::outer) s E tl g L) (b:=909) (us:=[.ref R,.int at_ ta]) at0 F (by k_is) (by k_is) (by kernel_rfl) (.cons ⟨by rfl,by kernel_rfl⟩ (.cons ⟨by rfl,by kernel_rfl⟩ .nil)) nofun ?_
 refine yiW fit.B F N St0.X St0.T fit.fn (Around.frames_deeper fit.B.stack) hh (by show A.depth+1<=460;omega) (by show A.units+3<=1800;omega) ap off hlo G rw_ hnr hnr2 M l5 l0 a0 hrow ok (λgoal σ' gl' u h' tk' e1 G1 F1 N1=>?_) λf σ' gl' e D oD a9 G₀ h' tk' e1 G1 told ne F1 R1=>?_
 ·exact hgo goal σ' u _ _ (ybq e1) ⟨gl',G1,yc7 kp .refl F1 N1 λ_ h=>h⟩
 refine yab λGG hGG=>?_
 obtain ⟨a,b,n1,tk2,hrv,hm1,hst⟩:=rw_.2 _ _ hrow
 obtain ⟨fm,f0,en,eo,hh'⟩:=ycR M ok e1
 obtain ⟨tc,v,nd,hv⟩:=told
 obtain ⟨x,z7,tx,dx⟩:∃x z7,yiY f x/\∀(ρ:Rho) as,ρ.z[7]? = some z7->DV ρ as x v:=by
  rcases hv with ⟨t,rfl⟩|⟨hf8,k,t,rfl⟩
  ·exact ⟨.s (Str.ofString ""),0,.inl rfl,λρ as _=>⟨t,rfl⟩⟩
  ·exact ⟨.z (.v 7),k,.inr ⟨hf8,rfl⟩,λρ as h=>⟨k,t,h,rfl⟩⟩
 have tx':x = .s (Str.ofString "")∨(f=8/\∃z,x = .z z):=tx.imp id λh=>⟨h.1,_,h.2⟩
 have hmr:(ybn.ps.zip [Value.ref R,.int at_ ta]).reverse.lookup (Str.ofString "run")=some (.ref R):=by rfl
 have hma:(ybn.ps.zip [Value.ref R,.int at_ ta]).reverse.lookup (Str.ofString "at")=some (.int at_ ta):=by rfl
 have use:=fun (on:C) (kpp:List (Z × Option SV)) (pc:List C) (z6:Int) {V:List Vt} hon hkp pcs hv hb ends=>yhx (line:=line) (st:=st) (σ:=σ) (x:=x) (z7:=z7) (on:=on) (kp:=kpp) (pc:=pcL pc) (V:=V) (z6:=z6) (more:=[]) fit kp gs (kts_self F) hdp hun ap off hlo (ybX G) G1 hnr' hnr2 a0 hrv hm1 ne F1 hmr hma R1 dx tx' nd hon hkp pcs hv hb ends hgo hbad (tk1:=tk')
 have pcl:∀{pc:List C} {kvs z6},(∀c∈pc,c.ev (ybi at_ nr σ' line z6 z7 (yaj f) .none [a,b] rvs kvs)=some true)->∀c∈pcL pc,c.ev (ybi at_ nr σ' line z6 z7 (yaj f) .none [a,b] rvs kvs)=some true:=λh=>
  fC (congrArg some (decide_eq_true a0)) (fC (congrArg some (decide_eq_true a1)) h)
 rcases hh' with h0|⟨i,hi,i0,i1⟩
 ·obtain ⟨hv,hb⟩:=ypv tx
  have e2:=ybp (line:=line) e1 (.inl h0)
  refine hGG ?_;clear hGG GG
  exact use (.v 0) [] [.eq (.v 2) (.n 0)] 0 (λ_=>rfl) (λ_ _ _=>fN) (λkvs=>pcl (fC (congrArg some (decide_eq_true h0)) fN)) hv hb λkvs=>fC (.exc ⟨rfl,rfl,rfl,rfl,rfl⟩ e2) (fC (.exc ⟨rfl,rfl,rfl,rfl,rfl⟩ e2) fN)
 have hn0:σ'.hnd≠0:=λz=>by rw [z,l0] at hi;cases hi
 have pn:∀{kvs z6},∀c∈[C.not (.eq (.v 2) (.n 0))],c.ev (ybi at_ nr σ' line z6 z7 (yaj f) .none [a,b] rvs kvs)=some true:=fC (congrArg (λx=>some !x) (decide_eq_false hn0)) fN
 refine hGG ?_;clear hGG GG
 generalize hon:(σ'.on)=x9
 refine yab λGG hGG=>?_
 rcases x9 with _|_
 ·obtain ⟨hv,hb⟩:=ypx tx
  have e2:=yhw (line:=line) e1 hn0 hon hi
  refine hGG ?_;clear hGG GG
  exact use (.b false) [(.v 2,some (.z (.v 6)))] [.not (.eq (.v 2) (.n 0))] i (λ_=>congrArg some hon.symm) (kp1 λkvs as h=>⟨rfl,by obtain ⟨t,e⟩:=h.some hi;rw [e];exact .some ⟨i,t,rfl,rfl⟩⟩) (λkvs=>pcl pn) hv hb λkvs=>fC (.ret (σ':=⟨σ'.hnd,true,f,line,at_⟩) rfl ⟨rfl,rfl,rfl,rfl,rfl⟩ e2) (fC (.ret (σ':=⟨σ'.hnd,true,f,line,at_⟩) rfl ⟨rfl,rfl,rfl,rfl,rfl⟩ e2) fN)
 ·obtain ⟨hv,hb⟩:=ypw tx
  have e2:=ybp (line:=line) e1 (.inr hon)
  refine hGG ?_;clear hGG GG
  exact use (.b true) [] [.not (.eq (.v 2) (.n 0))] 0 (λ_=>congrArg some hon.symm) (λ_ _ _=>fN) (λkvs=>pcl pn) hv hb λkvs=>fC (.exc ⟨rfl,congrArg some hon.symm,rfl,rfl,rfl⟩ e2) (fC (.exc ⟨rfl,congrArg some hon.symm,rfl,rfl,rfl⟩ e2) fN)
end
noncomputable def ya6:Def:=mkD (yaE [135]) rfl "_law_walk"
noncomputable def yfH:PySem.Expr:=match ya6.body.drop 3 with
 | .While t _ _ _::_=>t
 | _=>.Constant .none 0 ⟨0,0,0,0⟩
noncomputable def ydY:List Stmt:=match ya6.body.drop 3 with
 | .While _ b _ _::_=>b
 | _=>[]
noncomputable def yet:List Stmt:=ya6.body.drop 4
noncomputable def pw:Pl:=⟨ya6.sc,10,true,true⟩
noncomputable def ylk (at_ nr:Int) (σ:yaL) (line z6 z7 cnt:Int) (q:List Addr) (rvs tvs:List Value) (kvs:List (Int × Value)) (uv:Value):Rho:=⟨[at_,nr,σ.hnd,σ.el,σ.fa,line,z6,z7,σ.num,cnt],[σ.on],[],q,[rvs,tvs],[uv],[kvs]⟩
noncomputable def mW (at_ hnd:Z) (on:C) (num el fa:Z) (more:List (Str × SV)):List (Str × SV):=(Str.ofString "rows",.r 2)::(Str.ofString "spots",.r 3)::(Str.ofString "told",.r 1)::(Str.ofString "at",.z at_)::(Str.ofString "handler",.z hnd)::(Str.ofString "is_on",.b on)::(Str.ofString "number",.z num)::(Str.ofString "told_line",.z el)::(Str.ofString "failed",.z fa)::more
noncomputable def osW (cv:Option SV) (app:List SV) (kn:List (Z × SV)) (kp:List (Z × Option SV)):List SO:=[.cell cv,.vec 1 (.v 9) [] app,.vec 0 (.v 1) kn [],.map 0 kp]
noncomputable def sW (on:C) (kn:List (Z × SV)) (kp:List (Z × Option SV)) (qs:List SO) (pc:List C):SS:=⟨mW (.v 0) (.v 2) on (.v 8) (.v 3) (.v 4) [],[(Str.ofString "line",0)],osW none [] kn kp,qs,pc,none⟩
inductive GoW (ρ:Rho) (sp:yao) (rows:List (Int × St)) (n:Nat) (nr at_ line:Int) (st:St) (σ:yaL) (told:List yb9) (kn:List (Z × SV)) (kp:List (Z × Option SV)):Vt->Prop
 | nx {g hnd num el fa:Z} {on:C} {more:List (Str × SV)} {cv:Option SV} {rest:List SO} {pc:List C} {j:Nat} {goal:Int} {σ':yaL} (e:step sp nr at_ line st σ = .go goal σ') (x:rest[j]? = some (.tup [.z (.v 0),.z g,.z num,.z el,.z fa,.b on,.z hnd])) (eg:g.ev ρ.z=some goal) (eh:hnd.ev ρ.z=some σ'.hnd) (en:num.ev ρ.z=some σ'.num) (el':el.ev ρ.z=some σ'.el) (ef:fa.ev ρ.z=some σ'.fa) (eo:on.ev ρ=some σ'.on):GoW ρ sp rows n nr at_ line st σ told kn kp (.nx (mW g hnd on num el fa more) (osW cv [.r (j+4)] kn kp++rest) pc)
 | ret {f num:Z} {on:C} {cv:Option SV} {rest:List SO} {pc:List C} {j:Nat} {fi ni:Int} {b:Bool} (x:rest[j]? = some (.tup [.r 1,.z f,.b on,.z num])) (ef:f.ev ρ.z=some fi) (en:num.ev ρ.z=some ni) (eo:on.ev ρ=some b) (e:ybc sp rows n at_ σ told=yaG told fi b ni):GoW ρ sp rows n nr at_ line st σ told kn kp (.ret (.r (j+4)) (osW cv [] kn kp++rest) pc)
inductive WSt (w:World) (g h:Heap) (L RW SP TL:Addr) (rvs tvs:List Value) (kvs:List (Int × Value)) (sp:yao) (rows:List (Int × St)) (tl1 tlx:Led) (m:Map) (at_:Int) (σ:yaL) (told:List yb9) (n:Nat):Prop
 | mk {oc po:Obj} {v₀:Option Value} {tn lw:Nat} {t1 t2 t3 t4 t5:Tok} (F:Fr g L h m) (N:News g L h ((L+1,oc)::(TL,listOf tvs.toArray tn)::(RW,listOf rvs.toArray lw)::(SP,po)::(tl1++tlx))) (hoc:oc.data = .cell v₀) (hpo:po.IsDictOf (PySem.intKind PP w) kvs)
  (hd:DatAll tl1 tvs (told.map yaT)) (off:OwnOff (tl1++tlx) [L+1,TL,RW,SP]) (M:MOk sp rows.length σ) (a0:0<=at_) (a1:at_<=(rows.length:Int)) (hn:told.length+n=18) (hg:ybc sp rows 18 0 σ0 []=ybc sp rows n at_ σ told)
  (m1:m (Str.ofString "rows")=some (.ref RW)) (m2:m (Str.ofString "spots")=some (.ref SP)) (m3:m (Str.ofString "told")=some (.ref TL)) (m4:m (Str.ofString "at")=some (.int at_ t1)) (m5:m (Str.ofString "handler")=some (.int σ.hnd t2)) (m6:m (Str.ofString "is_on")=some (.bool σ.on))
  (m7:m (Str.ofString "number")=some (.int σ.num t3)) (m8:m (Str.ofString "told_line")=some (.int σ.el t4)) (m9:m (Str.ofString "failed")=some (.int σ.fa t5)):WSt w g h L RW SP TL rvs tvs kvs sp rows tl1 tlx m at_ σ told n
inductive yaZ (w:World) (g:Heap) (L:Addr) (s:Shared) (RW SP TL:Addr) (rvs:List Value) (kvs:List (Int × Value)) (sp:yao) (rows:List (Int × St)) (tlx:Led) (n:Nat):Shared->Prop
 | mk {h:Heap} {tk:Nat} {m:Map} {at_:Int} {σ:yaL} {told:List yb9} {tvs:List Value} {tl1:Led} (W:WSt w g h L RW SP TL rvs tvs kvs sp rows tl1 tlx m at_ σ told n):yaZ w g L s RW SP TL rvs kvs sp rows tlx n {s with heap:=h,toks:=tk}
section
variable {w:World} {mean:ExcName->Option Value} {mg mb:Str->Option Value} {base g h:Heap} {outer:List Env} {A₀:Around} {s:Shared} {E:Value->Shared->Prop} {L fa:Addr} {cn:Str} {ccd:Value}
noncomputable abbrev wCx (w:World) (cn:Str) (L fa:Addr) (ccd:Value) (g:Heap) (s:Shared) (E:Value->Shared->Prop) (tl:Led) (A₀:Around) (base:Heap) (outer:List Env):Cx:=⟨w,cn,ya6.sc,L,fa,ccd,cellsFrom (L+1) ya6.sc.names [],g,s,E,tl,A₀,base,outer⟩
variable {m:Map} {oc po:Obj} {v₀:Option Value} {rvs tvs:List Value} {kvs:List (Int × Value)} {tn lw:Nat} {RW SP TL:Addr} {tl:Led} {σ:yaL} {at_ nr line z6 z7 cnt:Int} {q:List Addr} {t1 t2 t3 t4 t5:Tok} {on:C} {kn:List (Z × SV)} {kp:List (Z × Option SV)} {qs:List SO} {pc:List C} {uv:Value}
theorem yhy (F:Fr g L h m) (N:News g L h ((L+1,oc)::(TL,listOf tvs.toArray tn)::(RW,listOf rvs.toArray lw)::(SP,po)::tl)) (off:OwnOff tl [L+1,TL,RW,SP]) (n1 : @Ne Nat (L+1) TL) (n2 : @Ne Nat (L+1) RW) (n3 : @Ne Nat (L+1) SP) (n4 : @Ne Nat TL RW) (n5 : @Ne Nat TL SP) (n6 : @Ne Nat RW SP) :
  Is (wCx w cn L fa ccd g s E tl A₀ base outer) m [(L+1,oc),(TL,listOf tvs.toArray tn),(RW,listOf rvs.toArray lw),(SP,po)] h:=by
 refine ⟨F,N,?_,λp hp q hq=>off q hq _ (List.mem_map_of_mem (f:=(·.1)) hp)⟩
 show ([L+1,TL,RW,SP]:List Addr).Nodup
 simp only [List.nodup_cons,List.mem_cons,List.not_mem_nil,or_false,not_or,List.nodup_nil,and_true,not_false_eq_true]
 exact ⟨⟨n1,n2,n3⟩,⟨n4,n5⟩,n6⟩
theorem ye2 (hoc:oc.data = .cell v₀) (hpo:po.IsDictOf (PySem.intKind PP w) kvs) (hlo:(SP==sysModules)=false) (hnr:(rvs.length:Int)=nr) (h1:rvs.length<=1000) (hcnt:(tvs.length:Int)=cnt) (h2:tvs.length<=1000)
  (m1:m (Str.ofString "rows")=some (.ref RW)) (m2:m (Str.ofString "spots")=some (.ref SP)) (m3:m (Str.ofString "told")=some (.ref TL)) (m4:m (Str.ofString "at")=some (.int at_ t1)) (m5:m (Str.ofString "handler")=some (.int σ.hnd t2)) (m6:m (Str.ofString "is_on")=some (.bool σ.on))
  (m7:m (Str.ofString "number")=some (.int σ.num t3)) (m8:m (Str.ofString "told_line")=some (.int σ.el t4)) (m9:m (Str.ofString "failed")=some (.int σ.fa t5))
  (hon:on.ev (ylk at_ nr σ line z6 z7 cnt q rvs tvs kvs uv)=some σ.on) (hkn:∀as,∀p∈kn,DK (ylk at_ nr σ line z6 z7 cnt q rvs tvs kvs uv) as rvs p) (hkp:∀as,∀p∈kp,DM (ylk at_ nr σ line z6 z7 cnt q rvs tvs kvs uv) as kvs p)
  (pcs:∀C∈pc,C.ev (ylk at_ nr σ line z6 z7 cnt q rvs tvs kvs uv)=some true) (tls:∀(i:Nat) (x:SO),qs[i]? = some x->DTl w tl (ylk at_ nr σ line z6 z7 cnt q rvs tvs kvs uv) i x) :
  Den (wCx w cn L fa ccd g s E tl A₀ base outer) (ylk at_ nr σ line z6 z7 cnt q rvs tvs kvs uv) (sW on kn kp qs pc) m [(L+1,oc),(TL,listOf tvs.toArray tn),(RW,listOf rvs.toArray lw),(SP,po)]:=by
 refine ⟨yaC ?_,ya9 (.cons ⟨hoc,.none⟩ (.cons ⟨rfl,by rw [List.append_nil],congrArg some hcnt.symm,h2,.nil,fN⟩ (.cons ⟨rfl,by rw [List.append_nil],congrArg some hnr.symm,h1,.nil,hkn _⟩ (.cons ⟨hlo,rfl,hpo,hkp _⟩ .nil)))),pcs,tls,λx i h=>?_,λi h=>nomatch h⟩
 ·exact fC ⟨_,m1,RW,rfl,rfl⟩ (fC ⟨_,m2,SP,rfl,rfl⟩ (fC ⟨_,m3,TL,rfl,rfl⟩ (fC ⟨_,m4,_,_,rfl,rfl⟩ (fC ⟨_,m5,_,_,rfl,rfl⟩ (fC ⟨_,m6,_,hon,rfl⟩ (fC ⟨_,m7,_,_,rfl,rfl⟩ (fC ⟨_,m8,_,_,rfl,rfl⟩ (fC ⟨_,m9,_,_,rfl,rfl⟩ fN))))))))
 ·have e:=yaB h
  cases List.mem_singleton.mp e
  exact ⟨L+1,rfl,by kernel_rfl⟩
end
section
variable {w:World} {g h:Heap} {s:Shared} {L:Addr} {m:Map} {oc po:Obj} {v₀:Option Value} {rvs tvs:List Value} {kvs:List (Int × Value)} {tn lw:Nat} {RW SP TL:Addr} {tlx tl1:Led} {σ:yaL} {sp:yao} {rows:List (Int × St)} {at_ line:Int} {st:St} {told:List yb9}
theorem yhz {news:Led} {T:Addr} {n1 k tk:Nat} {goal:Int} {σ':yaL} {t1 t2 t3 t4 t5 t6 u1 u2 u3 u4 u5:Tok}
  (e:step sp rows.length at_ line st σ = .go goal σ') (M':MOk sp rows.length σ'/\0<=goal/\goal<=(rows.length:Int)) (F:Fr g L h m) (N:News g L h news) (iT:(T,yal [.int at_ t1,.int goal t2,.int σ'.num t3,.int σ'.el t4,.int σ'.fa t5,.bool σ'.on,.int σ'.hnd t6] k)∈news)
  (iC:(L+1,oc)∈news) (iL:(TL,listOf (tvs ++ [Value.ref T]).toArray tn)∈news) (iR:(RW,listOf rvs.toArray lw)∈news) (iS:(SP,po)∈news) (ix:∀q∈tl1++tlx,q∈news) (hoc:oc.data = .cell v₀) (hpo:po.IsDictOf (PySem.intKind PP w) kvs)
  (hd:DatAll tl1 tvs (told.map yaT)) (off:OwnOff (tl1++tlx) [L+1,TL,RW,SP]) (nT:∀b∈[L+1,TL,RW,SP],T≠b)
  (hn:told.length+(n1+1)=18) (hg:ybc sp rows 18 0 σ0 []=ybc sp rows (n1+1) at_ σ told) (a1:at_<(rows.length:Int)) (hr:rows[at_.toNat]? = some (line,st))
  (m1:m (Str.ofString "rows")=some (.ref RW)) (m2:m (Str.ofString "spots")=some (.ref SP)) (m3:m (Str.ofString "told")=some (.ref TL)) (m4:m (Str.ofString "at")=some (.int goal u1)) (m5:m (Str.ofString "handler")=some (.int σ'.hnd u2)) (m6:m (Str.ofString "is_on")=some (.bool σ'.on))
  (m7:m (Str.ofString "number")=some (.int σ'.num u3)) (m8:m (Str.ofString "told_line")=some (.int σ'.el u4)) (m9:m (Str.ofString "failed")=some (.int σ'.fa u5)) :
  yaZ w g L s RW SP TL rvs kvs sp rows tlx n1 {s with heap:=h,toks:=tk}:=by
 refine .mk (told:=told ++ [(at_,goal,σ'.num,σ'.el,σ'.fa,σ'.on,σ'.hnd)]) (tvs:=tvs ++ [Value.ref T]) (tl1:=(T,yal [.int at_ t1,.int goal t2,.int σ'.num t3,.int σ'.el t4,.int σ'.fa t5,.bool σ'.on,.int σ'.hnd t6] k)::tl1) (.mk (tn:=tn) (lw:=lw) F ?_ hoc hpo ?_ (fC nT off) M'.1 M'.2.1 M'.2.2 ?_ (hg.trans (ygm a1 hr e)) m1 m2 m3 m4 m5 m6 m7 m8 m9)
 ·exact fC (N _ iC) (fC (N _ iL) (fC (N _ iR) (fC (N _ iS) (fC (N _ iT) (λq hq=>N q (ix q hq))))))
 ·rw [List.map_append]
  exact (hd.mono λq hq=>.tail _ hq).append (.one (.tuple (.head _) (.cons (.int _ _) (.cons (.int _ _) (.cons (.int _ _) (.cons (.int _ _) (.cons (.int _ _) (.cons (.bool _) (.cons (.int _ _) .nil)))))))))
 ·rw [List.length_append,List.length_singleton];omega
end
inductive ynK (w:World) (ρ:Rho) (ns' tl:Led) (L TL RW SP:Addr) (rvs tvs:List Value) (kvs:List (Int × Value)) (app:List SV):Prop
 | mk {oc po:Obj} {v₀:Option Value} {ws:List Value} {tn lw:Nat} (iC:(L+1,oc)∈ns'++tl) (iL:(TL,listOf (tvs++ws).toArray tn)∈ns'++tl) (iR:(RW,listOf rvs.toArray lw)∈ns'++tl) (iS:(SP,po)∈ns'++tl) (hoc:oc.data = .cell v₀) (hpo:po.IsDictOf (PySem.intKind PP w) kvs) (D:DVs ρ (yae ns') app ws) :
   ynK w ρ ns' tl L TL RW SP rvs tvs kvs app
section
variable {w:World} {ρ ρ':Rho} {ns' tl:Led} {L TL RW SP:Addr} {rvs tvs:List Value} {kvs:List (Int × Value)} {app:List SV} {cv:Option SV} {kn:List (Z × SV)} {kp:List (Z × Option SV)} {rest:List SO}
theorem ydZ (h:DOs w ρ (yae ns') (osW cv app kn kp++rest) ns') (pre:[L+1,TL,RW,SP] <+: yae ns') (l0:ρ.l[0]? = some rvs) (l1:ρ.l[1]? = some tvs) (k0:ρ.k[0]? = some kvs):ynK w ρ ns' tl L TL RW SP rvs tvs kvs app:=by
 refine yab λGG hGG=>?_
 obtain ⟨o0,e0,f0,d0⟩:=h.atK (i:=0) rfl (yad pre _ rfl)
 obtain ⟨o1,e1,f1⟩:=h.atK (i:=1) rfl (yad pre _ rfl)
 obtain ⟨o2,e2,f2⟩:=h.atK (i:=2) rfl (yad pre _ rfl)
 obtain ⟨o3,e3,f3⟩:=h.atK (i:=3) rfl (yad pre _ rfl)
 obtain ⟨g1,h1,_,_,D1,_⟩:=f1
 cases g1.symm.trans l1
 obtain ⟨lw,h2⟩:=ylN f2 l0
 rw [h1] at e1
 rw [h2] at e2
 refine hGG ?_;clear hGG GG
 exact ⟨List.mem_append_left _ (List.mem_of_getElem? e0),List.mem_append_left _ (List.mem_of_getElem? e1),List.mem_append_left _ (List.mem_of_getElem? e2),List.mem_append_left _ (List.mem_of_getElem? e3),f0,ylO f3 k0,D1⟩
end
theorem yjM {ρ:Rho} {as:List Addr} {i:Nat} {vs:List Value} (h:DVs ρ as [.r i] vs):∃a,vs = [Value.ref a]/\as[i]? = some a:=by
 refine yab λGG hGG=>?_
 obtain ⟨y,ys,rfl,⟨a,e,rfl⟩,h'⟩:=yai h
 refine hGG ?_;clear hGG GG
 rw [yar h']
 exact ⟨a,rfl,e⟩
theorem iz {ρ:Rho} {as:List Addr} {z:Z} {i:Int} {es:List SV} {vs:List Value} (h:DVs ρ as (.z z::es) vs) (e:z.ev ρ.z=some i):∃t r,vs = .int i t::r/\DVs ρ as es r:=by
 refine yab λGG hGG=>?_
 obtain ⟨v,r,e',d,h⟩:=yai h
 obtain ⟨t,rfl⟩:=ybt d e
 refine hGG ?_;clear hGG GG
 exact ⟨t,r,e',h⟩
theorem ib {ρ:Rho} {as:List Addr} {c:C} {i:Bool} {es:List SV} {vs:List Value} (h:DVs ρ as (.b c::es) vs) (e:c.ev ρ=some i):∃r,vs = .bool i::r/\DVs ρ as es r:=by
 refine yab λGG hGG=>?_
 obtain ⟨v,r,e',d,h⟩:=yai h
 rw [yeT d e] at e'
 refine hGG ?_;clear hGG GG
 exact ⟨r,e',h⟩
inductive ynL (i1 i2 i3 i4 i5 i6:Int) (b:Bool) (o:Obj):Prop
 | mk {t1 t2 t3 t4 t5 t6:Tok} {k:Nat} (e:o=yal [.int i1 t1,.int i2 t2,.int i3 t3,.int i4 t4,.int i5 t5,.bool b,.int i6 t6] k):ynL i1 i2 i3 i4 i5 i6 b o
theorem ynM {ρ:Rho} {as:List Addr} {z1 z2 z3 z4 z5 z6:Z} {c:C} {i1 i2 i3 i4 i5 i6:Int} {b:Bool} {o:Obj} (h:yl3 ρ as [.z z1,.z z2,.z z3,.z z4,.z z5,.b c,.z z6] o) (e1:z1.ev ρ.z=some i1) (e2:z2.ev ρ.z=some i2) (e3:z3.ev ρ.z=some i3) (e4:z4.ev ρ.z=some i4) (e5:z5.ev ρ.z=some i5) (e6:z6.ev ρ.z=some i6) (eb:c.ev ρ=some b) :
  ynL i1 i2 i3 i4 i5 i6 b o:=by
 refine yab λGG hGG=>?_
 obtain ⟨e,D⟩:=h
 obtain ⟨_,_,q,D⟩:=iz D e1
 rw [q] at e;clear q e1
 obtain ⟨_,_,q,D⟩:=iz D e2
 rw [q] at e;clear q e2
 obtain ⟨_,_,q,D⟩:=iz D e3
 rw [q] at e;clear q e3
 obtain ⟨_,_,q,D⟩:=iz D e4
 rw [q] at e;clear q e4
 obtain ⟨_,_,q,D⟩:=iz D e5
 rw [q] at e;clear q e5
 obtain ⟨_,q,D⟩:=ib D eb
 rw [q] at e;clear q eb
 obtain ⟨_,_,q,D⟩:=iz D e6
 rw [q,yar D] at e
 refine hGG ?_;clear hGG GG
 exact ⟨e⟩
theorem yqB {ρ:Rho} {as:List Addr} {z1 z2:Z} {c:C} {i1 i2:Int} {b:Bool} {i:Nat} {a:Addr} {o:Obj} (h:yl3 ρ as [.r i,.z z1,.b c,.z z2] o) (e0:as[i]? = some a) (e1:z1.ev ρ.z=some i1) (e2:z2.ev ρ.z=some i2) (eb:c.ev ρ=some b) :
  ∃t1 t2 k,o=yal [.ref a,.int i1 t1,.bool b,.int i2 t2] k:=by
 refine yab λGG hGG=>?_
 obtain ⟨e,D⟩:=h
 obtain ⟨v1,r,q,d1,D⟩:=yai D
 rw [q,ybW d1 e0] at e;clear q d1 e0
 obtain ⟨_,_,q,D⟩:=iz D e1
 rw [q] at e;clear q e1
 obtain ⟨_,q,D⟩:=ib D eb
 rw [q] at e;clear q eb
 obtain ⟨_,_,q,D⟩:=iz D e2
 rw [q,yar D] at e
 refine hGG ?_;clear hGG GG
 exact ⟨_,_,_,e⟩
inductive yqC (ρ:Rho) (as:List Addr) (RW SP TL:Addr) (a h n l f:Int) (b:Bool) (m:Map):Prop
 | mk {t1 t2 t3 t4 t5:Tok} (m1:m (Str.ofString "rows")=some (.ref RW)) (m2:m (Str.ofString "spots")=some (.ref SP)) (m3:m (Str.ofString "told")=some (.ref TL)) (m4:m (Str.ofString "at")=some (.int a t1)) (m5:m (Str.ofString "handler")=some (.int h t2)) (m6:m (Str.ofString "is_on")=some (.bool b))
  (m7:m (Str.ofString "number")=some (.int n t3)) (m8:m (Str.ofString "told_line")=some (.int l t4)) (m9:m (Str.ofString "failed")=some (.int f t5)):yqC ρ as RW SP TL a h n l f b m
theorem yst {ρ:Rho} {as:List Addr} {RW SP TL:Addr} {a h n l f:Int} {b:Bool} {m:Map} {za zh zn zl zf:Z} {c:C} {more:List (Str × SV)} (H:∀x,DQ ρ as ((mW za zh c zn zl zf more).lookup x) (m x)) (r2:as[2]? = some RW) (r3:as[3]? = some SP) (r1:as[1]? = some TL)
  (ea:za.ev ρ.z=some a) (eh:zh.ev ρ.z=some h) (en:zn.ev ρ.z=some n) (el:zl.ev ρ.z=some l) (ef:zf.ev ρ.z=some f) (eb:c.ev ρ=some b):yqC ρ as RW SP TL a h n l f b m:=by
 have q:∀{x v},(mW za zh c zn zl zf more).lookup x=some v->∃u,m x=some u/\DV ρ as v u:=fun {x v} e=>ya3 (e▸H x)
 have qz:∀{x z k},(mW za zh c zn zl zf more).lookup x=some (.z z)->z.ev ρ.z=some k->∃t,m x=some (.int k t):=λe ez=>by
  refine yab λGG hGG=>?_
  obtain ⟨u,hu,d⟩:=q e
  obtain ⟨t,rfl⟩:=ybt d ez
  refine hGG ?_;clear hGG GG
  exact ⟨t,hu⟩
 have qr:∀{x i k},(mW za zh c zn zl zf more).lookup x=some (.r i)->as[i]? = some k->m x=some (.ref k):=λe ez=>by
  obtain ⟨u,hu,d⟩:=q e
  rw [hu,ybW d ez]
 refine yab λGG hGG=>?_
 obtain ⟨t4,m4⟩:=qz (x:=Str.ofString "at") (by kernel_rfl) ea
 obtain ⟨t5,m5⟩:=qz (x:=Str.ofString "handler") (by kernel_rfl) eh
 obtain ⟨t7,m7⟩:=qz (x:=Str.ofString "number") (by kernel_rfl) en
 obtain ⟨t8,m8⟩:=qz (x:=Str.ofString "told_line") (by kernel_rfl) el
 obtain ⟨t9,m9⟩:=qz (x:=Str.ofString "failed") (by kernel_rfl) ef
 obtain ⟨u,m6,d⟩:=q (x:=Str.ofString "is_on") (v:=.b c) (by kernel_rfl)
 rw [yeT d eb] at m6
 refine hGG ?_;clear hGG GG
 exact ⟨qr (by kernel_rfl) r2,qr (by kernel_rfl) r3,qr (by kernel_rfl) r1,m4,m5,m6,m7,m8,m9⟩
theorem yhA {cv:Option SV} {app:List SV} {kn:List (Z × SV)} {kp:List (Z × Option SV)} {rest:List SO} {j:Nat}:(osW cv app kn kp++rest)[j+4]? = rest[j]?:=rfl
theorem yiZ {g h hs:Heap} {L D TL:Addr} {m:Str->Option Value} {news tl1 tl2 tl0:List (Addr × Obj)} {tvs:List Value} {told:List yb9} {tn n:Nat} {f num:Int} {on:Bool} {t1 t2:Tok}
  (kp:ycO (tl0.map (·.1)) hs g) (F:Fr g L h m) (N:News g L h news) (i1:(D,yal [.ref TL,.int f t1,.bool on,.int num t2] n)∈news) (i2:(TL,listOf tvs.toArray tn)∈news) (i3:∀p∈tl1++(tl2++tl0),p∈news) (hd:DatAll tl1 tvs (told.map yaT)) :
  ∃tl',ybK (tl0.map (·.1)) hs h (tl'++tl0)/\DatIn (tl'++tl0) (.ref D) (yaG told f on num):=by
 refine ⟨(D,yal [.ref TL,.int f t1,.bool on,.int num t2] n)::(TL,listOf tvs.toArray tn)::(tl1++tl2),yaN kp F N λp hp=>?_,?_⟩
 ·rw [List.cons_append,List.cons_append,List.append_assoc] at hp
  rcases List.mem_cons.mp hp with rfl|hp
  ·exact i1
  rcases List.mem_cons.mp hp with rfl|hp
  ·exact i2
  ·exact i3 p hp
 ·refine .tuple (.head _) (.cons (.list (.tail _ (.head _)) (hd.mono λq hq=>.tail _ (.tail _ (List.mem_append_left _ (List.mem_append_left _ hq))))) (.cons (.int _ _) (.cons (.bool _) (.cons (.int _ _) .nil))))
section
variable {w:World} {base g:Heap} {outer:List Env} {A₀:Around} {s:Shared} {E:Value->Shared->Prop} {L fa:Addr} {cn:Str} {ccd:Value}
variable {ρ:Rho} {ns tl1 tlx:Led} {RW SP TL:Addr} {rvs tvs:List Value} {kvs:List (Int × Value)} {σ:yaL} {sp:yao} {rows:List (Int × St)} {at_ line:Int} {st:St} {told:List yb9} {kn:List (Z × SV)} {kp:List (Z × Option SV)} {n:Nat} {P:Flow->Shared->Prop} {N:Shared->Prop}
structure yoq (ρ:Rho) (ns:Led) (L RW SP TL:Addr) (rvs tvs:List Value) (kvs:List (Int × Value)) (at_:Int):Prop where
 ks:yae ns = [L+1,TL,RW,SP]
 l0:ρ.l[0]? = some rvs
 l1:ρ.l[1]? = some tvs
 k0:ρ.k[0]? = some kvs
 z0:ρ.z[0]? = some at_
theorem ynN (R:yoq ρ ns L RW SP TL rvs tvs kvs at_) (hd:DatAll tl1 tvs (told.map yaT)) (off:OwnOff (tl1++tlx) [L+1,TL,RW,SP]) (M:MOk sp rows.length σ) (a0:0<=at_) (a1:at_<(rows.length:Int)) (hr:rows[at_.toNat]? = some (line,st)) (ok:yeG sp rows.length st)
  (hn:told.length+(n+1)=18) (hg:ybc sp rows 18 0 σ0 []=ybc sp rows (n+1) at_ σ told) {g' hnd num el fz:Z} {on:C} {more:List (Str × SV)} {cv:Option SV} {rest:List SO} {pc:List C} {j:Nat} {goal:Int} {σ':yaL} (x:rest[j]? = some (.tup [.z (.v 0),.z g',.z num,.z el,.z fz,.b on,.z hnd])) (eg:g'.ev ρ.z=some goal) (eh:hnd.ev ρ.z=some σ'.hnd)
  (en:num.ev ρ.z=some σ'.num) (el':el.ev ρ.z=some σ'.el) (ef:fz.ev ρ.z=some σ'.fa) (eo:on.ev ρ=some σ'.on) (e:step sp rows.length at_ line st σ = .go goal σ') (hP:∀s',yaZ w g L s RW SP TL rvs kvs sp rows tlx n s'->P .next s') :
  ybs (wCx w cn L fa ccd g s E (tl1++tlx) A₀ base outer) ρ ns P N (.nx (mW g' hnd on num el fz more) (osW cv [.r (j+4)] kn kp++rest) pc):=by
 intro ρ' ns' m' h tk H
 have pre:[L+1,TL,RW,SP] <+: yae ns':=R.ks▸H.up.a
 refine yab λGG hGG=>?_
 obtain ⟨iC,iL,iR,iS,hoc,hpo,D⟩:=ydZ (tl:=tl1++tlx) H.obs pre (yad H.up.l _ R.l0) (yad H.up.l _ R.l1) (yad H.up.k _ R.k0)
 obtain ⟨T,rfl,hT⟩:=yjM D
 obtain ⟨oT,eT,dT⟩:=H.obs.atK (yhA.trans x) hT
 have up:=fun {z:Z} {k:Int} (q:z.ev ρ.z=some k)=>Z.up H.up.z z k q
 obtain ⟨eT'⟩:=ynM dT (up (z:=.v 0) R.z0) (up eg) (up en) (up el') (up ef) (up eh) (C.up H.up _ _ eo)
 rw [eT'] at eT
 obtain ⟨m1,m2,m3,m4,m5,m6,m7,m8,m9⟩:=yst H.loc (yad pre _ rfl) (yad pre _ rfl) (yad pre _ rfl) (up eg) (up eh) (up en) (up el') (up ef) (C.up H.up _ _ eo)
 refine hGG ?_;clear hGG GG
 refine hP _ (yhz e (ygl M ok a0 a1 e) H.i.F H.i.N (List.mem_append_left _ (List.mem_of_getElem? eT)) iC iL iR iS (λq hq=>List.mem_append_right _ hq) hoc hpo hd off (λb hb=>?_) hn hg a1 hr m1 m2 m3 m4 m5 m6 m7 m8 m9)
 obtain ⟨i,hi⟩:=List.getElem?_of_mem hb
 have lt:=(List.getElem?_eq_some_iff.mp hi).1
 intro eb
 have:=(List.getElem?_inj (List.getElem?_eq_some_iff.mp hT).1 H.i.nd).mp (hT.trans (eb▸(yad pre _ hi).symm))
 have:i<4:=lt
 omega
theorem yhB {tl2 tl0:Led} {hs:Heap} (R:yoq ρ ns L RW SP TL rvs tvs kvs at_) (hd:DatAll tl1 tvs (told.map yaT)) (kp':ycO (tl0.map (·.1)) hs g)
  {f num:Z} {on:C} {cv:Option SV} {rest:List SO} {pc:List C} {j:Nat} {fi ni:Int} {b:Bool} (x:rest[j]? = some (.tup [.r 1,.z f,.b on,.z num])) (ef:f.ev ρ.z=some fi) (en:num.ev ρ.z=some ni) (eo:on.ev ρ=some b) (e:ybc sp rows 18 0 σ0 []=yaG told fi b ni)
  (hret:∀r tl' h' tk',ybK (tl0.map (·.1)) hs h' (tl'++tl0)->DatIn (tl'++tl0) r (ybc sp rows 18 0 σ0 [])->P (.ret r) {s with heap:=h',toks:=tk'}) :
  ybs (wCx w cn L fa ccd g s E (tl1++(tl2++tl0)) A₀ base outer) ρ ns P N (.ret (.r (j+4)) (osW cv [] kn kp++rest) pc):=by
 intro ρ' ns' m' u h tk H du
 have pre:[L+1,TL,RW,SP] <+: yae ns':=R.ks▸H.up.a
 refine yab λGG hGG=>?_
 obtain ⟨iC,iL,iR,iS,hoc,hpo,D⟩:=ydZ (tl:=tl1++(tl2++tl0)) H.obs pre (yad H.up.l _ R.l0) (yad H.up.l _ R.l1) (yad H.up.k _ R.k0)
 rw [yar D,List.append_nil] at iL
 obtain ⟨T,hT,rfl⟩:=du
 obtain ⟨oT,eT,dT⟩:=H.obs.atK (yhA.trans x) hT
 obtain ⟨t1,t2,k,rfl⟩:=yqB dT (yad pre _ rfl) (Z.up H.up.z _ _ ef) (Z.up H.up.z _ _ en) (C.up H.up _ _ eo)
 obtain ⟨tl',P1,P2⟩:=yiZ kp' H.i.F H.i.N (List.mem_append_left _ (List.mem_of_getElem? eT)) iL (λq hq=>List.mem_append_right _ hq) hd
 refine hGG ?_;clear hGG GG
 exact hret _ tl' _ _ P1 (e▸P2)
end
noncomputable def mo (st wd wh fz goal:SV):List (Str × SV):=[(Str.ofString "statement",st),(Str.ofString "word",wd),(Str.ofString "what",wh),(Str.ofString "fault",fz),(Str.ofString "goal",goal)]
theorem yi0 {a b:Z} {ρ:Rho} {x y:Int} (ha:a.ev ρ.z=some x) (hb:b.ev ρ.z=some y) (h:x<y):(C.lt a b).ev ρ=some true:=by
 show two _ (a.ev ρ.z) (b.ev ρ.z)=_
 rw [ha,hb];exact congrArg some (decide_eq_true h)
theorem ysu {a b:Z} {ρ:Rho} {x y:Int} (ha:a.ev ρ.z=some x) (hb:b.ev ρ.z=some y) (h:x=y):(C.eq a b).ev ρ=some true:=by
 show two _ (a.ev ρ.z) (b.ev ρ.z)=_
 rw [ha,hb];exact congrArg some (decide_eq_true h)
theorem ynO {a b:Z} {ρ:Rho} {x y:Int} (ha:a.ev ρ.z=some x) (hb:b.ev ρ.z=some y) (h:x≠y):(C.not (.eq a b)).ev ρ=some true:=by
 show (two _ (a.ev ρ.z) (b.ev ρ.z)).map _=_
 rw [ha,hb];exact congrArg (λx=>some !x) (decide_eq_false h)
structure yll (w:World) (g hs base:Heap) (outer:List Env) (A₀:Around) (s:Shared) (L RW SP TL:Addr) (rvs:List Value) (kvs:List (Int × Value)) (sp:yao) (rows:List (Int × St)) (tl2 tl0:Led) (Q:Flow->Shared->Prop):Prop where
 B:Below A₀ base outer g
 X:(KK w.params).In base
 T:∃mean mg mb,Top VV LO mean mg mb base
 hh:A₀.handled=none
 hdp:A₀.depth+1+10<=600
 hun:A₀.units+3+30<=3000
 kp:ycO (tl0.map (·.1)) hs g
 n1 : @Ne Nat (L+1) TL
 n2 : @Ne Nat (L+1) RW
 n3 : @Ne Nat (L+1) SP
 n4 : @Ne Nat TL RW
 n5 : @Ne Nat TL SP
 n6 : @Ne Nat RW SP
 R:RowsAre (tl2++tl0) rvs rows
 spk:SpotsAre kvs sp
 lo:(SP==sysModules)=false
 r10:rows.length<=10
 l5:lk sp 5=none
 l0:lk sp 0=none
 st:∀{x:Int × St},x∈rows->yeG sp rows.length x.2
 ret:∀r tl' h' tk',ybK (tl0.map (·.1)) hs h' (tl'++tl0)->DatIn (tl'++tl0) r (ybc sp rows 18 0 σ0 [])->Q (.ret r) {s with heap:=h',toks:=tk'}
section
variable {w:World} {base g h hs:Heap} {outer:List Env} {A₀:Around} {s:Shared} {E:Value->Shared->Prop} {L fa:Addr} {cn:Str} {ccd:Value} {tk:Nat}
variable {tl1 tl2 tl0:Led} {RW SP TL:Addr} {rvs tvs:List Value} {kvs:List (Int × Value)} {σ:yaL} {sp:yao} {rows:List (Int × St)} {at_ line:Int} {st:St} {told:List yb9} {n:Nat} {m:Map} {Q:Flow->Shared->Prop} {N B:Shared->Prop}
noncomputable def ybb (w:World) (cn:Str) (L fa:Addr) (ccd:Value) (A₀:Around) (E:Value->Shared->Prop) (P:Flow->Shared->Prop) (N:Shared->Prop) (s':Shared):Prop:=
 wpAny (MM w) (A₀.deeper (envX cn ya6.sc L fa ccd (cellsFrom (L+1) ya6.sc.names []))) (PySem.isTrue yfH (envX cn ya6.sc L fa ccd (cellsFrom (L+1) ya6.sc.names [])) (eval yfH (envX cn ya6.sc L fa ccd (cellsFrom (L+1) ya6.sc.names []))))
  (λb s₂=>WhlIf b (wpAny (MM w) (A₀.deeper (envX cn ya6.sc L fa ccd (cellsFrom (L+1) ya6.sc.names []))) (execs ydY (envX cn ya6.sc L fa ccd (cellsFrom (L+1) ya6.sc.names []))) P E s₂) (N s₂)) E s'
noncomputable abbrev ydu (rows:List (Int × St)) (told:List yb9) (rvs tvs:List Value) (kvs:List (Int × Value)) (at_ line:Int) (σ:yaL) (z6 z7:Int) (q:List Addr) (uv:Value):Rho:=ylk at_ rows.length σ line z6 z7 told.length q rvs tvs kvs uv
noncomputable abbrev pcW (pc:List C):List C:=.lt (.v 0) (.v 1)::.lt (.v 9) (.n 18)::pc
theorem wt (K:yll w g hs base outer A₀ s L RW SP TL rvs kvs sp rows tl2 tl0 Q) (W:WSt w g h L RW SP TL rvs tvs kvs sp rows tl1 (tl2++tl0) m at_ σ told (n+1)) (hlt:at_<(rows.length:Int)) (hrow:rows[at_.toNat]? = some (line,st))
  {on:C} {kp:List (Z × Option SV)} {qs:List SO} {pc:List C} {V:List Vt} {z6 z7:Int} {q:List Addr} {a:Addr} {uv:Value} (hon:on.ev (ydu rows told rvs tvs kvs at_ line σ z6 z7 (a::q) uv)=some σ.on) (hrv:rvs[at_.toNat]? = some (Value.ref a))
  (hkp:∀as,∀p∈kp,DM (ydu rows told rvs tvs kvs at_ line σ z6 z7 (a::q) uv) as kvs p) (pcs:∀C∈pc,C.ev (ydu rows told rvs tvs kvs at_ line σ z6 z7 (a::q) uv)=some true) (tls:A2 (yjF w (tl2++tl0) (ydu rows told rvs tvs kvs at_ line σ z6 z7 (a::q) uv)) qs (a::q))
  (hv:(xSs (run YY 40) pw ydY (sW on [(.v 0,.q 0)] kp qs (pcW pc))).map yaD=V) (hb:yaI (xSs (run YY 40) pw ydY (sW on [(.v 0,.q 0)] kp qs (pcW pc)))=true)
  (ends:∀x∈V,GoW (ydu rows told rvs tvs kvs at_ line σ z6 z7 (a::q) uv) sp rows (n+1) rows.length at_ line st σ told [(.v 0,.q 0)] kp x) :
  ybb w cn L fa ccd A₀ E (yaW (yaZ w g L s RW SP TL rvs kvs sp rows (tl2++tl0)) (n+1) Q) N {s with heap:=h,toks:=tk}:=by
 refine yab λGG hGG=>?_
 obtain @⟨oc,po,v₀,tn,lw,_,_,_,_,_,F,N0,hoc,hpo,hd,off,M,a0,a1,hn,hg,m1,m2,m3,m4,m5,m6,m7,m8,m9⟩:=W
 have htl:(tvs.length:Int)=(told.length:Int):=by rw [hd.length,List.length_map]
 have h10:=K.r10
 have ok:=K.st (List.mem_of_getElem? hrow)
 have den:=ye2 (nr:=(rows.length:Int)) (tn:=tn) (lw:=lw) (cn:=cn) (L:=L) (fa:=fa) (ccd:=ccd) (g:=g) (s:=s) (E:=E) (tl:=tl1++(tl2++tl0)) (A₀:=A₀) (base:=base) (outer:=outer) (line:=line) (z6:=z6) (z7:=z7) (q:=a::q) (uv:=uv) (on:=on) (kn:=[(.v 0,.q 0)]) (kp:=kp) (qs:=qs) (pc:=pcW pc)
  hoc hpo K.lo (congrArg Int.ofNat K.R.1) (by have:=K.R.1;omega) htl (by omega) m1 m2 m3 m4 m5 m6 m7 m8 m9 hon (λas=>fC ⟨rfl,a0,hrv,a,rfl,rfl⟩ fN) hkp
  (fC (yi0 rfl rfl hlt) (fC (yi0 rfl rfl (by omega)) pcs)) (ydT (tls.imp λx b d=>by obtain ⟨m,d⟩:=d;exact ⟨List.mem_append_right _ m,d⟩))
 have R:yoq (ydu rows told rvs tvs kvs at_ line σ z6 z7 (a::q) uv) [(L+1,oc),(TL,listOf tvs.toArray tn),(RW,listOf rvs.toArray lw),(SP,po)] L RW SP TL rvs tvs kvs at_:=⟨rfl,rfl,rfl,rfl,rfl⟩
 refine hGG ?_;clear hGG GG
 refine yjz (yaR w) 40 (p:=pw) (c:=wCx w cn L fa ccd g s E (tl1++(tl2++tl0)) A₀ base outer) ⟨⟨K.X,K.T,by kernel_rfl,by kernel_rfl,K.B⟩,rfl,K.hdp,K.hun,nofun,λ_=>K.hh⟩ den (yhy F N0 off K.n1 K.n2 K.n3 K.n4 K.n5 K.n6) (by kernel_rfl) hv hb λx hx=>?_
 have e:=ends x hx
 rcases e with ⟨e,x,eg,eh,en,el,ef,eo⟩|⟨x,ef,en,eo,e⟩
 ·exact ynN R hd off M a0 hlt hrow ok hn hg x eg eh en el ef eo e λs' h=>⟨n,Nat.lt_succ_self _,h⟩
 ·exact yhB R hd K.kp x ef en eo (hg.trans e) K.ret
theorem yhC (K:yll w g hs base outer A₀ s L RW SP TL rvs kvs sp rows tl2 tl0 Q) (W:WSt w g h L RW SP TL rvs tvs kvs sp rows tl1 (tl2++tl0) m at_ σ told n) {on:C} {pc:List C} {V:List Vt} {Q₂:Flow->Shared->Prop} (hQ:∀r s',Q (.ret r) s'->Q₂ (.ret r) s') (hon:on.ev (ydu rows told rvs tvs kvs at_ 0 σ 0 0 [] .none)=some σ.on)
  (pcs:∀C∈pc,C.ev (ydu rows told rvs tvs kvs at_ 0 σ 0 0 [] .none)=some true) (ht:xT (run YY 40) pw yfH (sW on [] [] [] pc)=one false (sW on [] [] [] pc))
  (hv:(xSs (run YY 40) pw yet (sW on [] [] [] pc)).map yaD=V) (hb:yaI (xSs (run YY 40) pw yet (sW on [] [] [] pc))=true)
  (ends:∀x∈V,GoW (ydu rows told rvs tvs kvs at_ 0 σ 0 0 [] .none) sp rows n rows.length at_ 0 .rem σ told [] [] x) (nx:∀x∈V,∃v os pc,x = .ret v os pc)
  (hN:∀s₂,wpAny (MM w) (A₀.deeper (envX cn ya6.sc L fa ccd (cellsFrom (L+1) ya6.sc.names []))) (execs yet (envX cn ya6.sc L fa ccd (cellsFrom (L+1) ya6.sc.names []))) Q₂ E s₂->N s₂) :
  ybb w cn L fa ccd A₀ E (yaW (yaZ w g L s RW SP TL rvs kvs sp rows (tl2++tl0)) n Q) N {s with heap:=h,toks:=tk}:=by
 refine yab λGG hGG=>?_
 obtain @⟨oc,po,v₀,tn,lw,_,_,_,_,_,F,N0,hoc,hpo,hd,off,M,a0,a1,hn,hg,m1,m2,m3,m4,m5,m6,m7,m8,m9⟩:=W
 have htl:(tvs.length:Int)=(told.length:Int):=by rw [hd.length,List.length_map]
 have h10:=K.r10
 have den:=ye2 (nr:=(rows.length:Int)) (tn:=tn) (lw:=lw) (cn:=cn) (L:=L) (fa:=fa) (ccd:=ccd) (g:=g) (s:=s) (E:=E) (tl:=tl1++(tl2++tl0)) (A₀:=A₀) (base:=base) (outer:=outer) (line:=0) (z6:=0) (z7:=0) (q:=[]) (uv:=.none) (on:=on) (kn:=[]) (kp:=[]) (qs:=[]) (pc:=pc)
  hoc hpo K.lo (congrArg Int.ofNat K.R.1) (by have:=K.R.1;omega) htl (by omega) m1 m2 m3 m4 m5 m6 m7 m8 m9 hon (λas=>fN) (λas=>fN) pcs (λi x h=>nomatch h)
 have R:yoq (ydu rows told rvs tvs kvs at_ 0 σ 0 0 [] .none) [(L+1,oc),(TL,listOf tvs.toArray tn),(RW,listOf rvs.toArray lw),(SP,po)] L RW SP TL rvs tvs kvs at_:=⟨rfl,rfl,rfl,rfl,rfl⟩
 refine hGG ?_;clear hGG GG
 refine wpAny_mono (yjA (yaR w) 40 (c:=wCx w cn L fa ccd g s E (tl1++(tl2++tl0)) A₀ base outer) (p:=pw) (P:=Q₂) (N:=λ_=>True) (B:=λs₂=>wpAny (MM w) (A₀.deeper (envX cn ya6.sc L fa ccd (cellsFrom (L+1) ya6.sc.names []))) (execs ydY (envX cn ya6.sc L fa ccd (cellsFrom (L+1) ya6.sc.names []))) (yaW (yaZ w g L s RW SP TL rvs kvs sp rows (tl2++tl0)) n Q) E s₂) ⟨⟨K.X,K.T,by kernel_rfl,by kernel_rfl,K.B⟩,rfl,K.hdp,K.hun,nofun,λ_=>K.hh⟩ den (yhy F N0 off K.n1 K.n2 K.n3 K.n4 K.n5 K.n6) ht hv hb λx hx=>?_) (λb s₂ q=>?_) λ_ _ e=>e
 ·have e:=ends x hx
  refine yab λGG hGG=>?_
  obtain ⟨v,os,pc,e'⟩:=nx x hx
  rcases e with ⟨e,x,eg,eh,en,el,ef,eo⟩|⟨x,ef,en,eo,e⟩
  ·refine hGG ?_;clear hGG GG
   first|exact yaa e'|cases e'
  ·refine hGG ?_;clear hGG GG
   exact yhB R hd K.kp x ef en eo (hg.trans e) λr tl' h' tk' a b=>hQ _ _ (K.ret r tl' h' tk' a b)
 ·rcases b with _|_
  ·exact hN _ q
  ·exact q
end
section
variable {w:World} {base g h hs:Heap} {outer:List Env} {A₀:Around} {s:Shared} {E:Value->Shared->Prop} {L fa:Addr} {cn:Str} {ccd:Value} {tk:Nat}
variable {tl1 tl2 tl0:Led} {RW SP TL:Addr} {rvs tvs:List Value} {kvs:List (Int × Value)} {σ:yaL} {sp:yao} {rows:List (Int × St)} {at_ line:Int} {st:St} {told:List yb9} {n:Nat} {m:Map} {Q:Flow->Shared->Prop} {N B:Shared->Prop}
noncomputable def VF (on:C) (wd wh:SV) (fz:Z) (pc:List C):List Vt:=[.ret (.r (1+4)) (osW (some (.z (.v 5))) [] [(.v 0,.q 0)] [] ++ [.tup [wd,wh,.z (.n 0),.z (.add (.v 0) (.n 1))],.tup [.r 1,.z fz,.b on,.z (.v 8)]]) pc]
noncomputable def kpF:List (Z × Option SV):=[(.v 2,some (.z (.v 7)))]
noncomputable def VG (wd wh:SV) (fz:Z) (pc:List C):List Vt:=[.nx (mW (.v 7) (.v 2) (.b true) fz (.v 5) (.v 0) (mo (.q 1) wd wh (.z fz) (.z (.v 7)))) (osW (some (.z (.v 5))) [.r (2+4)] [(.v 0,.q 0)] kpF ++ [.tup [wd,wh,.z (.n 0),.z (.add (.v 0) (.n 1))],.tup [.b (.b true),.z fz,.z (.v 5),.z (.v 0),.z (.v 7)],.tup [.z (.v 0),.z (.v 7),.z fz,.z (.v 5),.z (.v 0),.b (.b true),.z (.v 2)]]) pc]
noncomputable abbrev xW (on:C) (kp:List (Z × Option SV)) (qs:List SO) (pc:List C):List (R FL):=xSs (run YY 40) pw ydY (sW on [(.v 0,.q 0)] kp qs (pcW pc))
structure ypy (on:C) (kp:List (Z × Option SV)) (qs:List SO) (pc:List C) (V:List Vt):Prop where
 v:(xW on kp qs pc).map yaD=V
 b:yaI (xW on kp qs pc)=true
structure yhD (on:C) (qs:List SO) (pc:List C) (wd wh:SV) (fz:Z):Prop where
 h:ypy on [] qs (.eq (.v 2) (.n 0)::pc) (VF on wd wh fz (pcW (.eq (.v 2) (.n 0)::pc)))
 g:ypy (.b false) kpF qs (.not (.eq (.v 2) (.n 0))::pc) (VG wd wh fz (pcW (.not (.eq (.v 2) (.n 0))::pc)))
noncomputable abbrev ynP (qs:List SO) (pc:List C) (wd wh:SV) (fz:Z):Prop:=ypy (.b true) [] qs (.not (.eq (.v 2) (.n 0))::pc) (VF (.b true) wd wh fz (pcW (.not (.eq (.v 2) (.n 0))::pc)))
theorem ybD (K:yll w g hs base outer A₀ s L RW SP TL rvs kvs sp rows tl2 tl0 Q) (W:WSt w g h L RW SP TL rvs tvs kvs sp rows tl1 (tl2++tl0) m at_ σ told (n+1)) (hlt:at_<(rows.length:Int)) (hrow:rows[at_.toNat]? = some (line,st))
  {on:C} {qs:List SO} {pc:List C} {z6 f:Int} {q:List Addr} {a:Addr} {uv:Value} {wd wh:SV} {fz:Z} (hon:on.ev (ydu rows told rvs tvs kvs at_ line σ z6 0 (a::q) uv)=some σ.on) (hrv:rvs[at_.toNat]? = some (Value.ref a))
  (pcs:∀z7,∀C∈pc,C.ev (ydu rows told rvs tvs kvs at_ line σ z6 z7 (a::q) uv)=some true) (tls:∀z7,A2 (yjF w (tl2++tl0) (ydu rows told rvs tvs kvs at_ line σ z6 z7 (a::q) uv)) qs (a::q))
  (e1:yaA sp rows.length at_ st σ = .bad f σ) (ef:∀z7,fz.ev (ydu rows told rvs tvs kvs at_ line σ z6 z7 (a::q) uv).z=some f) (F:yhD on qs pc wd wh fz) (O:σ.on=true->ynP qs pc wd wh fz) :
  ybb w cn L fa ccd A₀ E (yaW (yaZ w g L s RW SP TL rvs kvs sp rows (tl2++tl0)) (n+1) Q) N {s with heap:=h,toks:=tk}:=by
 by_cases z:σ.hnd=0
 ·exact wt K W hlt hrow hon hrv (λ_=>fN) (fC (ysu rfl rfl z) (pcs 0)) (tls 0) F.h.v F.h.b (fC (.ret rfl (ef 0) rfl hon (ybA hlt hrow (ybp e1 (.inl z)))) fN)
 by_cases y:σ.on=true
 ·exact wt K W hlt hrow (on:=.b true) (congrArg some y.symm) hrv (λ_=>fN) (fC (ynO rfl rfl z) (pcs 0)) (tls 0) (O y).v (O y).b (fC (.ret rfl (ef 0) rfl (congrArg some y.symm) (ybA hlt hrow (ybp e1 (.inr y)))) fN)
 ·have y:=Bool.eq_false_iff.mpr y
  have M:MOk sp rows.length σ:=by cases W;assumption
  refine yab λGG hGG=>?_
  obtain ⟨i,hi,_⟩:=M.hnd.resolve_left z
  obtain ⟨t,hv⟩:=K.spk.some hi
  refine hGG ?_;clear hGG GG
  exact wt K W hlt hrow (on:=.b false) (z7:=i) (congrArg some y.symm) hrv (λ_=>fC ⟨rfl,hv▸.some ⟨i,t,rfl,rfl⟩⟩ fN) (fC (ynO rfl rfl z) (pcs i)) (tls i) F.g.v F.g.b
   (fC (.nx (yhw e1 z y hi) rfl rfl rfl (ef i) rfl rfl rfl) fN)
section
variable {a b c:Addr} {n1 n2 n3:Nat} {tk1 t1 t2 t3:Tok} {z6 z7:Int} {uv v:Value} {wd:Str} {wh:SV} {q:List Addr} {es:List SV} {vs:List Value}
theorem w2 (hm1:(a,yal [.int line tk1,.ref b] n1)∈tl2++tl0) (hm2:(b,yal [.str wd t1,v] n2)∈tl2++tl0) (h:DV (ydu rows told rvs tvs kvs at_ line σ z6 z7 [a,b] uv) [] wh v) :
  A2 (yjF w (tl2++tl0) (ydu rows told rvs tvs kvs at_ line σ z6 z7 [a,b] uv)) [.tup [.z (.v 5),.q 1],.tup [.s wd,wh]] [a,b]:=
 .cons ⟨hm1,rfl,.cons ⟨line,tk1,rfl,rfl⟩ (.cons ⟨b,rfl,rfl⟩ .nil)⟩ (.cons ⟨hm2,rfl,.cons ⟨t1,rfl⟩ (.cons h .nil)⟩ .nil)
theorem w1 (hm1:(a,yal [.int line tk1,.ref b] n1)∈tl2++tl0) (hm2:(b,yal [.str wd t1] n2)∈tl2++tl0) :
  A2 (yjF w (tl2++tl0) (ydu rows told rvs tvs kvs at_ line σ z6 z7 [a,b] uv)) [.tup [.z (.v 5),.q 1],.tup [.s wd]] [a,b]:=
 .cons ⟨hm1,rfl,.cons ⟨line,tk1,rfl,rfl⟩ (.cons ⟨b,rfl,rfl⟩ .nil)⟩ (.cons ⟨hm2,rfl,.cons ⟨t1,rfl⟩ .nil⟩ .nil)
theorem w3 {wd2:Str} (hm1:(a,yal [.int line tk1,.ref b] n1)∈tl2++tl0) (hm2:(b,yal [.str wd t1,.ref c] n2)∈tl2++tl0) (hm3:(c,yal [.str wd2 t2,v] n3)∈tl2++tl0) (h:DV (ydu rows told rvs tvs kvs at_ line σ z6 z7 [a,b,c] uv) [] wh v) :
  A2 (yjF w (tl2++tl0) (ydu rows told rvs tvs kvs at_ line σ z6 z7 [a,b,c] uv)) [.tup [.z (.v 5),.q 1],.tup [.s wd,.q 2],.tup [.s wd2,wh]] [a,b,c]:=
 .cons ⟨hm1,rfl,.cons ⟨line,tk1,rfl,rfl⟩ (.cons ⟨b,rfl,rfl⟩ .nil)⟩ (.cons ⟨hm2,rfl,.cons ⟨t1,rfl⟩ (.cons ⟨c,rfl,rfl⟩ .nil)⟩ (.cons ⟨hm3,rfl,.cons ⟨t2,rfl⟩ (.cons h .nil)⟩ .nil))
end
variable (K:yll w g hs base outer A₀ s L RW SP TL rvs kvs sp rows tl2 tl0 Q) (W:WSt w g h L RW SP TL rvs tvs kvs sp rows tl1 (tl2++tl0) m at_ σ told (n+1)) (hlt:at_<(rows.length:Int)) (hrow:rows[at_.toNat]? = some (line,st))
include K W hlt hrow
theorem ynQ (e:st = .rem):ybb w cn L fa ccd A₀ E (yaW (yaZ w g L s RW SP TL rvs kvs sp rows (tl2++tl0)) (n+1) Q) N {s with heap:=h,toks:=tk}:=by
 refine yab λGG hGG=>?_
 subst e
 obtain ⟨a,b,n1,tk1,hrv,hm1,hst⟩:=K.R.2 _ _ hrow
 obtain ⟨t1,t2,n2,hm2⟩:=ygj hst
 refine hGG ?_;clear hGG GG
 exact wt (on:=.v 0) (kp:=[]) (qs:=[.tup [.z (.v 5),.q 1],.tup [.s (Str.ofString "REM"),.s (Str.ofString "x")]]) (pc:=[]) (V:=[.nx (mW (.add (.v 0) (.n 1)) (.v 2) (.v 0) (.v 8) (.v 3) (.v 4) (mo (.q 1) (.s (Str.ofString "REM")) (.s (Str.ofString "x")) (.z (.n 0)) (.z (.add (.v 0) (.n 1))))) (osW (some (.z (.v 5))) [.r (1+4)] [(.v 0,.q 0)] [] ++ [.tup [.s (Str.ofString "REM"),.s (Str.ofString "x"),.z (.n 0),.z (.add (.v 0) (.n 1))],.tup [.z (.v 0),.z (.add (.v 0) (.n 1)),.z (.v 8),.z (.v 3),.z (.v 4),.b (.v 0),.z (.v 2)]]) [.lt (.v 0) (.v 1),.lt (.v 9) (.n 18)]]) (z6:=0) (z7:=0) (uv:=.none) K W hlt hrow rfl hrv (λ_=>fN) fN (w2 hm1 hm2 ⟨_,rfl⟩) (by kernel_rfl) (by kernel_rfl)
  (fC (.nx (ybq rfl) rfl rfl rfl rfl rfl rfl rfl) fN)
theorem ynR (e:st = .fin):ybb w cn L fa ccd A₀ E (yaW (yaZ w g L s RW SP TL rvs kvs sp rows (tl2++tl0)) (n+1) Q) N {s with heap:=h,toks:=tk}:=by
 refine yab λGG hGG=>?_
 subst e
 obtain ⟨a,b,n1,tk1,hrv,hm1,hst⟩:=K.R.2 _ _ hrow
 obtain ⟨t1,n2,hm2⟩:=ygk hst
 refine hGG ?_;clear hGG GG
 exact wt (on:=.v 0) (kp:=[]) (qs:=[.tup [.z (.v 5),.q 1],.tup [.s (Str.ofString "END")]]) (pc:=[]) (V:=[.nx (mW (.v 1) (.v 2) (.b false) (.v 8) (.v 3) (.v 4) (mo (.q 1) (.s (Str.ofString "END")) (.s (Str.ofString "END")) (.z (.n 0)) (.z (.v 1)))) (osW (some (.z (.v 5))) [.r (2+4)] [(.v 0,.q 0)] [] ++ [.tup [.s (Str.ofString "END"),.s (Str.ofString "END"),.z (.n 0),.z (.add (.v 0) (.n 1))],.tup [.b (.b false),.z (.v 1)],.tup [.z (.v 0),.z (.v 1),.z (.v 8),.z (.v 3),.z (.v 4),.b (.b false),.z (.v 2)]]) [.lt (.v 0) (.v 1),.lt (.v 9) (.n 18)]]) (z6:=0) (z7:=0) (uv:=.none) K W hlt hrow rfl hrv (λ_=>fN) fN (w1 hm1 hm2) (by kernel_rfl) (by kernel_rfl)
  (fC (.nx (ybq rfl) rfl rfl rfl rfl rfl rfl rfl) fN)
theorem ylm (e:st = .onerr 0) (hon:σ.on=false):ybb w cn L fa ccd A₀ E (yaW (yaZ w g L s RW SP TL rvs kvs sp rows (tl2++tl0)) (n+1) Q) N {s with heap:=h,toks:=tk}:=by
 refine yab λGG hGG=>?_
 subst e
 obtain ⟨a,b,n1,tk1,hrv,hm1,hst⟩:=K.R.2 _ _ hrow
 obtain ⟨t1,t2,n2,hm2⟩:=ya2 hst
 refine hGG ?_;clear hGG GG
 exact wt (on:=.b false) (kp:=[]) (qs:=[.tup [.z (.v 5),.q 1],.tup [.s (Str.ofString "ONERR"),.z (.n 0)]]) (pc:=[]) (V:=[.nx (mW (.add (.v 0) (.n 1)) (.n 0) (.b false) (.v 8) (.v 3) (.v 4) (mo (.q 1) (.s (Str.ofString "ONERR")) (.z (.n 0)) (.z (.n 0)) (.z (.add (.v 0) (.n 1))))) (osW (some (.z (.v 5))) [.r (2+4)] [(.v 0,.q 0)] [] ++ [.tup [.s (Str.ofString "ONERR"),.z (.n 0),.z (.n 0),.z (.add (.v 0) (.n 1))],.tup [.z (.n 0),.z (.n 0)],.tup [.z (.v 0),.z (.add (.v 0) (.n 1)),.z (.v 8),.z (.v 3),.z (.v 4),.b (.b false),.z (.n 0)]]) [.lt (.v 0) (.v 1),.lt (.v 9) (.n 18)]]) (z6:=0) (z7:=0) (uv:=.none) K W hlt hrow (congrArg some hon.symm) hrv (λ_=>fN) fN (w2 hm1 hm2 ⟨_,_,rfl,rfl⟩) (by kernel_rfl) (by kernel_rfl)
  (fC (.nx (ybq (if_neg λz=>by rw [hon] at z;cases z.2)) rfl rfl rfl rfl rfl rfl (congrArg some hon.symm)) fN)
theorem yln (e:st = .onerr 0) (hon:σ.on=true) (hp:0<σ.num):ybb w cn L fa ccd A₀ E (yaW (yaZ w g L s RW SP TL rvs kvs sp rows (tl2++tl0)) (n+1) Q) N {s with heap:=h,toks:=tk}:=by
 refine yab λGG hGG=>?_
 subst e
 obtain ⟨a,b,n1,tk1,hrv,hm1,hst⟩:=K.R.2 _ _ hrow
 obtain ⟨t1,t2,n2,hm2⟩:=ya2 hst
 refine hGG ?_;clear hGG GG
 exact wt (on:=.b true) (kp:=[]) (qs:=[.tup [.z (.v 5),.q 1],.tup [.s (Str.ofString "ONERR"),.z (.n 0)]]) (pc:=[.lt (.n 0) (.v 8)]) (V:=[.ret (.r (2+4)) (osW (some (.z (.v 5))) [] [(.v 0,.q 0)] [] ++ [.tup [.s (Str.ofString "ONERR"),.z (.n 0),.z (.n 0),.z (.add (.v 0) (.n 1))],.tup [.z (.n 0),.z (.v 8)],.tup [.r 1,.z (.v 8),.b (.b true),.z (.v 8)]]) [.lt (.v 0) (.v 1),.lt (.v 9) (.n 18),.lt (.n 0) (.v 8)]]) (z6:=0) (z7:=0) (uv:=.none) K W hlt hrow (congrArg some hon.symm) hrv (λ_=>fN) (fC (yi0 rfl rfl hp) fN) (w2 hm1 hm2 ⟨_,_,rfl,rfl⟩) (by kernel_rfl) (by kernel_rfl)
  (fC (.ret (on:=.b true) (b:=σ.on) rfl rfl rfl (congrArg some hon.symm) (ybA (σ':={σ with hnd:=0}) hlt hrow (ybp (show yaA sp rows.length at_ (.onerr 0) σ = .bad σ.num {σ with hnd:=0} from if_pos ⟨rfl,hon⟩) (.inl rfl)))) fN)
theorem ynS {k:Int} (e:st = .onerr k) (h5:k≠5) (h0:k≠0):ybb w cn L fa ccd A₀ E (yaW (yaZ w g L s RW SP TL rvs kvs sp rows (tl2++tl0)) (n+1) Q) N {s with heap:=h,toks:=tk}:=by
 refine yab λGG hGG=>?_
 subst e
 obtain ⟨a,b,n1,tk1,hrv,hm1,hst⟩:=K.R.2 _ _ hrow
 obtain ⟨t1,t2,n2,hm2⟩:=ya2 hst
 refine hGG ?_;clear hGG GG
 exact wt (on:=.v 0) (kp:=[]) (qs:=[.tup [.z (.v 5),.q 1],.tup [.s (Str.ofString "ONERR"),.z (.v 6)]]) (pc:=[.not (.eq (.v 6) (.n 5)),.not (.eq (.v 6) (.n 0))]) (V:=[.nx (mW (.add (.v 0) (.n 1)) (.v 6) (.v 0) (.v 8) (.v 3) (.v 4) (mo (.q 1) (.s (Str.ofString "ONERR")) (.z (.v 6)) (.z (.n 0)) (.z (.add (.v 0) (.n 1))))) (osW (some (.z (.v 5))) [.r (2+4)] [(.v 0,.q 0)] [] ++ [.tup [.s (Str.ofString "ONERR"),.z (.v 6),.z (.n 0),.z (.add (.v 0) (.n 1))],.tup [.z (.v 6),.z (.n 0)],.tup [.z (.v 0),.z (.add (.v 0) (.n 1)),.z (.v 8),.z (.v 3),.z (.v 4),.b (.v 0),.z (.v 6)]]) [.v 0,.lt (.v 0) (.v 1),.lt (.v 9) (.n 18),.not (.eq (.v 6) (.n 5)),.not (.eq (.v 6) (.n 0))],.nx (mW (.add (.v 0) (.n 1)) (.v 6) (.v 0) (.v 8) (.v 3) (.v 4) (mo (.q 1) (.s (Str.ofString "ONERR")) (.z (.v 6)) (.z (.n 0)) (.z (.add (.v 0) (.n 1))))) (osW (some (.z (.v 5))) [.r (2+4)] [(.v 0,.q 0)] [] ++ [.tup [.s (Str.ofString "ONERR"),.z (.v 6),.z (.n 0),.z (.add (.v 0) (.n 1))],.tup [.z (.v 6),.z (.n 0)],.tup [.z (.v 0),.z (.add (.v 0) (.n 1)),.z (.v 8),.z (.v 3),.z (.v 4),.b (.v 0),.z (.v 6)]]) [.not (.v 0),.lt (.v 0) (.v 1),.lt (.v 9) (.n 18),.not (.eq (.v 6) (.n 5)),.not (.eq (.v 6) (.n 0))]]) (z6:=k) (z7:=0) (uv:=.none) K W hlt hrow rfl hrv (λ_=>fN) (fC (ynO rfl rfl h5) (fC (ynO rfl rfl h0) fN)) (w2 hm1 hm2 ⟨_,_,rfl,rfl⟩) (by kernel_rfl) (by kernel_rfl)
  (fC (.nx (ybq ((if_neg h5).trans (if_neg λz=>h0 z.1))) rfl rfl rfl rfl rfl rfl rfl) (fC (.nx (ybq ((if_neg h5).trans (if_neg λz=>h0 z.1))) rfl rfl rfl rfl rfl rfl rfl) fN))
theorem yi1 (e:st = .resume .none) (hon:σ.on=true):ybb w cn L fa ccd A₀ E (yaW (yaZ w g L s RW SP TL rvs kvs sp rows (tl2++tl0)) (n+1) Q) N {s with heap:=h,toks:=tk}:=by
 refine yab λGG hGG=>?_
 subst e
 obtain ⟨a,b,n1,tk1,hrv,hm1,hst⟩:=K.R.2 _ _ hrow
 obtain ⟨t1,v,n2,hm2,hv⟩:=yaF hst
 cases ygi hv
 refine hGG ?_;clear hGG GG
 exact wt (on:=.b true) (kp:=[]) (qs:=[.tup [.z (.v 5),.q 1],.tup [.s (Str.ofString "RESUME"),.no]]) (pc:=[]) (V:=[.nx (mW (.v 4) (.v 2) (.b false) (.v 8) (.v 3) (.v 4) (mo (.q 1) (.s (Str.ofString "RESUME")) (.no) (.z (.n 0)) (.z (.v 4)))) (osW (some (.z (.v 5))) [.r (2+4)] [(.v 0,.q 0)] [] ++ [.tup [.s (Str.ofString "RESUME"),.no,.z (.n 0),.z (.add (.v 0) (.n 1))],.tup [.b (.b false),.z (.v 4)],.tup [.z (.v 0),.z (.v 4),.z (.v 8),.z (.v 3),.z (.v 4),.b (.b false),.z (.v 2)]]) [.lt (.v 0) (.v 1),.lt (.v 9) (.n 18)]]) (z6:=0) (z7:=0) (uv:=.none) K W hlt hrow (congrArg some hon.symm) hrv (λ_=>fN) fN (w2 hm1 hm2 rfl) (by kernel_rfl) (by kernel_rfl)
  (fC (.nx (ybq (if_neg (by simp [hon]))) rfl rfl rfl rfl rfl rfl rfl) fN)
theorem yi2 (e:st = .resume .next) (hon:σ.on=true):ybb w cn L fa ccd A₀ E (yaW (yaZ w g L s RW SP TL rvs kvs sp rows (tl2++tl0)) (n+1) Q) N {s with heap:=h,toks:=tk}:=by
 refine yab λGG hGG=>?_
 subst e
 obtain ⟨a,b,n1,tk1,hrv,hm1,hst⟩:=K.R.2 _ _ hrow
 obtain ⟨t1,v,n2,hm2,hv⟩:=yaF hst
 obtain ⟨tv,rfl⟩:=ybG hv
 refine hGG ?_;clear hGG GG
 exact wt (on:=.b true) (kp:=[]) (qs:=[.tup [.z (.v 5),.q 1],.tup [.s (Str.ofString "RESUME"),.s (Str.ofString "NEXT")]]) (pc:=[]) (V:=[.nx (mW (.add (.v 4) (.n 1)) (.v 2) (.b false) (.v 8) (.v 3) (.v 4) (mo (.q 1) (.s (Str.ofString "RESUME")) (.s (Str.ofString "NEXT")) (.z (.n 0)) (.z (.add (.v 4) (.n 1))))) (osW (some (.z (.v 5))) [.r (2+4)] [(.v 0,.q 0)] [] ++ [.tup [.s (Str.ofString "RESUME"),.s (Str.ofString "NEXT"),.z (.n 0),.z (.add (.v 0) (.n 1))],.tup [.b (.b false),.z (.add (.v 4) (.n 1))],.tup [.z (.v 0),.z (.add (.v 4) (.n 1)),.z (.v 8),.z (.v 3),.z (.v 4),.b (.b false),.z (.v 2)]]) [.lt (.v 0) (.v 1),.lt (.v 9) (.n 18)]]) (z6:=0) (z7:=0) (uv:=.none) K W hlt hrow (congrArg some hon.symm) hrv (λ_=>fN) fN (w2 hm1 hm2 ⟨_,rfl⟩) (by kernel_rfl) (by kernel_rfl)
  (fC (.nx (ybq (if_neg (by simp [hon]))) rfl rfl rfl rfl rfl rfl rfl) fN)
theorem ypz (e:st = .resume (.line 5)) (hon:σ.on=true):ybb w cn L fa ccd A₀ E (yaW (yaZ w g L s RW SP TL rvs kvs sp rows (tl2++tl0)) (n+1) Q) N {s with heap:=h,toks:=tk}:=by
 refine yab λGG hGG=>?_
 subst e
 obtain ⟨a,b,n1,tk1,hrv,hm1,hst⟩:=K.R.2 _ _ hrow
 obtain ⟨t1,v,n2,hm2,hv⟩:=yaF hst
 obtain ⟨tv,rfl⟩:=ycp hv
 refine hGG ?_;clear hGG GG
 exact wt (on:=.b true) (kp:=[]) (qs:=[.tup [.z (.v 5),.q 1],.tup [.s (Str.ofString "RESUME"),.z (.n 5)]]) (pc:=[]) (V:=[.ret (.r (1+4)) (osW (some (.z (.v 5))) [] [(.v 0,.q 0)] [] ++ [.tup [.s (Str.ofString "RESUME"),.z (.n 5),.z (.n 0),.z (.add (.v 0) (.n 1))],.tup [.r 1,.z (.n 8),.b (.b true),.z (.v 8)]]) [.eq (.v 2) (.n 0),.lt (.v 0) (.v 1),.lt (.v 9) (.n 18)],.ret (.r (1+4)) (osW (some (.z (.v 5))) [] [(.v 0,.q 0)] [] ++ [.tup [.s (Str.ofString "RESUME"),.z (.n 5),.z (.n 0),.z (.add (.v 0) (.n 1))],.tup [.r 1,.z (.n 8),.b (.b true),.z (.v 8)]]) [.not (.eq (.v 2) (.n 0)),.lt (.v 0) (.v 1),.lt (.v 9) (.n 18)]]) (z6:=0) (z7:=0) (uv:=.none) K W hlt hrow (congrArg some hon.symm) hrv (λ_=>fN) fN (w2 hm1 hm2 ⟨_,_,rfl,rfl⟩) (by kernel_rfl) (by kernel_rfl)
  (fC (.ret (on:=.b true) (b:=σ.on) rfl rfl rfl (congrArg some hon.symm) (ybA hlt hrow (ybp ((if_neg (by simp [hon])).trans (if_pos rfl)) (.inr hon)))) (fC (.ret (on:=.b true) (b:=σ.on) rfl rfl rfl (congrArg some hon.symm) (ybA hlt hrow (ybp ((if_neg (by simp [hon])).trans (if_pos rfl)) (.inr hon)))) fN))
theorem yi3 {k i:Int} (e:st = .resume (.line k)) (hon:σ.on=true) (h5:k≠5) (hi:lk sp k=some i):ybb w cn L fa ccd A₀ E (yaW (yaZ w g L s RW SP TL rvs kvs sp rows (tl2++tl0)) (n+1) Q) N {s with heap:=h,toks:=tk}:=by
 refine yab λGG hGG=>?_
 subst e
 obtain ⟨a,b,n1,tk1,hrv,hm1,hst⟩:=K.R.2 _ _ hrow
 obtain ⟨t1,v,n2,hm2,hv⟩:=yaF hst
 obtain ⟨tv,rfl⟩:=ycp hv
 obtain ⟨t,hk⟩:=K.spk.some hi
 refine hGG ?_;clear hGG GG
 exact wt (on:=.b true) (kp:=[(.v 6,some (.z (.v 7)))]) (qs:=[.tup [.z (.v 5),.q 1],.tup [.s (Str.ofString "RESUME"),.z (.v 6)]]) (pc:=[.not (.eq (.v 6) (.n 5))]) (V:=[.nx (mW (.v 7) (.v 2) (.b false) (.v 8) (.v 3) (.v 4) (mo (.q 1) (.s (Str.ofString "RESUME")) (.z (.v 6)) (.z (.n 0)) (.z (.v 7)))) (osW (some (.z (.v 5))) [.r (2+4)] [(.v 0,.q 0)] [((.v 6),(some (.z (.v 7))))] ++ [.tup [.s (Str.ofString "RESUME"),.z (.v 6),.z (.n 0),.z (.add (.v 0) (.n 1))],.tup [.b (.b false),.z (.v 7)],.tup [.z (.v 0),.z (.v 7),.z (.v 8),.z (.v 3),.z (.v 4),.b (.b false),.z (.v 2)]]) [.lt (.v 0) (.v 1),.lt (.v 9) (.n 18),.not (.eq (.v 6) (.n 5))]]) (z6:=k) (z7:=i) (uv:=.none) K W hlt hrow (congrArg some hon.symm) hrv (λ_=>fC ⟨rfl,hk▸.some ⟨i,t,rfl,rfl⟩⟩ fN) (fC (ynO rfl rfl h5) fN) (w2 hm1 hm2 ⟨_,_,rfl,rfl⟩) (by kernel_rfl) (by kernel_rfl)
  (fC (.nx (σ':={σ with on:=false}) (ybq ((if_neg (by simp [hon])).trans ((if_neg h5).trans (by rw [hi];rfl)))) rfl rfl rfl rfl rfl rfl rfl) fN)
theorem ynT {k:Int} (e:st = .error k) (k0:0<k) (k1:k<256):ybb w cn L fa ccd A₀ E (yaW (yaZ w g L s RW SP TL rvs kvs sp rows (tl2++tl0)) (n+1) Q) N {s with heap:=h,toks:=tk}:=by
 refine yab λGG hGG=>?_
 subst e
 obtain ⟨a,b,n1,tk1,hrv,hm1,hst⟩:=K.R.2 _ _ hrow
 obtain ⟨t1,c,n2,t2,t3,n3,hm2,hm3⟩:=ybO hst
 refine hGG ?_;clear hGG GG
 exact ybD (on:=.v 0) (qs:=[.tup [.z (.v 5),.q 1],.tup [.s (Str.ofString "ERROR"),.q 2],.tup [.s (Str.ofString "whole"),.z (.v 6)]]) (pc:=[.lt (.n 0) (.v 6),.lt (.v 6) (.n 256)]) (z6:=k) (uv:=.none) (wd:=.s (Str.ofString "ERROR")) (wh:=.q 2) (fz:=.v 6) K W hlt hrow rfl hrv (λ_=>fC (yi0 rfl rfl k0) (fC (yi0 rfl rfl k1) fN)) (λz7=>w3 hm1 hm2 hm3 ⟨_,_,rfl,rfl⟩) (congrArg (λz=>Out.bad z σ) (if_pos ⟨k0,k1⟩)) (λ_=>rfl) ⟨⟨by kernel_rfl,by kernel_rfl⟩,⟨by kernel_rfl,by kernel_rfl⟩⟩ λ_=>⟨by kernel_rfl,by kernel_rfl⟩
theorem ylo (e:st = .error 0):ybb w cn L fa ccd A₀ E (yaW (yaZ w g L s RW SP TL rvs kvs sp rows (tl2++tl0)) (n+1) Q) N {s with heap:=h,toks:=tk}:=by
 refine yab λGG hGG=>?_
 subst e
 obtain ⟨a,b,n1,tk1,hrv,hm1,hst⟩:=K.R.2 _ _ hrow
 obtain ⟨t1,c,n2,t2,t3,n3,hm2,hm3⟩:=ybO hst
 refine hGG ?_;clear hGG GG
 exact ybD (on:=.v 0) (qs:=[.tup [.z (.v 5),.q 1],.tup [.s (Str.ofString "ERROR"),.q 2],.tup [.s (Str.ofString "whole"),.z (.n 0)]]) (pc:=[]) (z6:=0) (uv:=.none) (wd:=.s (Str.ofString "ERROR")) (wh:=.q 2) (fz:=.n 5) K W hlt hrow rfl hrv (λ_=>fN) (λz7=>w3 hm1 hm2 hm3 ⟨_,_,rfl,rfl⟩) (congrArg (λz=>Out.bad z σ) (if_neg (by decide))) (λ_=>rfl) ⟨⟨by kernel_rfl,by kernel_rfl⟩,⟨by kernel_rfl,by kernel_rfl⟩⟩ λ_=>⟨by kernel_rfl,by kernel_rfl⟩
theorem yhE (e:st = .error 256):ybb w cn L fa ccd A₀ E (yaW (yaZ w g L s RW SP TL rvs kvs sp rows (tl2++tl0)) (n+1) Q) N {s with heap:=h,toks:=tk}:=by
 refine yab λGG hGG=>?_
 subst e
 obtain ⟨a,b,n1,tk1,hrv,hm1,hst⟩:=K.R.2 _ _ hrow
 obtain ⟨t1,c,n2,t2,t3,n3,hm2,hm3⟩:=ybO hst
 refine hGG ?_;clear hGG GG
 exact ybD (on:=.v 0) (qs:=[.tup [.z (.v 5),.q 1],.tup [.s (Str.ofString "ERROR"),.q 2],.tup [.s (Str.ofString "whole"),.z (.n 256)]]) (pc:=[]) (z6:=0) (uv:=.none) (wd:=.s (Str.ofString "ERROR")) (wh:=.q 2) (fz:=.n 5) K W hlt hrow rfl hrv (λ_=>fN) (λz7=>w3 hm1 hm2 hm3 ⟨_,_,rfl,rfl⟩) (congrArg (λz=>Out.bad z σ) (if_neg (by decide))) (λ_=>rfl) ⟨⟨by kernel_rfl,by kernel_rfl⟩,⟨by kernel_rfl,by kernel_rfl⟩⟩ λ_=>⟨by kernel_rfl,by kernel_rfl⟩
theorem yi4 {o:How} (e:st = .inner o):ybb w cn L fa ccd A₀ E (yaW (yaZ w g L s RW SP TL rvs kvs sp rows (tl2++tl0)) (n+1) Q) N {s with heap:=h,toks:=tk}:=by
 refine yab λGG hGG=>?_
 subst e
 obtain ⟨a,b,n1,tk1,hrv,hm1,hst⟩:=K.R.2 _ _ hrow
 obtain ⟨t1,v,n2,hm2,hv⟩:=yc9 hst
 refine hGG ?_;clear hGG GG
 exact ybD (on:=.v 0) (qs:=[.tup [.z (.v 5),.q 1],.tup [.s (Str.ofString "INNER"),.u 0]]) (pc:=[]) (z6:=0) (uv:=v) (wd:=.s (Str.ofString "INNER")) (wh:=.u 0) (fz:=.n 20) K W hlt hrow rfl hrv (λ_=>fN) (λz7=>w2 hm1 hm2 rfl) rfl (λ_=>rfl) ⟨⟨by kernel_rfl,by kernel_rfl⟩,⟨by kernel_rfl,by kernel_rfl⟩⟩ λ_=>⟨by kernel_rfl,by kernel_rfl⟩
theorem ynU (e:st = .onerr 5):ybb w cn L fa ccd A₀ E (yaW (yaZ w g L s RW SP TL rvs kvs sp rows (tl2++tl0)) (n+1) Q) N {s with heap:=h,toks:=tk}:=by
 refine yab λGG hGG=>?_
 subst e
 obtain ⟨a,b,n1,tk1,hrv,hm1,hst⟩:=K.R.2 _ _ hrow
 obtain ⟨t1,t2,n2,hm2⟩:=ya2 hst
 refine hGG ?_;clear hGG GG
 exact ybD (on:=.v 0) (qs:=[.tup [.z (.v 5),.q 1],.tup [.s (Str.ofString "ONERR"),.z (.n 5)]]) (pc:=[]) (z6:=0) (uv:=.none) (wd:=.s (Str.ofString "ONERR")) (wh:=.z (.n 5)) (fz:=.n 8) K W hlt hrow rfl hrv (λ_=>fN) (λz7=>w2 hm1 hm2 ⟨_,_,rfl,rfl⟩) rfl (λ_=>rfl) ⟨⟨by kernel_rfl,by kernel_rfl⟩,⟨by kernel_rfl,by kernel_rfl⟩⟩ λ_=>⟨by kernel_rfl,by kernel_rfl⟩
theorem ylp {o:How} (e:st = .resume o) (hon:σ.on=false):ybb w cn L fa ccd A₀ E (yaW (yaZ w g L s RW SP TL rvs kvs sp rows (tl2++tl0)) (n+1) Q) N {s with heap:=h,toks:=tk}:=by
 refine yab λGG hGG=>?_
 subst e
 obtain ⟨a,b,n1,tk1,hrv,hm1,hst⟩:=K.R.2 _ _ hrow
 obtain ⟨t1,v,n2,hm2,hv⟩:=yaF hst
 refine hGG ?_;clear hGG GG
 exact ybD (on:=.b false) (qs:=[.tup [.z (.v 5),.q 1],.tup [.s (Str.ofString "RESUME"),.u 0]]) (pc:=[]) (z6:=0) (uv:=v) (wd:=.s (Str.ofString "RESUME")) (wh:=.u 0) (fz:=.n 20) K W hlt hrow (congrArg some hon.symm) hrv (λ_=>fN) (λz7=>w2 hm1 hm2 rfl) (if_pos hon) (λ_=>rfl) ⟨⟨by kernel_rfl,by kernel_rfl⟩,⟨by kernel_rfl,by kernel_rfl⟩⟩ (λz=>absurd (hon.symm.trans z) nofun)
end
section
variable {w:World} {base g h hs:Heap} {outer:List Env} {A₀:Around} {s:Shared} {E:Value->Shared->Prop} {L fa:Addr} {cn:Str} {ccd:Value} {tk:Nat}
variable {tl1 tl2 tl0:Led} {RW SP TL:Addr} {rvs tvs:List Value} {kvs:List (Int × Value)} {σ:yaL} {sp:yao} {rows:List (Int × St)} {at_ line:Int} {st:St} {told:List yb9} {n:Nat} {m:Map} {Q:Flow->Shared->Prop} {N:Shared->Prop}
theorem ynV (K:yll w g hs base outer A₀ s L RW SP TL rvs kvs sp rows tl2 tl0 Q) (W:WSt w g h L RW SP TL rvs tvs kvs sp rows tl1 (tl2++tl0) m at_ σ told (n+1)) (hlt:at_<(rows.length:Int)) (hrow:rows[at_.toNat]? = some (line,st)) :
  ybb w cn L fa ccd A₀ E (yaW (yaZ w g L s RW SP TL rvs kvs sp rows (tl2++tl0)) (n+1) Q) N {s with heap:=h,toks:=tk}:=by
 have ok:yeG sp rows.length st:=K.st (List.mem_of_getElem? hrow)
 have M:MOk sp rows.length σ:=by cases W;assumption
 rcases st with k|_|k|o|o|_
 ·have hk:k∈([5,1,16,21,30,200,255,0,256]:List Int):=ok
  by_cases z:0<k/\k<256
  ·exact ynT K W hlt hrow rfl z.1 z.2
  ·rcases (by decide:∀k∈([5,1,16,21,30,200,255,0,256]:List Int),¬(0<k/\k<256)->k=0∨k=256) k hk z with rfl|rfl
   ·exact ylo K W hlt hrow rfl
   ·exact yhE K W hlt hrow rfl
 ·exact ynQ K W hlt hrow rfl
 ·rcases ok with rfl|rfl|⟨i,hi,_⟩
  ·exact ynU K W hlt hrow rfl
  ·by_cases y:σ.on=true
   ·exact yln K W hlt hrow rfl y (ydG _ M.num (M.pos y))
   ·exact ylm K W hlt hrow rfl (Bool.eq_false_iff.mpr y)
  ·exact ynS K W hlt hrow rfl (λz=>by rw [z,K.l5] at hi;cases hi) λz=>by rw [z,K.l0] at hi;cases hi
 ·by_cases y:σ.on=true
  ·rcases o with _|_|k
   ·exact yi1 K W hlt hrow rfl y
   ·exact yi2 K W hlt hrow rfl y
   ·rcases ok with rfl|⟨i,hi,_⟩
    ·exact ypz K W hlt hrow rfl y
    ·exact yi3 K W hlt hrow rfl y (λz=>by rw [z,K.l5] at hi;cases hi) hi
  ·exact ylp K W hlt hrow rfl (Bool.eq_false_iff.mpr y)
 ·exact yi4 K W hlt hrow rfl
 ·exact ynR K W hlt hrow rfl
noncomputable def VE (on:C) (f:Int) (pc:List C):List Vt:=[.ret (.r (0+4)) (osW none [] [] [] ++ [.tup [.r 1,.z (.n f),.b on,.z (.v 8)]]) pc]
theorem yhF {on:C} {f:Int} {pc:List C}:∀x∈VE on f pc,∃v os pc,x = .ret v os pc:=fC ⟨_,_,_,rfl⟩ fN
theorem ylq {a b:Z} {ρ:Rho} {x y:Int} (ha:a.ev ρ.z=some x) (hb:b.ev ρ.z=some y) (h:y<=x):(C.not (.lt a b)).ev ρ=some true:=by
 show (two _ (a.ev ρ.z) (b.ev ρ.z)).map _=_
 rw [ha,hb];exact congrArg (λx=>some !x) (decide_eq_false (Int.not_lt.mpr h))
theorem ypA {a b:Z} {ρ:Rho} {x y:Int} (ha:a.ev ρ.z=some x) (hb:b.ev ρ.z=some y) (h:y<x):(C.not (.le a b)).ev ρ=some true:=by
 show (two _ (a.ev ρ.z) (b.ev ρ.z)).map _=_
 rw [ha,hb];exact congrArg (λx=>some !x) (decide_eq_false (Int.not_le.mpr h))
theorem c_le {a b:Z} {ρ:Rho} {x y:Int} (ha:a.ev ρ.z=some x) (hb:b.ev ρ.z=some y) (h:x<=y):(C.le a b).ev ρ=some true:=by
 show two _ (a.ev ρ.z) (b.ev ρ.z)=_
 rw [ha,hb];exact congrArg some (decide_eq_true h)
theorem yfI (K:yll w g hs base outer A₀ s L RW SP TL rvs kvs sp rows tl2 tl0 Q) {Q₂:Flow->Shared->Prop} (hQ:∀r s',Q (.ret r) s'->Q₂ (.ret r) s') (hN:∀s₂,wpAny (MM w) (A₀.deeper (envX cn ya6.sc L fa ccd (cellsFrom (L+1) ya6.sc.names []))) (execs yet (envX cn ya6.sc L fa ccd (cellsFrom (L+1) ya6.sc.names []))) Q₂ E s₂->N s₂)
  (n:Nat) (s':Shared) (I:yaZ w g L s RW SP TL rvs kvs sp rows (tl2++tl0) n s'):ybb w cn L fa ccd A₀ E (yaW (yaZ w g L s RW SP TL rvs kvs sp rows (tl2++tl0)) n Q) N s':=by
 refine yab λGG hGG=>?_
 rcases I with @⟨h,tk,m,at_,σ,told,tvs,tl1,W⟩
 have hn:told.length+n=18:=by cases W;assumption
 have a0:0<=at_:=by cases W;assumption
 refine hGG ?_;clear hGG GG
 by_cases hlt:at_<(rows.length:Int)
 ·rcases n with _|n
  ·exact yhC K W (on:=.v 0) (pc:=[.lt (.v 0) (.v 1),.not (.lt (.v 9) (.n 18)),.not (.le (.v 1) (.v 0))]) (V:=VE (.v 0) 0 [.lt (.v 0) (.v 1),.not (.lt (.v 9) (.n 18)),.not (.le (.v 1) (.v 0))]) hQ rfl
    (fC (yi0 rfl rfl hlt) (fC (ylq rfl rfl (by omega)) (fC (ypA rfl rfl hlt) fN))) (by kernel_rfl) (by kernel_rfl) (by kernel_rfl)
    (fC (.ret rfl rfl rfl rfl ((ych (.inl rfl)).trans (congrArg (λf=>yaG told f σ.on σ.num) (if_neg λz=>absurd z.1 (Int.not_le.mpr hlt))))) fN) yhF hN
  ·exact ynV K W hlt (List.getElem?_eq_getElem (by omega))
 ·have hge:=Int.not_lt.mp hlt
  have hge':(rows.length:Int)<=at_:=hge
  by_cases y:σ.on=true
  ·exact yhC K W (on:=.b true) (pc:=[.not (.lt (.v 0) (.v 1)),.le (.v 1) (.v 0)]) (V:=VE (.b true) 19 [.not (.lt (.v 0) (.v 1)),.le (.v 1) (.v 0)]) hQ (congrArg some y.symm)
    (fC (ylq rfl rfl hge) (fC (c_le rfl rfl hge) fN)) (by kernel_rfl) (by kernel_rfl) (by kernel_rfl)
    (fC (.ret (on:=.b true) (b:=σ.on) rfl rfl rfl (congrArg some y.symm) ((ych (.inr hge)).trans (congrArg (λf=>yaG told f σ.on σ.num) (if_pos ⟨hge,y⟩)))) fN) yhF hN
  ·exact yhC K W (on:=.b false) (pc:=[.not (.lt (.v 0) (.v 1)),.le (.v 1) (.v 0)]) (V:=VE (.b false) 0 [.not (.lt (.v 0) (.v 1)),.le (.v 1) (.v 0)]) hQ (congrArg some (Bool.eq_false_iff.mpr y).symm)
    (fC (ylq rfl rfl hge) (fC (c_le rfl rfl hge) fN)) (by kernel_rfl) (by kernel_rfl) (by kernel_rfl)
    (fC (.ret (on:=.b false) (b:=σ.on) rfl rfl rfl (congrArg some (Bool.eq_false_iff.mpr y).symm) ((ych (.inr hge)).trans (congrArg (λf=>yaG told f σ.on σ.num) (if_neg λz=>y z.2)))) fN) yhF hN
theorem yi5 {sc:Scope} {cl:List (Str × Addr)} {test:PySem.Expr} {body:List Stmt} {I:Nat->Shared->Prop} {n:Nat} {s':Shared} (h:ybb w cn L fa ccd A₀ E (yaW I n Q) (Q .next) s') (e1:sc=ya6.sc) (e2:cl=cellsFrom (L+1) ya6.sc.names []) (e3:test=yfH) (e4:body=ydY) :
  wpAny (MM w) (A₀.deeper (envX cn sc L fa ccd cl)) (PySem.isTrue test (envX cn sc L fa ccd cl) (eval test (envX cn sc L fa ccd cl))) (λb s₂=>WhlIf b (wpAny (MM w) (A₀.deeper (envX cn sc L fa ccd cl)) (execs body (envX cn sc L fa ccd cl)) (yaW I n Q) E s₂) (Q .next s₂)) E s':=by
 subst e1 e2 e3 e4
 exact h
end
set_option backward.match.sparseCases true
set_option genSizeOfSpec false
set_option genInjectivity false
section
variable {prog:Program} {w:World} {K:Frag} {A:Around} {s:Shared} {base:Heap} {env:Env} {outer:List Env} {ex:List (Addr × Obj)}
 {p:Program} {loose:List Str} {mean:ExcName->Option Value} {mg mb:Str->Option Value}
 {name qual:Str} {params:Arguments} {body:List Stmt} {scope:Scope} {dV kV doc pm cdv ct oc:Value} {an od:Option Addr} {osl:Array (Option Value)} {f:Addr} {args:Args} {binds:List (Str × Value)}
theorem yfJ {R:Result->Shared->Prop}
  (X:K.In base) (T:Top p loose mean mg mb base) (S:base.StaysIn s.heap) (FF:s.heap.FunFrames base (env::outer)) (O:ybZ base (env::outer) s.heap ex) (hA:A.frames=some (env::outer))
  (ho:K.lookup f=some ⟨oc,od,.func (fnOf name qual params body scope dV kV doc pm an cdv ct),osl⟩) (hcd:codeIn K cdv qual=true) (hroom:A.depth<recursionLimit)
  (hbind:BindsTo s (fnOf name qual params body scope dV kV doc pm an cdv ct) args binds) (hkind:(binds.all λy=>scope.names.lookup y.1==some .local || scope.names.lookup y.1==some .cell)=true)
  (hnd:((cellsFrom 0 scope.names []).map (·.1)).Nodup)
  (h:∀g L' h₁ tk cells,Fr g L' h₁ (bindL (envOfC qual scope L' f cdv).kindOf binds λ_=>none)->News g L' h₁ (cells++ex) ->
   CellsAre (bindC (envOfC qual scope L' f cdv).kindOf binds λ_=>none) (cellsFrom (L'+1) scope.names []) cells->Below A base (env::outer) g->K.In g->Top p loose mean mg mb g->(∀q∈ex,q.1<L')->ycO (ex.map (·.1)) s.heap g->(∀b o,g.get? b=some o->s.heap.get? b=some o) ->
   wpAny (model prog w) (A.deeper (envOfC qual scope L' f cdv)) (execs body (envOfC qual scope L' f cdv))
    (λfl s'=>R (.ok (.ret (match fl with | .ret v=>v|_=>.none))) s')
    (λe s'=>wpAny (model prog w) (A.deeper (envOfC qual scope L' f cdv)) (leaving (envOfC qual scope L' f cdv) e) (λ_ s''=>R (.error e) s'') (λe' s''=>R (.error e') s'') s')
    {s with heap:=h₁,toks:=tk})
  (hco:scope.isCoroutine=false) (hgen:scope.isGenerator=false) (hk:scope.kind = .function):codeAny (model prog w) A (.call (.ref f) args) R s:=by
 have nm:∀b o,base.get? b=some o->b ∉ ex.map (·.1):=λb o e q=>by
  refine yab λGG hGG=>?_
  obtain ⟨p,hp,rfl⟩:=List.mem_map.mp q
  rw [(O p hp).2.1] at e;cases e
 have st:base.StaysIn (hideAll s.heap (ex.map (·.1))):=λb o e=>hideAll_get _ (S b o e) (nm b o e)
 have kp:ycO (ex.map (·.1)) s.heap (hideAll s.heap (ex.map (·.1))):=λb o e n=>hideAll_get _ e n
 refine codeAny_call_function hroom ((X.keeps S) _ _ ho) rfl hco hgen rfl (codeRec_of (X.keeps S) hcd) (hbind _ _ _ _ ?_)
 refine wpAny_newFunctionEnv_cells hk (kindsX hkind _) λenv' he s' x=>?_
 subst he
 refine ⟨(T.nolimit.keeps S).keeps x.toInCall.keep,codeAny_func ?_⟩
 refine yab λGG hGG=>?_
 obtain ⟨h₁,tk,rfl,_⟩:=x.done
 have hk₁:=x.toInCall.keep
 obtain ⟨cells,NC,Y⟩:=Cl.news (h₀:=s.heap) (Nat.le_refl _) λn c hm=>⟨x.cell n c (lookup_of_mem_nodup (cellsFrom_names scope.names 0 (s.heap.objs.size+1) [] [] rfl▸hnd) hm),x.above n c hm⟩
 refine hGG ?_;clear hGG GG
 refine h (hideAll s.heap (ex.map (·.1))) s.heap.objs.size h₁ tk cells ⟨x.toInCall.ns,λb o e=>hk₁ b o (of_hideAll _ e),Nat.le_of_eq (hideAll_size _ _)⟩ (λp hp=>?_) Y
  ⟨hA,st,funFrames_hideAll FF λenv' he b hb hf=>by
   obtain ⟨p,hp,rfl⟩:=List.mem_map.mp hb
   exact (O p hp).2.2 (List.mem_filterMap.mpr ⟨env',he,hf⟩)⟩
  (X.keeps λb o e=>st b o e) (T.keeps λb o e=>st b o e) (λq hq=>Heap.lt_size (O q hq).1) kp (λb o e=>of_hideAll _ e)
 rcases List.mem_append.mp hp with hp|hp
 ·refine ⟨(NC p hp).1,(NC p hp).2.1,?_⟩
  generalize q:((hideAll s.heap (ex.map (·.1))).get? p.1)=x9
  rcases x9 with _|o
  ·rfl
  ·have:=of_hideAll _ q;rw [(NC p hp).2.2] at this;cases this
 ·exact ⟨hk₁ _ _ (O p hp).1,Nat.ne_of_lt (Heap.lt_size (O p hp).1),hideAll_none _ (List.mem_map_of_mem hp)⟩
end
inductive Pairs (k:Int):Led->List Value->List Value->Prop
 | nil:Pairs k [] [] []
 | snoc {tups:Led} {vs ys:List Value} {T:Addr} {t:Tok} {y:Value} {n:Nat}:Pairs k tups vs ys->Pairs k ((T,yal [.int k t,y] n)::tups) (vs ++ [.ref T]) (ys ++ [y])
theorem yi6 {D:Addr} {l:Led} (h:LCg.Off1 D l):∀p∈l,p.1≠D:=by
 induction l with
 | nil=>exact fN
 | cons q r ih=>exact fC h.1 (ih h.2)
noncomputable def cSc:Scope:={kind:=.function,names:=[(Str.ofString ".0",.local),(Str.ofString "one",.local),(Str.ofString "line",.free)],isGenerator:=false,isCoroutine:=false,more:=[]}
noncomputable abbrev yjN (cn:Str) (L fa:Addr) (ccd:Value):Env:=envX cn ya6.sc L fa ccd (cellsFrom (L+1) ya6.sc.names [])
section
variable {w:World} {A:Around} {E:Value->Shared->Prop} {s:Shared} {h₀:Heap} {L fa S:Addr} {m:Map} {cn:Str} {ccd:Value} {news:Led} {k:Int} {t:Tok} {oc:Obj} {ys:List Value} {n2 k0:Nat} {Q:Value->Shared->Prop} {p1 p2 p3 p4 p5 p6:Pos}
theorem ylr (hh:A.handled=none) (F:Fr h₀ L s.heap m) (N:News h₀ L s.heap news) (hC:(L+1,oc)∈news) (hoc:oc.data = .cell (some (.int k t))) (hS:(S,listOf ys.toArray n2)∈news) (ms:m (Str.ofString "some")=some (.ref S)) (hz:ys.length<=100)
  (K:∀D tups vs h tk,Fr h₀ L h m->News h₀ L h ((D,LCg.lst vs)::(tups++news))->Pairs k tups vs ys->(∀q∈tups,∀p∈news,p.1≠q.1)->(∀p∈tups++news,p.1≠D)->Q (.ref D) {s with heap:=h,toks:=tk}) :
  wpAny (MM w) A (eval (.ListComp (.Tuple [.Name (Str.ofString "line") p1,.Name (Str.ofString "one") p2] k0 p3) [⟨.Name (Str.ofString "one") p4,.Name (Str.ofString "some") p5,[],0⟩] cSc p6) (yjN cn L fa ccd)) Q E s:=by
 have claim:∀(j i:Nat) (vs:List Value) (tups:Led) (g:Heap),i+j=ys.length->Pairs k tups vs (ys.take i)->(∀q∈tups,∀p∈news,p.1≠q.1) ->
   LCg.CompRest PySem.Challenge.rw_pf0025_01.row.prog w A h₀ L m (yjN cn L fa ccd) (.Tuple [.Name (Str.ofString "line") p1,.Name (Str.ofString "one") p2] k0 p3) (Str.ofString "one") cSc [(Str.ofString "line",L+1)] {s with heap:=g} (LCg.SrcAt h₀ S ys.toArray) (λi v=>ys.toArray[i]? = some v) (LCg.FinE h₀ L m {s with heap:=g} Q) j i vs (tups++news):=by
  intro j
  induction j with
  | zero=>
   intro i vs tups g hi P fr
   rw [Nat.add_zero] at hi
   rw [hi,List.take_length] at P
   exact LCg.CompRest.zero λD h tk F N off=>K D tups vs h tk F N P fr (yi6 off)
  | succ j ih=>
   intro i vs tups g hi P fr
   refine LCg.CompRest.succ λv I oI C' oC D m₂ h tk E' hv hn hx F N off ne=>?_
   have up:∀p∈tups++news,p∈(I,oI)::(C',oC)::(D,LCg.lst vs)::(tups++news):=λp hp=>.tail _ (.tail _ (.tail _ hp))
   refine Tuple_ (args_cons (lcf_cell (c:=L+1) N rfl (up _ (List.mem_append_right _ hC)) hoc (args_cons (LCgL.ld_own N (.tail _ (.head _)) hn hx (args_nil (kup_newTuple F N (λT h' F' N' lt=>?_) (by show 2<=sizeLine;decide)))) rfl) (by kernel_rfl) (by kernel_rfl)) rfl)
   refine LCg.CompEnd.intro F' N' ((T,yal [.int k t,v] 0)::(tups++news)) (fC (.tail _ (.head _)) (fC (.tail _ (.tail _ (.head _))) (fC (.tail _ (.tail _ (.tail _ (.head _)))) (fC (.head _) (λp hp=>.tail _ (up p hp)))))) ⟨⟨Nat.ne_of_gt (lt _ (.head _)),Nat.ne_of_gt (lt _ (.tail _ (.head _))),Nat.ne_of_gt (lt _ (.tail _ (.tail _ (.head _))))⟩,off⟩ (.inr ⟨_,.tail _ (List.mem_append_right _ hS),rfl,n2,rfl⟩) ?_
   have e:ys.take (i+1)=ys.take i ++ [v]:=by rw [List.take_add_one,show ys[i]? = some v by rw [<-List.getElem?_toArray];exact hv];rfl
   exact ih (i+1) _ ((T,yal [.int k t,v] 0)::tups) g (by omega) (e▸P.snoc) (fC (λp hp=>Nat.ne_of_lt (lt p (up p (List.mem_append_right _ hp)))) fr)
 refine LCg.ListComp_U F (cl:=[(Str.ofString "line",L+1)]) (by with_unfolding_all rfl) (by decide) rfl (by decide) rfl (nameX_L F ms (LCg.CompSrc.ledger hh F N hS (by rw [List.size_toArray];exact Nat.le_trans hz (by decide)) λg=>?_) (by kernel_rfl) (by kernel_rfl) (by decide))
 have r:=claim ys.length 0 [] [] g (Nat.zero_add _) (by rw [List.take_zero];exact .nil) fN
 rw [List.size_toArray]
 exact r
end
noncomputable def wFB:List Stmt:=yht (ya6.body.drop 1)
@[irreducible] noncomputable def wBd:List Stmt:=ya6.body
@[irreducible] noncomputable def wB0:List Stmt:=ya6.body.take 1
@[irreducible] noncomputable def wB2:List Stmt:=ya6.body.drop 2
@[irreducible] noncomputable def wB3:List Stmt:=(ya6.body.drop 2).take 1
theorem yls:∃p1 p2 p3 p4 p5 k,wBd=wB0++(.For (.Tuple [.Name (Str.ofString "line") p1,.Name (Str.ofString "some") p2] k p3) (.Name (Str.ofString "program") p4) wFB [] p5::wB2):=by unfold wBd wB0 wB2;exact ⟨_,_,_,_,_,_,rfl⟩
theorem ylt:∃p1 p2 p3 p4 p5 p6 p7 p8 p9 q1 q2 q3 q4 q5 k,wFB = [.Assign [.Subscript (.Name (Str.ofString "spots") p1) (.Name (Str.ofString "line") p2) p3] (yes wFB) p4,.Expr (.Call (.Attribute (.Name (Str.ofString "rows") p5) (Str.ofString "extend") p6) [.ListComp (.Tuple [.Name (Str.ofString "line") p7,.Name (Str.ofString "one") p8] k p9) [⟨.Name (Str.ofString "one") q1,.Name (Str.ofString "some") q2,[],0⟩] cSc q3] [] q4) q5]/\(p6.endLine==q4.line)=true:=⟨_,_,_,_,_,_,_,_,_,_,_,_,_,_,_,rfl,rfl⟩
noncomputable def wRS:List (Str × SV):=[(Str.ofString "rows",.r 1),(Str.ofString "spots",.r 2)]
noncomputable def wsS (more:List (Str × SV)) (cv:Option SV):SS:=⟨wRS++more,[(Str.ofString "line",0)],[.cell cv,.vec 0 (.v 0) [] [],.map 0 []],[],[],none⟩
theorem yqD:(xSs (run YY 40) pw wB0 ⟨[(Str.ofString "program",.q 0)],[(Str.ofString "line",0)],[.cell none],[],[],none⟩).map yaD = [.nx [(Str.ofString "program",.q 0),(Str.ofString "spots",.r 2),(Str.ofString "rows",.r 1)] [.cell none,.lst [],.emp,.tup [.r 1,.r 2]] []]/\yaI (xSs (run YY 40) pw wB0 ⟨[(Str.ofString "program",.q 0)],[(Str.ofString "line",0)],[.cell none],[],[],none⟩)=true:=⟨by kernel_rfl,by kernel_rfl⟩
theorem ylu:ycv YY pw [.n (Str.ofString "line"),.n (Str.ofString "some")] [.z (.v 1),.q 0] (wsS [] none)=some (wsS [(Str.ofString "some",.q 0)] (some (.z (.v 1)))):=by kernel_rfl
theorem yjO:(run YY 40).E pw (yes wFB) (wsS [(Str.ofString "some",.q 0)] (some (.z (.v 1))))=one (.z (.v 0)) (wsS [(Str.ofString "some",.q 0)] (some (.z (.v 1)))):=by kernel_rfl
theorem yhG (p:Pos):(run YY 40).E pw (.Name (Str.ofString "line") p) (wsS [(Str.ofString "some",.q 0)] (some (.z (.v 1))))=one (.z (.v 1)) (wsS [(Str.ofString "some",.q 0)] (some (.z (.v 1)))):=by kernel_rfl
noncomputable def wTd:List (Str × SV):=[(Str.ofString "told",.r 3),(Str.ofString "at",.z (.n 0)),(Str.ofString "handler",.z (.n 0)),(Str.ofString "is_on",.b (.b false)),(Str.ofString "number",.z (.n 0)),(Str.ofString "told_line",.z (.n 0)),(Str.ofString "failed",.z (.n (-1)))]
theorem yhH:(xSs (run YY 40) pw wB3 (wsS [] none)).map yaD = [.nx (wRS++wTd) [.cell none,.vec 0 (.v 0) [] [],.map 0 [],.lst [],.tup [.r 3,.z (.n 0),.z (.n 0),.b (.b false),.z (.n 0),.z (.n 0),.z (.n (-1))]] []]/\yaI (xSs (run YY 40) pw wB3 (wsS [] none))=true:=⟨by kernel_rfl,by kernel_rfl⟩
theorem ypB {α:Type} {l:List α} {a b c:α} (h:l.length=3) (e0:l[0]? = some a) (e1:l[1]? = some b) (e2:l[2]? = some c):l = [a,b,c]:=by
 refine yab λGG hGG=>?_
 obtain ⟨x,y,z,rfl⟩:=ypa h
 refine hGG ?_;clear hGG GG
 rw [Option.some.inj e0,Option.some.inj e1,Option.some.inj e2]
theorem ye3 {α:Type} {l l':List α} (p:l <+: l') (h:l'.length=l.length):l'=l:=by
 obtain ⟨t,rfl⟩:=p
 have e:t = []:=List.eq_nil_of_length_eq_zero (by rw [List.length_append] at h;omega)
 rw [e,List.append_nil]
inductive SpO (w:World) (C RW SP:Addr) (rvs:List Value) (kvs:List (Int × Value)) (ns:Led):Prop
 | mk {oc po:Obj} {v₀:Option Value} {lw:Nat} (e:ns = [(C,oc),(RW,listOf rvs.toArray lw),(SP,po)]) (hoc:oc.data = .cell v₀) (hpo:po.IsDictOf (PySem.intKind PP w) kvs):SpO w C RW SP rvs kvs ns
inductive SpL (w:World) (C RW SP:Addr) (rvs:List Value) (kvs:List (Int × Value)) (k:Int) (ns:Led):Prop
 | mk {oc po:Obj} {t:Tok} {lw:Nat} (e:ns = [(C,oc),(RW,listOf rvs.toArray lw),(SP,po)]) (hoc:oc.data = .cell (some (.int k t))) (hpo:po.IsDictOf (PySem.intKind PP w) kvs):SpL w C RW SP rvs kvs k ns
theorem ynW {w:World} {ρ:Rho} {ns:Led} {C RW SP:Addr} {rvs:List Value} {kvs:List (Int × Value)} {k:Int} (obs:DOs w ρ (yae ns) [.cell (some (.z (.v 1))),.vec 0 (.v 0) [] [],.map 0 []] ns) (k0:yae ns = [C,RW,SP]) (hl:ρ.l[0]? = some rvs) (hk:ρ.k[0]? = some kvs) (hz:ρ.z[1]? = some k):SpL w C RW SP rvs kvs k ns:=by
 have ix:∀{i:Nat} {a:Addr},([C,RW,SP]:List Addr)[i]? = some a->(yae ns)[i]? = some a:=λh=>k0▸h
 refine yab λGG hGG=>?_
 obtain ⟨o0,e0,d0⟩:=obs.atK (i:=0) rfl (ix rfl)
 obtain ⟨o1,e1,d1⟩:=obs.atK (i:=1) rfl (ix rfl)
 obtain ⟨o2,e2,d2⟩:=obs.atK (i:=2) rfl (ix rfl)
 obtain ⟨hc,dc⟩:=d0
 obtain ⟨t,ev⟩:=q_z dc hz
 obtain ⟨lw,f1⟩:=ylN d1 hl
 rw [f1] at e1
 refine hGG ?_;clear hGG GG
 exact ⟨ypB obs.len.symm e0 e1 e2,ev▸hc,ylO d2 hk⟩
inductive SpI (w:World) (C RW SP:Addr) (tl:Led) (p:ybM) (i:Nat) (m:Map) (nx:Led):Prop
 | mk {rvs:List Value} {lw:Nat} {kvs:List (Int × Value)} {oc po:Obj} {v₀:Option Value} {tl2:Led} (e:nx=(C,oc)::(RW,listOf rvs.toArray lw)::(SP,po)::(tl2++tl)) (hoc:oc.data = .cell v₀)
  (hR:RowsAre (tl2++tl) rvs (yak (p.take i))) (hpo:po.IsDictOf (PySem.intKind PP w) kvs) (sp:SpotsAre kvs (yam 0 (p.take i))) (off:OwnOff tl2 (C::RW::SP::yae tl)) (m1:m (Str.ofString "rows")=some (.ref RW)) (m2:m (Str.ofString "spots")=some (.ref SP)):SpI w C RW SP tl p i m nx
theorem yi7 {T:Led} {ys:List Value} {y:Value} {sts:List St} (h:DatAll T (ys ++ [y]) (sts.map St.dat)):∃s1 a,sts=s1 ++ [a]/\DatAll T ys (s1.map St.dat)/\DatIn T y a.dat:=by
 induction ys generalizing sts with
 | nil=>
  rcases sts with _|⟨a,r⟩
  ·cases h
  ·rcases h with _|⟨h,r'⟩
   ·rcases r with _|⟨b,r⟩
    ·exact ⟨[],a,rfl,.nil,h⟩
    ·cases r'
 | cons x ys ih=>
  rcases sts with _|⟨a,r⟩
  ·cases h
  ·rcases h with _|⟨h,r'⟩
   ·obtain ⟨s1,b,e,h1,h2⟩:=ih r'
    exact ⟨a::s1,b,congrArg (a::·) e,.cons h h1,h2⟩
theorem yfK {k:Int} {tups T:Led} {vs ys rvs:List Value} {rows:List (Int × St)} {sts:List St} (P:Pairs k tups vs ys) (h:DatAll T ys (sts.map St.dat)) (hR:RowsAre T rvs rows):RowsAre (tups++T) (rvs++vs) (rows++sts.map λt=>(k,t)):=by
 induction P generalizing sts with
 | nil=>
  rcases sts with _|⟨a,r⟩
  ·simpa using hR
  ·cases h
 | @snoc tups vs ys T' t y n P ih=>
  obtain ⟨s1,a,rfl,h1,h2⟩:∃s1 a,sts=s1 ++ [a]/\DatAll T ys (s1.map St.dat)/\DatIn T y a.dat:=yi7 h
  obtain ⟨b,x,t1,r,n1,rfl,_,_⟩:=yjI h2
  rw [List.map_append,<-List.append_assoc,<-List.append_assoc]
  exact ((ih h1).mono λq hq=>.tail _ hq).put (.head _) (h2.mono λq hq=>.tail _ (List.mem_append_right _ hq))
theorem yjP {c:Cx} {ρ:Rho} {C RW SP:Addr} {rvs:List Value} {kvs:List (Int × Value)} {lw:Nat} {oc po:Obj} {v₀:Option Value} {m:Map} (z:ρ.z[0]? = some (rvs.length:Int)) (l:ρ.l[0]? = some rvs) (kk:ρ.k[0]? = some kvs) (hl:c.cl.lookup (Str.ofString "line")=some C) (hoc:oc.data = .cell v₀) (lt:rvs.length<=1000) (lo:(SP==sysModules)=false) (hpo:po.IsDictOf (PySem.intKind PP c.w) kvs) (m1:m (Str.ofString "rows")=some (.ref RW)) (m2:m (Str.ofString "spots")=some (.ref SP)) :
  Den c ρ (wsS [] none) m [(C,oc),(RW,listOf rvs.toArray lw),(SP,po)]:=
 ⟨yaC (fC ⟨_,m1,RW,rfl,rfl⟩ (fC ⟨_,m2,SP,rfl,rfl⟩ fN)),ya9 (.cons ⟨hoc,.none⟩ (.cons ⟨l,by rw [List.append_nil],z,lt,.nil,fN⟩ (.cons ⟨lo,kk,hpo,fN⟩ .nil))),fN,(λi x h=>nomatch h),λx i h=>by
  cases List.mem_singleton.mp (yaB h)
  exact ⟨C,rfl,hl⟩,λi h=>nomatch h⟩
theorem yhI {k:Int} {tups:Led} {vs ys:List Value} (P:Pairs k tups vs ys):vs.length=ys.length:=by
 induction P with
 | nil=>rfl
 | snoc _ ih=>rw [List.length_append,List.length_append,ih];rfl
theorem ylv {c:Cx} {h:Heap} {tk n1 n2 kk:Nat} {RW SP I D S:Addr} {oI:Obj} {tl nx:Led} {p:ybM} {k:Int} {t:Tok} {sts:List St} {ys:List Value} {i:Nat} {m:Map} {P:Flow->Shared->Prop} {q1 q2 q3:Pos} (at0:∀tl,(c.on tl).At pw) (hE:c.env=yjN c.cn c.L c.fa c.cd) (hl:c.cl.lookup (Str.ofString "line")=some (c.L+1)) (lo:(SP==sysModules)=false) (nd:([c.L+1,RW,SP]:List Addr).Nodup) (offT:OwnOff tl [c.L+1,RW,SP])
  (V:Valid p) (hx:p[i]? = some (k,sts)) (hD:(D,yal [.int k t,.ref S] n1)∈tl) (hS:(S,listOf ys.toArray n2)∈tl) (hys:DatAll tl ys (sts.map St.dat)) (J:SpI c.w (c.L+1) RW SP tl p i m nx) (F:Fr c.g c.L h m) (N:News c.g c.L h ((I,oI)::nx)) (nI:∀p∈nx,p.1≠I) (hP:∀s₃,TurnEnd c.g c.L c.s I oI (SpI c.w (c.L+1) RW SP tl p) i s₃->P .next s₃) :
  wpAny (MM c.w) c.A (assign (.Tuple [.Name (Str.ofString "line") q1,.Name (Str.ofString "some") q2] kk q3) c.env (.ref D)) (λ_ s₂=>wpAny (MM c.w) c.A (execs wFB c.env) P c.E s₂) c.E (c.st h tk):=by
 refine yab λGG hGG=>?_
 obtain @⟨rvs,lw,kvs,oc,po,v₀,tl2,rfl,hoc,hR,hpo,sp,off,m1,m2⟩:=J
 obtain ⟨ok1,ok2,_⟩:=V.ok _ (List.mem_of_getElem? hx)
 have hpn:=sp.none (V.new hx)
 have hrl:(yak (p.take i)).length<=10:=by
  have h1:=V.sp.2.2.2.1
  rw [<-List.take_append_drop i p,ybk,List.length_append] at h1;omega
 have hkl:kvs.length<=100:=by
  have h1:=sp.length
  have h2:=congrArg List.length (yaO 0 (p.take i))
  have h3:=V.sp.2.2.2.2
  simp only [List.length_map,List.length_take] at h2;omega
 have hlen:=hR.1
 have hyl:ys.length<=2:=by
  have h1:=hys.length
  rw [List.length_map] at h1
  have h2:sts.length<=2:=ok2
  omega
 obtain ⟨U,hU⟩:∃U,U=(I,oI)::(tl2++tl):=⟨_,rfl⟩
 have uI:(I,oI)∈U:=hU▸.head _
 have inU:∀q∈tl,q∈U:=λq hq=>hU▸.tail _ (List.mem_append_right _ hq)
 have nI3:∀b∈([c.L+1,RW,SP]:List Addr),b≠I:=fC (nI _ (.head _)) (fC (nI _ (.tail _ (.head _))) (fC (nI _ (.tail _ (.tail _ (.head _)))) fN))
 have sub2:∀q∈tl2++tl,q∈U/\q.1≠I:=λq hq=>⟨hU▸.tail _ hq,nI q (.tail _ (.tail _ (.tail _ hq)))⟩
 have offU:OwnOff U [c.L+1,RW,SP]:=hU▸fC (λb hb=>(nI3 b hb).symm) (λp hp b hb=>(List.mem_append.mp hp).elim (λz=>off p z b (List.mem_append_left (yae tl) hb)) λz=>offT p z b hb)
 have i0:Is (c.on U) m [(c.L+1,oc),(RW,listOf rvs.toArray lw),(SP,po)] h:=⟨F,fC (N _ (.tail _ (.head _))) (fC (N _ (.tail _ (.tail _ (.head _)))) (fC (N _ (.tail _ (.tail _ (.tail _ (.head _))))) (λq hq=>by
  have hq:q∈U:=hq
  rw [hU] at hq
  rcases List.mem_cons.mp hq with rfl|hq
  ·exact N _ (.head _)
  ·exact N q (.tail _ (.tail _ (.tail _ (.tail _ hq))))))),nd,λp hp q hq=>offU q hq p.1 (List.mem_map_of_mem (f:=(·.1)) hp)⟩
 clear N F hU nI offT
 have d0:Den (c.on U) ⟨[rvs.length,k],[],[],[S],[rvs],[],[kvs]⟩ (wsS [] none) m [(c.L+1,oc),(RW,listOf rvs.toArray lw),(SP,po)]:=yjP rfl rfl rfl hl hoc (by omega) lo hpo m1 m2
 refine hGG ?_;clear hGG GG
 refine yc8 i0.F i0.N (News.isTup i0.N (List.mem_append_right _ (inU _ hD))) (.inl ((at0 []).hh rfl)) rfl rfl λh5 F5 N5=>?_
 refine ybx (c:=c.on U) (yaR c.w) (at0 _) (yci (es:=[.Name (Str.ofString "line") q1,.Name (Str.ofString "some") q2]) rfl).1 d0 (as:=[.z (.v 1),.q 0]) (.cons ⟨k,t,rfl,rfl⟩ (.cons ⟨S,rfl,rfl⟩ .nil)) ylu ⟨F5,N5,i0.nd,i0.off⟩ λh6 tk6 m6 n6 ek i6 d6=>?_
 clear d0 i0 F5 N5 m1 m2 hoc hpo
 refine yab λGG hGG=>?_
 obtain ⟨p1,p2,p3,p4,p5,p6,p7,p8,p9,r1,r2,r3,r4,r5,k9,hb,hline⟩:=ylt
 refine hGG ?_;clear hGG GG
 rw [hb]
 clear hb
 have len6:n6.length=3:=by have:=congrArg List.length ek;rwa [yae,List.length_map] at this
 refine wpAny_execs_cons (wpAny_Assign_Subscript (((ybV (yaR c.w) 40).E (c.on U) pw (yes wFB) (wsS [(Str.ofString "some",.q 0)] (some (.z (.v 1)))) _ m6 n6 rfl (at0 _) d6 (by rw [yjO];exact ybS)).run i6 λv h7 tk7 n7 i7 q=>?_) (yaV (by kernel_rfl)))
 refine yab λGG hGG=>?_
 obtain ⟨hm,up,dv,d7⟩:=q
 rw [yjO] at hm
 cases List.mem_singleton.mp hm
 obtain ⟨t7,rfl⟩:=ybt dv (yad up.z (i:=0) (rvs.length:Int) rfl)
 have k7:yae n7 = [c.L+1,RW,SP]:=(ye3 up.a (by rw [yae,yae,List.length_map,List.length_map,len6,<-d7.obs.len];rfl)).trans ek
 refine hGG ?_;clear hGG GG
 refine ybr (c:=c.on U) (tk:=tk7) (at0 U) i7.F (q_r (show DQ _ _ (some (SV.r 2)) _ from d7.loc (Str.ofString "spots")) (a:=SP) (by rw [k7];rfl)) (by kernel_rfl) ?_
 refine ((ybV (yaR c.w) 40).E (c.on U) pw (.Name (Str.ofString "line") p2) (wsS [(Str.ofString "some",.q 0)] (some (.z (.v 1)))) _ m6 n7 rfl (at0 _) d7 (by rw [yhG];exact ybS)).run i7 λv h8 tk8 n8 i8 q=>?_
 refine yab λGG hGG=>?_
 obtain ⟨hm8,up8,dv8,d8⟩:=q
 rw [yhG] at hm8
 cases List.mem_singleton.mp hm8
 have u8:=up.trans up8
 obtain ⟨t8,rfl⟩:=ybt dv8 (yad u8.z (i:=1) k rfl)
 have k8:yae n8 = [c.L+1,RW,SP]:=(ye3 up8.a (by rw [k7,yae,List.length_map,<-d8.obs.len];rfl)).trans k7
 have O:=ynW d8.obs k8 (yad u8.l (i:=0) rvs rfl) (yad u8.k (i:=0) kvs rfl) (yad u8.z (i:=1) k rfl)
 have m1:=q_r (show DQ _ _ (some (SV.r 1)) _ from d8.loc (Str.ofString "rows")) (a:=RW) (by rw [k8];rfl)
 have m2:=q_r (show DQ _ _ (some (SV.r 2)) _ from d8.loc (Str.ofString "spots")) (a:=SP) (by rw [k8];rfl)
 have m3:=q_q (show DQ _ _ (some (SV.q 0)) _ from d8.loc (Str.ofString "some")) (a:=S) (yad u8.q (i:=0) S rfl)
 clear up8 dv8 d8 up dv d7 d6 i6 i7 k7 k8 u8 hm hm8 ek len6
 rcases O with @⟨oc8,po8,t9,lw8,e,hoc8,hpo8⟩
 ·subst e
  refine hGG ?_;clear hGG GG
  refine yeZ i8.F i8.N (i8.upd (i:=2) rfl) hpo8 hpn hkl λh' o' F' N' hd' _=>?_
  have i9:=i8.set (i:=2) rfl F' N'
  clear F' N' i8 hpo8
  have hi:interactive c.env=false:=by unfold interactive;rw [show c.env.scope=c.sc from rfl,show c.sc.kind=_ from (at0 U).f.fn];rfl
  refine wpAny_execs_cons (wpAny_Expr_any (yeQ (yan rfl) hline rfl (ybr (c:=c.on U) (at0 U) i9.F m1 (by kernel_rfl) (kl_method i9.N (i9.mem (i:=1) rfl) PySem.F.slot_list_extend rfl (callWith_method1 (args_cons ?_ (yan rfl)) (yan rfl))))) hi (yaV rfl))
  have hh:=(at0 []).hh rfl
  have hh:c.A.handled=none:=hh
  rw [hE]
  refine ylr hh i9.F i9.N (i9.mem (i:=0) rfl) hoc8 (List.mem_append_right _ (inU _ hS)) m3 (by omega) λD' tups vs ha tka Fa Na Pr fr nD=>?_
  have lv:=yhI Pr
  have in3:∀q∈[(c.L+1,oc8),(RW,listOf rvs.toArray lw8),(SP,o')]++U,q∈(D',LCg.lst vs)::(tups++([(c.L+1,oc8),(RW,listOf rvs.toArray lw8),(SP,o')]++U)):=λq hq=>.tail _ (List.mem_append_right _ hq)
  have oRW:∀q∈tups++U,q.1≠RW:=λq hq=>(List.mem_append.mp hq).elim (λz=>(fr q z (RW,listOf rvs.toArray lw8) (.tail _ (.head _))).symm) λz=>offU q z RW (.tail _ (.head _))
  refine args_nil (extend_in (own:=[(c.L+1,oc8)]) (rest:=(SP,o')::(D',LCg.lst vs)::(tups++U)) Fa (fC (Na _ (in3 _ (.head _))) (fC (Na _ (in3 _ (.tail _ (.head _)))) (fC (Na _ (in3 _ (.tail _ (.tail _ (.head _))))) (fC (Na _ (.head _)) (λq hq=>(List.mem_append.mp hq).elim (λz=>Na q (.tail _ (List.mem_append_left _ z))) λz=>Na q (in3 q (List.mem_append_right _ z)))))))
   (fC (yaM (ns:=[(c.L+1,oc8),(RW,listOf rvs.toArray lw8),(SP,o')]) nd (i:=0) (j:=1) rfl rfl (by decide)) fN) (fC (yaM (ns:=[(c.L+1,oc8),(RW,listOf rvs.toArray lw8),(SP,o')]) nd (i:=2) (j:=1) rfl rfl (by decide)) (fC ((nD (RW,listOf rvs.toArray lw8) (List.mem_append_right _ (.tail _ (.head _)))).symm) oRW)) (Na _ (.head _)).1 (λhb' n' Fb Nb=>?_) (by rw [List.size_toArray];exact Nat.le_trans (show _<=100 by omega) (by decide)))
  rw [List.toList_toArray] at Nb
  clear Na Fa in3 oRW i9
  refine wpAny_execs_nil (hP _ ⟨hb',_,m6,_,rfl,Fb,Nb,.tail _ (.tail _ (.tail _ (.tail _ (List.mem_append_right _ uI)))),(c.L+1,oc8)::(RW,listOf (rvs++vs).toArray n')::(SP,o')::((tups++tl2)++tl),fC ⟨.head _,nI3 _ (.head _)⟩ (fC ⟨.tail _ (.head _),nI3 _ (.tail _ (.head _))⟩ (fC ⟨.tail _ (.tail _ (.head _)),nI3 _ (.tail _ (.tail _ (.head _)))⟩ (λq hq=>?_))),.mk rfl hoc8 ?_ hd' ?_ ?_ m1 m2⟩)
  ·rw [List.append_assoc] at hq
   rcases List.mem_append.mp hq with z|z
   ·exact ⟨.tail _ (.tail _ (.tail _ (.tail _ (List.mem_append_left _ z)))),(fr q z (I,oI) (List.mem_append_right _ uI)).symm⟩
   ·exact ⟨.tail _ (.tail _ (.tail _ (.tail _ (List.mem_append_right _ (sub2 q z).1)))),(sub2 q z).2⟩
  ·rw [ydJ hx,List.append_assoc]
   exact yfK Pr (hys.mono λq hq=>List.mem_append_right _ hq) hR
  ·rw [ycT hx]
   have key:=sp.put k (yak (p.take i)).length t7
   rw [<-hlen] at key ⊢
   exact key
  ·refine λq hq b hb=>(List.mem_append.mp hq).elim (λz=>?_) λz=>off q z b hb
   obtain ⟨r,hr,e⟩:∃r,r∈[(c.L+1,oc8),(RW,listOf rvs.toArray lw8),(SP,o')]++U/\r.1=b:=by
    rcases List.mem_cons.mp hb with rfl|hb
    ·exact ⟨_,.head _,rfl⟩
    rcases List.mem_cons.mp hb with rfl|hb
    ·exact ⟨_,.tail _ (.head _),rfl⟩
    rcases List.mem_cons.mp hb with rfl|hb
    ·exact ⟨_,.tail _ (.tail _ (.head _)),rfl⟩
    ·obtain ⟨r,hr,e⟩:=List.mem_map.mp hb
     exact ⟨r,List.mem_append_right _ (inU r hr),e⟩
   exact e▸(fr q z r hr).symm
theorem yfL:∃p,wB2=wB3++(.While yfH ydY [] p::yet):=by unfold wB2 wB3;exact ⟨_,rfl⟩
inductive SpN (w:World) (C:Addr) (P:Addr) (ns:Led) (m:Map):Prop
 | mk {RW SP:Addr} {oc po:Obj} {v₀:Option Value} {lw:Nat} {q:Addr × Obj} (e:ns = [(C,oc),(RW,listOf ([]:List Value).toArray lw),(SP,po),q]) (hoc:oc.data = .cell v₀) (hpo:po.IsDictOf (PySem.intKind PP w) []) (lo:(SP==sysModules)=false) (m1:m (Str.ofString "rows")=some (.ref RW)) (m2:m (Str.ofString "spots")=some (.ref SP)) (mp:m (Str.ofString "program")=some (.ref P)):SpN w C P ns m
theorem ynX {c:Cx} {ρ ρ':Rho} {ns0 ns:Led} {m:Map} {h:Heap} {C P:Addr} (H:Here c ρ ρ' ns0 ns m [(Str.ofString "program",.q 0),(Str.ofString "spots",.r 2),(Str.ofString "rows",.r 1)] [.cell none,.lst [],.emp,.tup [.r 1,.r 2]] [] h) (k0:yae ns0 = [C]) (q0:ρ.q[0]? = some P):SpN c.w C P ns m:=by
 have obs:=H.obs
 have loc:=H.loc
 have up:=H.up
 clear H
 refine yab λGG hGG=>?_
 obtain ⟨o0,e0,d0⟩:=obs.atK (i:=0) rfl (yad up.a (i:=0) C (k0▸rfl))
 obtain ⟨RW,o1,k1,e1,d1⟩:=ylP (i:=1) obs rfl
 obtain ⟨SP,o2,k2,e2,d2⟩:=ylP (i:=2) obs rfl
 obtain ⟨T,o3,k3,e3,d3⟩:=ylP (i:=3) obs rfl
 obtain ⟨n,f1⟩:=yhv d1
 obtain ⟨n2,lo,f2⟩:=yjK d2
 obtain ⟨hc,_⟩:=d0
 rw [f1] at e1
 rw [f2] at e2
 refine hGG ?_;clear hGG GG
 exact ⟨yk1 obs.len.symm e0 e1 e2 e3,hc,yc3,lo,q_r (show DQ _ _ (some (SV.r 1)) _ from loc (Str.ofString "rows")) k1,q_r (show DQ _ _ (some (SV.r 2)) _ from loc (Str.ofString "spots")) k2,q_q (show DQ _ _ (some (SV.q 0)) _ from loc (Str.ofString "program")) (yad up.q _ q0)⟩
inductive ynY (w:World) (C RW SP:Addr) (rvs:List Value) (kvs:List (Int × Value)) (ns:Led) (m:Map):Prop
 | mk {TL:Addr} {oc po:Obj} {v₀:Option Value} {lw tn:Nat} {q:Addr × Obj} {t1 t2 t3 t4 t5:Tok} (e:ns = [(C,oc),(RW,listOf rvs.toArray lw),(SP,po),(TL,listOf ([]:List Value).toArray tn),q]) (hoc:oc.data = .cell v₀) (hpo:po.IsDictOf (PySem.intKind PP w) kvs) (m1:m (Str.ofString "rows")=some (.ref RW)) (m2:m (Str.ofString "spots")=some (.ref SP)) (m3:m (Str.ofString "told")=some (.ref TL)) (m4:m (Str.ofString "at")=some (.int 0 t1)) (m5:m (Str.ofString "handler")=some (.int 0 t2)) (m6:m (Str.ofString "is_on")=some (.bool false))
  (m7:m (Str.ofString "number")=some (.int 0 t3)) (m8:m (Str.ofString "told_line")=some (.int 0 t4)) (m9:m (Str.ofString "failed")=some (.int (-1) t5)):ynY w C RW SP rvs kvs ns m
theorem ypC {α:Type} {l:List α} {a b c d e:α} (h:l.length=5) (e0:l[0]? = some a) (e1:l[1]? = some b) (e2:l[2]? = some c) (e3:l[3]? = some d) (e4:l[4]? = some e):l = [a,b,c,d,e]:=by
 refine yab λGG hGG=>?_
 obtain ⟨x,y,z,u,v,rfl⟩:=yqk h
 refine hGG ?_;clear hGG GG
 rw [Option.some.inj e0,Option.some.inj e1,Option.some.inj e2,Option.some.inj e3,Option.some.inj e4]
theorem q_b {ρ:Rho} {as:List Addr} {c:C} {v:Option Value} {b:Bool} (d:DQ ρ as (some (.b c)) v) (e:c.ev ρ=some b):v=some (.bool b):=by
 obtain ⟨u,hu,d⟩:=ya3 d
 rw [hu,yeT d e]
theorem yi8 {c:Cx} {ρ ρ':Rho} {ns0 ns:Led} {m:Map} {h:Heap} {C RW SP:Addr} {rvs:List Value} {kvs:List (Int × Value)} (H:Here c ρ ρ' ns0 ns m (wRS++wTd) [.cell none,.vec 0 (.v 0) [] [],.map 0 [],.lst [],.tup [.r 3,.z (.n 0),.z (.n 0),.b (.b false),.z (.n 0),.z (.n 0),.z (.n (-1))]] [] h) (k0:yae ns0 = [C,RW,SP]) (l0:ρ.l[0]? = some rvs) (kk:ρ.k[0]? = some kvs):ynY c.w C RW SP rvs kvs ns m:=by
 have obs:=H.obs
 have loc:=H.loc
 have up:=H.up
 clear H
 have ix:∀{i:Nat} {a:Addr},([C,RW,SP]:List Addr)[i]? = some a->(yae ns)[i]? = some a:=λh=>yad up.a _ (k0▸h)
 refine yab λGG hGG=>?_
 obtain ⟨o0,e0,d0⟩:=obs.atK (i:=0) rfl (ix rfl)
 obtain ⟨o1,e1,d1⟩:=obs.atK (i:=1) rfl (ix rfl)
 obtain ⟨o2,e2,d2⟩:=obs.atK (i:=2) rfl (ix rfl)
 obtain ⟨TL,o3,k3,e3,d3⟩:=ylP (i:=3) obs rfl
 obtain ⟨T5,o4,k4,e4,d4⟩:=ylP (i:=4) obs rfl
 obtain ⟨lw,f1⟩:=ylN d1 (yad up.l _ l0)
 obtain ⟨n,f3⟩:=yhv d3
 obtain ⟨hc,_⟩:=d0
 rw [f1] at e1
 rw [f3] at e3
 obtain ⟨t1,m4⟩:=q_z (show DQ _ _ (some (SV.z (.n 0))) _ from loc (Str.ofString "at")) rfl
 obtain ⟨t2,m5⟩:=q_z (show DQ _ _ (some (SV.z (.n 0))) _ from loc (Str.ofString "handler")) rfl
 obtain ⟨t3,m7⟩:=q_z (show DQ _ _ (some (SV.z (.n 0))) _ from loc (Str.ofString "number")) rfl
 obtain ⟨t4,m8⟩:=q_z (show DQ _ _ (some (SV.z (.n 0))) _ from loc (Str.ofString "told_line")) rfl
 obtain ⟨t5,m9⟩:=q_z (show DQ _ _ (some (SV.z (.n (-1)))) _ from loc (Str.ofString "failed")) rfl
 refine hGG ?_;clear hGG GG
 exact ⟨ypC obs.len.symm e0 e1 e2 e3 e4,hc,ylO d2 (yad up.k _ kk),q_r (show DQ _ _ (some (SV.r 1)) _ from loc (Str.ofString "rows")) (ix rfl),q_r (show DQ _ _ (some (SV.r 2)) _ from loc (Str.ofString "spots")) (ix rfl),q_r (show DQ _ _ (some (SV.r 3)) _ from loc (Str.ofString "told")) k3,m4,m5,q_b (show DQ _ _ (some (SV.b (.b false))) _ from loc (Str.ofString "is_on")) rfl,m7,m8,m9⟩
structure yor (w:World) (L:Addr) (cdv:Value) (E':Value->Shared->Prop) (A:Around) (base:Heap) (l:List Env) (s:Shared) (tl:Led) (c:Cx):Prop where
 ec:c=wCx w ya6.qual L 928 cdv c.g s E' [] A base l
 hw:c.w=w
 hE:c.env=yjN c.cn c.L c.fa c.cd
 hsc:c.sc=ya6.sc
 hl:c.cl.lookup (Str.ofString "line")=some (c.L+1)
 hA:c.A₀=A
 hs:c.s=s
 fit:c.Fit
 kp:ycO (yae tl) s.heap c.g
 po:PassesOwn (MM c.w) c.A c.env c.E
section
variable {w:World} {base h:Heap} {outer:List Env} {A:Around} {s:Shared} {Q E':Value->Shared->Prop}
noncomputable def wkQ (w:World) (L:Addr) (cdv:Value) (E':Value->Shared->Prop) (A:Around) (Q:Value->Shared->Prop) (fl:Flow) (s':Shared):Prop:=match fl with
 | .next=>wpAny (MM w) (A.deeper (yjN ya6.qual L 928 cdv)) (execs yet (yjN ya6.qual L 928 cdv)) (λfl s'=>Q (ybF fl) s') E' s'
 | fl=>Q (ybF fl) s'
theorem yhJ {c:Cx} {L RW SP TL:Addr} {cdv:Value} {p:ybM} {tl tl2:Led} {rvs:List Value} {kvs:List (Int × Value)} {m:Map} {tk:Nat} {pW:Pos} (ec:c=wCx w ya6.qual L 928 cdv c.g s E' [] A base outer) (V:Valid p) (XB:(KK c.w.params).In c.base) (TB:∃mean mg mb,Top VV LO mean mg mb c.base) (B:Below c.A₀ c.base c.outer c.g) (kp:ycO (yae tl) s.heap c.g) (pas:PassesOwn (MM c.w) c.A c.env c.E) (hh:A.handled=none) (hdp1:A.depth+1+10<=600) (hun1:A.units+3+30<=3000)
  (n1 : @Ne Nat (c.L+1) TL) (n2 : @Ne Nat (c.L+1) RW) (n3 : @Ne Nat (c.L+1) SP) (n4 : @Ne Nat TL RW) (n5 : @Ne Nat TL SP) (n6 : @Ne Nat RW SP) (hR:RowsAre (tl2++tl) rvs (yak p)) (hsp:SpotsAre kvs (yam 0 p)) (lo:(SP==sysModules)=false)
  (hret:∀r tl' h' tk',ybK (tl.map (·.1)) s.heap h' (tl'++tl)->DatIn (tl'++tl) r (ybc (yam 0 p) (yak p) 18 0 σ0 [])->Q r {s with heap:=h',toks:=tk'}) (I:WSt c.w c.g h c.L RW SP TL rvs [] kvs (yam 0 p) (yak p) [] (tl2++tl) m 0 σ0 [] 18) :
  wpAny (MM c.w) c.A (execs (.While yfH ydY [] pW::yet) c.env) (λfl s'=>Q (ybF fl) s') c.E (c.st h tk):=by
 generalize c.g=g at *
 subst ec
 have K:yll w g s.heap base outer A s L RW SP TL rvs kvs (yam 0 p) (yak p) tl2 tl (wkQ w L cdv E' A Q):=⟨B,XB,TB,hh,hdp1,hun1,kp,n1,n2,n3,n4,n5,n6,hR,hsp,lo,V.sp.2.2.2.1,V.sp.2.1,V.sp.2.2.1,λh=>V.st h,hret⟩
 refine wpAny_execs_cons (yb3 (ydb (n₀:=18) (yaZ w g L s RW SP TL rvs kvs (yam 0 p) (yak p) (tl2++tl)) (.mk I) (λn s' hI=>yi5 (yfI (Q₂:=λfl s'=>Q (ybF fl) s') K (λ_ _ h=>h) (λs₃ q=>q) n s' hI) rfl rfl rfl rfl) pas))
theorem yhK {c:Cx} {L RW SP:Addr} {cdv:Value} {p:ybM} {tl tl2:Led} {rvs:List Value} {kvs:List (Int × Value)} {oc po:Obj} {v₀:Option Value} {lw tk:Nat} {m:Map} (V:Valid p) (at0:∀tl,(c.on tl).At pw) (W:yor w L cdv E' A base outer s tl c) (hh:A.handled=none) (hdp1:A.depth+1+10<=600) (hun1:A.units+3+30<=3000)
  (nd:([c.L+1,RW,SP]:List Addr).Nodup) (offT:OwnOff tl [c.L+1,RW,SP]) (lo:(SP==sysModules)=false) (hoc:oc.data = .cell v₀) (hR:RowsAre (tl2++tl) rvs (yak p)) (hpo:po.IsDictOf (PySem.intKind PP c.w) kvs) (hsp:SpotsAre kvs (yam 0 p)) (off2:OwnOff tl2 ((c.L+1)::RW::SP::yae tl)) (mr:m (Str.ofString "rows")=some (.ref RW)) (ms:m (Str.ofString "spots")=some (.ref SP))
  (F:Fr c.g c.L h m) (N:News c.g c.L h ((c.L+1,oc)::(RW,listOf rvs.toArray lw)::(SP,po)::(tl2++tl)))
  (hret:∀r tl' h' tk',ybK (tl.map (·.1)) s.heap h' (tl'++tl)->DatIn (tl'++tl) r (ybc (yam 0 p) (yak p) 18 0 σ0 [])->Q r {s with heap:=h',toks:=tk'}) :
  wpAny (MM c.w) c.A (execs wB2 c.env) (λfl s'=>Q (ybF fl) s') c.E (c.st h tk):=by
 obtain ⟨pW,hb⟩:=yfL
 rw [hb]
 have offU:OwnOff (tl2++tl) [c.L+1,RW,SP]:=λq hq b hb=>(List.mem_append.mp hq).elim (λz=>off2 q z b (List.mem_append_left (yae tl) hb)) λz=>offT q z b hb
 have i:Is (c.on (tl2++tl)) m [(c.L+1,oc),(RW,listOf rvs.toArray lw),(SP,po)] h:=⟨F,N,nd,λp hp q hq=>offU q hq p.1 (List.mem_map_of_mem (f:=(·.1)) hp)⟩
 have hlt:rvs.length<=1000:=by have:=hR.1;have:=V.sp.2.2.2.1;omega
 have d:Den (c.on (tl2++tl)) ⟨[rvs.length],[],[],[],[rvs],[],[kvs]⟩ (wsS [] none) m [(c.L+1,oc),(RW,listOf rvs.toArray lw),(SP,po)]:=yjP rfl rfl rfl W.hl hoc hlt lo hpo mr ms
 clear hb F N nd offT off2 hoc hpo mr ms
 refine yby (c:=c.on (tl2++tl)) 40 (p:=pw) (at0 _) _ _ d i yhH.1 yhH.2 (fC (λρ1 ns1 m1 h2 tk2 H=>?_) fN)
 have i1:=H.i
 have TN:=yi8 (C:=c.L+1) (RW:=RW) (SP:=SP) H rfl rfl rfl
 clear H d i
 refine yab λGG hGG=>?_
 rcases TN with @⟨TL,oc1,po1,v1,lw1,tn,q5,t1,t2,t3,t4,t5,e,hoc,hpo,r1,r2,r3,r4,r5,r6,r7,r8,r9⟩
 ·subst e
  have nd:=i1.nd
  have off:=i1.off
  have F:=i1.F
  have ne:=fun {i j:Nat} {a b:Addr} (h1:([c.L+1,RW,SP,TL,q5.1]:List Addr)[i]? = some a) (h2:([c.L+1,RW,SP,TL,q5.1]:List Addr)[j]? = some b) (n:i≠j)=>yaM (ns:=[(c.L+1,oc1),(RW,listOf rvs.toArray lw1),(SP,po1),(TL,listOf ([]:List Value).toArray tn),q5]) nd h1 h2 n
  have N:News c.g c.L h2 ((c.L+1,oc1)::(TL,listOf ([]:List Value).toArray tn)::(RW,listOf rvs.toArray lw1)::(SP,po1)::([]++(tl2++tl))):=fC (i1.N _ (.head _)) (fC (i1.N _ (.tail _ (.tail _ (.tail _ (.head _))))) (fC (i1.N _ (.tail _ (.head _))) (fC (i1.N _ (.tail _ (.tail _ (.head _)))) (λq hq=>i1.N q (.tail _ (.tail _ (.tail _ (.tail _ (.tail _ hq)))))))))
  have off4:OwnOff ([]++(tl2++tl)) [c.L+1,TL,RW,SP]:=λq hq=>fC (off _ (.head _) q hq) (fC (off _ (.tail _ (.tail _ (.tail _ (.head _)))) q hq) (fC (off _ (.tail _ (.head _)) q hq) (fC (off _ (.tail _ (.tail _ (.head _))) q hq) fN)))
  clear i1 off nd
  obtain ⟨ec,_,_,_,_,_,_,⟨XB,TB,_,_,B⟩,kp,pas⟩:=W
  refine hGG ?_;clear hGG GG
  exact yhJ (c:=c) ec V XB TB B kp pas hh hdp1 hun1 (ne (i:=0) (j:=3) rfl rfl (by decide)) (ne (i:=0) (j:=1) rfl rfl (by decide)) (ne (i:=0) (j:=2) rfl rfl (by decide)) (ne (i:=3) (j:=1) rfl rfl (by decide)) (ne (i:=3) (j:=2) rfl rfl (by decide)) (ne (i:=1) (j:=2) rfl rfl (by decide)) hR hsp lo hret (.mk F N hoc hpo .nil off4 ⟨.inl rfl,(λz=>nomatch z),by decide,(λz=>nomatch z)⟩ (Int.le_refl _) (Int.natCast_nonneg _) rfl rfl r1 r2 r3 r4 r5 r6 r7 r8 r9)
end
section
variable {w:World} {mean:ExcName->Option Value} {mg mb:Str->Option Value} {base:Heap} {env:Env} {outer:List Env} {A:Around} {s:Shared} {Q E:Value->Shared->Prop}
theorem ypD {g:Heap} {L:Addr} {cdv:Value} {E':Value->Shared->Prop} {tl:Led} (St0:Std w mean mg mb base (env::outer) s.heap) (B:Below A base (env::outer) g) (kp:ycO (yae tl) s.heap g) (po:PassesOwn (MM w) (A.deeper (yjN ya6.qual L 928 cdv)) (yjN ya6.qual L 928 cdv) E'):yor w L cdv E' A base (env::outer) s tl (wCx w ya6.qual L 928 cdv g s E' [] A base (env::outer)):=
 ⟨rfl,rfl,rfl,rfl,by kernel_rfl,rfl,rfl,⟨St0.X,⟨_,_,_,St0.T⟩,by kernel_rfl,by kernel_rfl,B⟩,kp,po⟩
theorem ylw {P:Addr} {tl:Led} (St0:Std w mean mg mb base (env::outer) s.heap) (hf:A.frames=some (env::outer)) (hroom:A.depth<recursionLimit) (O:ybZ base (env::outer) s.heap tl)
  (k:∀(c:Cx) L cdv E' h tk oc m,yor w L cdv E' A base (env::outer) s tl c->oc.data = .cell none->m (Str.ofString "program")=some (.ref P)->Fr c.g c.L h m->News c.g c.L h ((c.L+1,oc)::tl)->(∀q∈tl,@LT.lt Nat _ q.1 c.L) ->
   wpAny (MM c.w) c.A (execs wBd c.env) (λfl s'=>Q (ybF fl) s') c.E (c.st h tk)):wpAny (MM w) A (call (.ref 928) [.ref P]) Q E s:=by
 have eb:wBd=ya6.body:=by unfold wBd;rfl
 rw [eb] at k
 refine wpAny_call ?_
 refine' yfJ (binds:=[(Str.ofString "program",.ref P)]) St0.X St0.T St0.S St0.FF O hf ?o ?cd hroom ?bind ?kind ?nd ?_ ?co ?gen ?k
 case o=>k_is
 case cd=>show codeIn _ _ (Str.ofString "_law_walk")=true;k_is
 case bind=>exact BindsTo.of_eq rfl
 case kind=>exact rfl
 case nd=>decide +kernel
 case co=>exact rfl
 case gen=>exact rfl
 case k=>exact rfl
 intro g L h tk cells F N Y B X T lt kp gs
 k_cells Y
 rename_i oC dC
 exact wpAny_mono (k _ L _ _ h tk oC _ (ypD St0 B kp (by passes_own)) dC (by rfl) F N lt) (λfl s' q=>by cases fl<;>exact q) λ_ _ e=>e
end
section
variable {w:World} {mean:ExcName->Option Value} {mg mb:Str->Option Value} {base:Heap} {env:Env} {outer:List Env} {A:Around} {s:Shared} {Q E:Value->Shared->Prop}
theorem ypE {c:Cx} {L:Addr} {cdv:Value} {E':Value->Shared->Prop} {l:List Env} {tl0:Led} (W:yor w L cdv E' A base l s tl0 c) (h2:A.depth+1+10<=600) (h3:A.units+3+30<=3000) (h4:A.handled=none) (tl:Led):(c.on tl).At pw:=by
 refine yab λGG hGG=>?_
 obtain ⟨_,_,_,sc,_,e,_,f,_,_⟩:=W
 subst e
 refine hGG ?_;clear hGG GG
 exact ⟨⟨f.XB,f.TB,f.fn,f.dbg,f.B⟩,sc,h2,h3,(λh=>nomatch h),λ_=>h4⟩
theorem ylx {P:Addr} {p:ybM} {tl:Led} (V:Valid p) (hdat:DatIn tl (.ref P) (ybj p)) (St0:Std w mean mg mb base (env::outer) s.heap) (hf:A.frames=some (env::outer)) (hh:A.handled=none) (hdp:A.depth<=580) (hun:A.units<=2800)
  (O:ybZ base (env::outer) s.heap tl)
  (hret:∀r tl' h' tk',ybK (tl.map (·.1)) s.heap h' (tl'++tl)->DatIn (tl'++tl) r (ybc (yam 0 p) (yak p) 18 0 σ0 [])->Q r {s with heap:=h',toks:=tk'}) :
  wpAny (MM w) A (call (.ref 928) [.ref P]) Q E s:=by
 have hr:(600:Nat)<recursionLimit:=by decide
 refine yab λGG hGG=>?_
 obtain ⟨xs,pn,hP,hxs⟩:=ygq hdat
 clear hdat
 refine hGG ?_;clear hGG GG
 refine ylw St0 hf (by omega) O λc L cdv E' h1 tk1 oc m W hoc mp F N lt=>?_
 refine yab λGG hGG=>?_
 obtain ⟨p1,p2,p3,p4,p5,k,hb⟩:=yls
 refine hGG ?_;clear hGG GG
 rw [hb]
 have hdp1:A.depth+1+10<=600:=by omega
 have hun1:A.units+3+30<=3000:=by omega
 have at0:∀tl,(c.on tl).At pw:=ypE W hdp1 hun1 hh
 have cw:=W.hw
 have hE:=W.hE
 have hl:=W.hl
 have po:=W.po
 clear St0 O hf hdp hun hb
 have i0:Is (c.on tl) m [(c.L+1,oc)] h1:=⟨F,N,List.nodup_cons.mpr ⟨List.not_mem_nil,List.nodup_nil⟩,fC (λq hq=>Nat.ne_of_lt (Nat.lt_succ_of_lt (lt q hq))) fN⟩
 have d0:Den (c.on tl) ⟨[],[],[],[P],[],[],[]⟩ ⟨[(Str.ofString "program",.q 0)],[(Str.ofString "line",0)],[.cell none],[],[],none⟩ m [(c.L+1,oc)]:=
  ⟨yaC (fC ⟨_,mp,P,rfl,rfl⟩ fN),ya9 (.cons ⟨hoc,.none⟩ .nil),fN,(λi x h=>nomatch h),λx i h=>by
   cases List.mem_singleton.mp (yaB h)
   exact ⟨c.L+1,rfl,hl⟩,λi h=>nomatch h⟩
 refine yby (c:=c.on tl) 40 (p:=pw) (at0 _) _ _ d0 i0 yqD.1 yqD.2 (fC (λρ1 ns1 m1 h2 tk2 H=>?_) fN)
 have i1:=H.i
 have NN:=ynX (C:=c.L+1) (P:=P) H rfl rfl
 clear H d0 i0 F N hoc mp lt
 refine yab λGG hGG=>?_
 rcases NN with @⟨RW,SP,oc1,po1,v1,lw1,q4,e,hoc,hpo,lo,mr,ms,mp⟩
 ·subst e
  have off:=i1.off
  have nd4:=i1.nd
  have nd:([c.L+1,RW,SP]:List Addr).Nodup:=(List.nodup_append.mp (show ([c.L+1,RW,SP] ++ [q4.1]:List Addr).Nodup from nd4)).1
  have nq:∀b∈([c.L+1,RW,SP]:List Addr),q4.1≠b:=λb hb e=>(List.nodup_append.mp (show ([c.L+1,RW,SP] ++ [q4.1]:List Addr).Nodup from nd4)).2.2 b hb _ (.head _) e.symm
  have offT:OwnOff tl [c.L+1,RW,SP]:=λq hq=>fC (off _ (.head _) q hq) (fC (off _ (.tail _ (.head _)) q hq) (fC (off _ (.tail _ (.tail _ (.head _))) q hq) fN))
  have offq:OwnOff [q4] ((c.L+1)::RW::SP::yae tl):=fC (λb hb=>by
   refine yab λGG hGG=>?_
   rcases List.mem_append.mp (show b∈[c.L+1,RW,SP]++yae tl from hb) with hb|hb
   ·refine hGG ?_;clear hGG GG
    exact nq b hb
   ·obtain ⟨z,hz,rfl⟩:=List.mem_map.mp hb
    refine hGG ?_;clear hGG GG
    exact (off _ (.tail _ (.tail _ (.tail _ (.head _)))) z hz).symm) fN
  have F2:=i1.F
  have N2:News c.g c.L h2 ((c.L+1,oc1)::(RW,listOf ([]:List Value).toArray lw1)::(SP,po1)::([q4]++tl)):=i1.N
  clear i1 off nd4 nq
  refine hGG ?_;clear hGG GG
  refine wpAny_execs_cons (ydx (ybr (c:=c.on []) (at0 _) F2 (v:=.ref P) mp (by kernel_rfl) (ydB (vs:=xs) (SpI c.w (c.L+1) RW SP tl p) ((at0 []).hh rfl) F2 N2 (.mk rfl hoc .nil hpo .nil offq mr ms) ?lst ?turn ?done ?vs po)) (by intro _;rfl))
  case vs=>
   intro v hv
   refine yab λGG hGG=>?_
   obtain ⟨i,hi⟩:=List.getElem?_of_mem hv
   obtain ⟨d,hx,hxd⟩:=ycq hxs hi
   rw [List.getElem?_map] at hx
   obtain ⟨x,_,rfl⟩:=Option.map_eq_some_iff.mp hx
   obtain ⟨D,_,_,_,_,_,e,_⟩:=ydd hxd
   refine hGG ?_;clear hGG GG
   exact ⟨D,e⟩
  case lst=>
   rintro i m nx h ⟨rfl,_,_,_,_,_,_,_⟩ F N
   have hm:∀{l:Led},(P,listOf xs.toArray pn)∈l++tl:=List.mem_append_right _ hP
   exact ⟨N.isList (.tail _ (.tail _ (.tail _ hm))),.inr ⟨_,.tail _ (.tail _ (.tail _ hm))⟩⟩
  case turn=>
   intro i v m₁ nx h tk I oI hv hJ F N nI
   refine yab λGG hGG=>?_
   obtain ⟨d,hx0,hxd⟩:=ycq hxs hv
   rw [List.getElem?_map] at hx0
   obtain ⟨⟨k,sts⟩,hx,rfl⟩:=Option.map_eq_some_iff.mp hx0
   obtain ⟨D,S,t,n1,n2,ys,rfl,hD,hS,hys⟩:=ydd hxd
   refine hGG ?_;clear hGG GG
   exact ylv at0 hE hl lo nd offT V hx hD hS hys hJ F N nI λs₃ h=>h
  case done=>
   intro m₁ nx h tk hJ F N
   refine yab λGG hGG=>?_
   obtain @⟨rvs,lw,kvs,oc2,po2,v2,tl2,rfl,hoc2,hR,hpo2,hsp,off2,mr2,ms2⟩:=hJ
   have el:xs.length=p.length:=by rw [hxs.length,List.length_map]
   rw [el,List.take_length] at hR hsp
   refine hGG ?_;clear hGG GG
   exact yhK (Q:=Q) (tl:=tl) (c:=c) V at0 W hh hdp1 hun1 nd offT lo hoc2 hR hpo2 hsp off2 mr2 ms2 F N hret
end
set_option backward.match.sparseCases false
set_option genSizeOfSpec false
set_option genInjectivity false
theorem yi9 {g₀ g h hs:Heap} {l:List Env} {L D TL:Addr} {m:Str->Option Value} {news tl1 tl2 tl0:List (Addr × Obj)} {tvs:List Value} {told:List yb9} {tn n:Nat} {f num:Int} {on:Bool} {t1 t2:Tok}
  (kp:ycO (tl0.map (·.1)) hs g₀) (T:KtsTurn (frs l) g₀ g) (F:Fr g L h m) (N:News g L h news) (i1:(D,yal [.ref TL,.int f t1,.bool on,.int num t2] n)∈news) (i2:(TL,listOf tvs.toArray tn)∈news) (i3:∀p∈tl1++(tl2++tl0),p∈news) (hd:DatAll tl1 tvs (told.map yaT)) :
  ∃tl',yff l (tl0.map (·.1)) hs h (tl'++tl0)/\DatIn (tl'++tl0) (.ref D) (yaG told f on num):=by
 refine ⟨(D,yal [.ref TL,.int f t1,.bool on,.int num t2] n)::(TL,listOf tvs.toArray tn)::(tl1++tl2),yc7 kp T F N λp hp=>?_,?_⟩
 ·rw [List.cons_append,List.cons_append,List.append_assoc] at hp
  rcases List.mem_cons.mp hp with rfl|hp
  ·exact i1
  rcases List.mem_cons.mp hp with rfl|hp
  ·exact i2
  ·exact i3 p hp
 ·refine .tuple (.head _) (.cons (.list (.tail _ (.head _)) (hd.mono λq hq=>.tail _ (.tail _ (List.mem_append_left _ (List.mem_append_left _ hq))))) (.cons (.int _ _) (.cons (.bool _) (.cons (.int _ _) .nil))))
theorem ydv {sp:yao} {rows:List (Int × St)} {n:Nat} {at_ f:Int} {σ:yaL} {told:List yb9} (hg:ybc sp rows 18 0 σ0 []=ybc sp rows n at_ σ told) (h:n=0∨(rows.length:Int)<=at_) (hf:(if (rows.length:Int)<=at_/\σ.on=true then 19 else 0)=f):ybc sp rows 18 0 σ0 []=yaG told f σ.on σ.num:=by
 rw [hg,ych h,hf]
section
variable {w:World} {base h₀:Heap} {outer:List Env} {A₀:Around} {s:Shared} {Q E:Value->Shared->Prop} {L a:Addr} {m:Str->Option Value} {cn:Str} {cs:Scope} {ccd:Value} {mean:ExcName->Option Value} {mg mb:Str->Option Value}
variable {W WD FL FD RW PL R RD CT CD:Addr} {rvs:List Value} {rows:List (Int × St)} {sp:yao} {σ:yaL} {gl tl:List (Addr × Obj)} {nr at_ line:Int} {st:St} {ta:Tok}
theorem yly (B:Below A₀ base outer h₀) (F:Fr h₀ L s.heap m) (N:News h₀ L s.heap (gl++tl)) (XB:(KK w.params).In base) (TB:Top VV LO mean mg mb base) (hk:cs.kind = .function)
  (hf:(A₀.deeper (envOf cn cs L a ccd)).frames=some (envOf cn cs L a ccd::outer)) (hh:(A₀.deeper (envOf cn cs L a ccd)).handled=none) (hdp:(A₀.deeper (envOf cn cs L a ccd)).depth<=450) (hun:(A₀.deeper (envOf cn cs L a ccd)).units<=1700)
  (ap:([W,WD,FL,FD,RW,PL,R,RD,CT,CD]:List Addr).Nodup) (off:OwnOff tl [W,WD,FL,FD,RW,PL,R,RD,CT,CD]) (hlo:(PL==sysModules)=false)
  (G:yb2 W WD FL FD RW PL R RD CT CD w rvs sp σ gl) (rw_:RowsAre tl rvs rows) (hnr:(rows.length:Int)=nr) (hnr2:nr<=100) (M:MOk sp nr σ) (l5:lk sp 5=none) (l0:lk sp 0=none)
  (a0:0<=at_) (hrow:rows[at_.toNat]? = some (line,st)) (ok:yeG sp nr st)
  (hgo:∀goal σ' gl' g' u h' tk',step sp nr at_ line st σ = .go goal σ'->yb2 W WD FL FD RW PL R RD CT CD w rvs sp σ' gl'->KtsTurn (frs outer) h₀ g'->Fr g' L h' m->News g' L h' (gl'++tl)->Below A₀ base outer g'->Q (.int goal u) {s with heap:=h',toks:=tk'})
  (hbad:∀f σ' gl' e D oD a0 G₀ h' tk',step sp nr at_ line st σ = .bad f σ'->yb2 W WD FL FD RW PL R RD CT CD w rvs sp σ' gl'->yjl oD f->(∀p∈gl++tl,p.1≠D)->Fr h₀ L G₀ m->RaisedX base G₀ (envOf cn cs L a ccd::outer) e (.ref 41) a0 (some D) ((D,oD)::(gl'++tl)) h'->E (.ref e) {s with heap:=h',toks:=tk'}) :
  wpAny (MM w) (A₀.deeper (envOf cn cs L a ccd)) (call (.ref 916) [.ref R,.int at_ ta]) Q E s:=by
 refine ynJ (ybL B F XB TB hk) hf hh hdp hun (ybH B N λ_ h=>h) ap off hlo G rw_ hnr hnr2 M l5 l0 a0 hrow ok (λgoal σ' u h' tk' e P=>?_) (λf σ' e h' tk' ee P=>?_)
 ·refine yab λGG hGG=>?_
  obtain ⟨gl',G',P⟩:=P
  obtain ⟨g',T,F',N',B'⟩:=yf9 B F N ycD P hk
  rw [List.append_nil] at N'
  refine hGG ?_;clear hGG GG
  exact hgo _ _ _ _ _ _ _ e G' T F' N' B'
 ·refine yab λGG hGG=>?_
  obtain ⟨gl',G',P⟩:=P
  obtain ⟨D,oD,a1,G₀,told,ne,F',R'⟩:=ye1 F N P
  refine hGG ?_;clear hGG GG
  exact hbad _ _ _ _ _ _ _ _ _ _ ee G' told ne F' R'
end
noncomputable def yos:List Stmt × List ExceptHandler × List Stmt × Pos:=yer (yaH.body.drop 3)
noncomputable def gH:Pos × List Stmt × Pos:=yhq yos.2.1
noncomputable def gS0:Stmt:=gH.2.1.headD (.Pass gH.1)
noncomputable def ypF:List Stmt->PySem.Expr × List Stmt × List Stmt × Pos
 | .While t b _ p::r=>(t,b,r,p)
 | _=>(.Constant .none 0 ⟨0,0,0,0⟩,[],[],⟨0,0,0,0⟩)
noncomputable def ycL:PySem.Expr:=(ypF yos.1).1
noncomputable def ycM:List Stmt:=(ypF yos.1).2.1
noncomputable def ycN:List Stmt:=(ypF yos.1).2.2.1
noncomputable def ylR:List Stmt:=yaH.body.drop 4
noncomputable abbrev yqE:ExceptHandler:=.ExceptHandler (some (.Name (Str.ofString "BasicError") gH.1)) (some (Str.ofString "wrong")) [gS0] gH.2.2
theorem ynZ:∃p1 p2 p3 p4 p5 p6 p7 p8 p9 p10 p11,yaH.body=yaH.body.take 1++(.Assign [.Name (Str.ofString "run") p1] (.Call (.Name (Str.ofString "WorkRun") p2) [.Name (Str.ofString "world") p3,.Call (.Name (Str.ofString "flatten") p4) ([(Str.ofString "program",p5)].map λx=>PySem.Expr.Name x.1 x.2) [] p6,.Dict [] [] p7] [] p8) p9::((yaH.body.drop 2).take 1 ++ .Try (.While ycL ycM [] p10::ycN) [yqE] [] [] p11::ylR)):=⟨_,_,_,_,_,_,_,_,_,_,_,rfl⟩
theorem yn0:∃p1 p2 p3 p4 p5 p6,ycM = .Assign [.Name (Str.ofString "goal") p1] (.Call (.Name (Str.ofString "_law_led") p2) ([(Str.ofString "run",p3),(Str.ofString "at",p4)].map λx=>PySem.Expr.Name x.1 x.2) [] p5) p6::ycM.drop 1:=⟨_,_,_,_,_,_,rfl⟩
noncomputable def gP (hd:Bool):Pl:=⟨yaH.sc,80,false,hd⟩
noncomputable def gM (at_:Z) (more:List (Str × SV)):List (Str × SV):=(Str.ofString "world",.r 0)::(Str.ofString "run",.r 6)::(Str.ofString "told",.r 10)::(Str.ofString "at",.z at_)::more
noncomputable def gO (app:List SV):List SO:=osG (.v 2) (.v 0) (.v 3) (.t 0) (.v 4) [] [] ++ [.vec 1 (.v 5) [] app]
noncomputable def gS (more:List (Str × SV)) (pc:List C):SS:=⟨gM (.v 0) more,[],gO [],[],pc,none⟩
noncomputable def gC:List SO:=[.exd (.t 1) (.u 0),.cgt 11 13,.tb]
theorem ylz {pc:List C} (h:pc = [.lt (.v 0) (.v 1),.lt (.v 5) (.n 18),.cod 0 (.v 7)]):xT (run YY 40) (gP true) ycL (gS [] pc)=one true (gS [] pc):=by subst h;kernel_rfl
theorem yhL:(∀pc,pc = [.lt (.v 0) (.v 1),.not (.lt (.v 5) (.n 18)),.not (.le (.v 1) (.v 0)),.cod 0 (.v 7)]∨pc = [.not (.lt (.v 0) (.v 1)),.le (.v 1) (.v 0),.v 0,.cod 0 (.v 7)]∨pc = [.not (.lt (.v 0) (.v 1)),.le (.v 1) (.v 0),.not (.v 0),.cod 0 (.v 7)]->xT (run YY 40) (gP true) ycL (gS [] pc)=one false (gS [] pc)):=by
 rintro pc (rfl|rfl|rfl)<;>kernel_rfl
theorem ylA:(xSs (run YY 40) (gP true) (ycM.drop 1) (gS [(Str.ofString "goal",.z (.v 8))] [.cod 0 (.v 7)])).map yaD = [.nx (gM (.v 8) [(Str.ofString "goal",.z (.v 8))]) (gO [.r 11] ++ [.tup [.z (.v 0),.z (.v 8),.z (.v 7),.z (.v 3),.z (.v 4),.b (.v 0),.z (.v 2)]]) [.cod 0 (.v 7)]]:=by kernel_rfl
theorem yja:yaI (xSs (run YY 40) (gP true) (ycM.drop 1) (gS [(Str.ofString "goal",.z (.v 8))] [.cod 0 (.v 7)]))=true:=by kernel_rfl
theorem yjb {pc:List C} (h:pc = [.lt (.v 0) (.v 1),.not (.lt (.v 5) (.n 18)),.not (.le (.v 1) (.v 0)),.cod 0 (.v 7)]∨pc = [.not (.lt (.v 0) (.v 1)),.le (.v 1) (.v 0),.not (.v 0),.cod 0 (.v 7)]) :
  (xSs (run YY 40) (gP true) ycN (gS [] pc)).map yaD = [.nx (gM (.v 0) []) (gO []) pc]/\yaI (xSs (run YY 40) (gP true) ycN (gS [] pc))=true:=by
 rcases h with rfl|rfl<;>exact ⟨by kernel_rfl,by kernel_rfl⟩
noncomputable def gPN:List C:=[.not (.lt (.v 0) (.v 1)),.le (.v 1) (.v 0),.v 0,.cod 0 (.v 7)]
theorem yjQ:(xSs (run YY 40) (gP true) ycN (gS [] gPN)).map yaD = [.exc 11 12 11 (gM (.v 0) []) (gO [] ++ [.exc 12,.exd (.s (Str.ofString "NR")) (.s (Str.ofString ""))]) gPN]/\yaI (xSs (run YY 40) (gP true) ycN (gS [] gPN))=true:=⟨by kernel_rfl,by kernel_rfl⟩
theorem yjR:(xSs (run YY 40) (gP true) ylR (gS [] [.cod 0 (.v 7)])).map yaD = [.ret (.r 11) (gO [] ++ [.tup [.r 10,.z (.n 0),.b (.v 0),.z (.v 7)]]) [.cod 0 (.v 7)]]/\yaI (xSs (run YY 40) (gP true) ylR (gS [] [.cod 0 (.v 7)]))=true:=⟨by kernel_rfl,by kernel_rfl⟩
noncomputable def gSx:SS:=⟨(Str.ofString "wrong",.r 12)::gM (.v 0) [],[],gO []++gC,[],[.cod 0 (.v 7),.cod 1 (.v 6)],some 12⟩
theorem ye4:(xSs (run YY 40) (gP false) [gS0] gSx).map yaD = [.ret (.r 14) (gO []++gC ++ [.tup [.r 10,.z (.v 6),.b (.v 0),.z (.v 7)]]) [.cod 0 (.v 7),.cod 1 (.v 6)]]/\yaI (xSs (run YY 40) (gP false) [gS0] gSx)=true:=⟨by kernel_rfl,by kernel_rfl⟩
set_option genSizeOfSpec false
set_option genInjectivity false
noncomputable def ycG (at_ nr:Int) (σ:yaL) (cnt f goal:Int) (x1:Str) (uv:Value) (rvs tvs:List Value) (kvs:List (Int × Value)):Rho:=⟨[at_,nr,σ.hnd,σ.el,σ.fa,cnt,f,σ.num,goal],[σ.on],[yaj σ.num,x1],[],[rvs,tvs],[uv],[kvs]⟩
noncomputable abbrev gCx (w:World) (cdv:Value) (A:Around) (base:Heap) (l:List Env) (s:Shared) (E:Value->Shared->Prop) (g:Heap) (L:Addr) (tl:Led):Cx:=fCx w yaH 923 cdv A base l s E tl g L
structure yhX (w:World) (base:Heap) (env:Env) (outer:List Env) (A:Around) (s:Shared) (L:Addr) (g₀:Heap) (W WD FL FD RW PL R RD CT CD TL:Addr) (rvs:List Value) (sp:yao) (rows:List (Int × St)) (tl2 tl0:Led) (Q:Value->Shared->Prop):Prop where
 XB:(KK w.params).In base
 TB:∃mean mg mb,Top VV LO mean mg mb base
 hh:A.handled=none
 hdp:A.depth<=440
 hun:A.units<=1600
 kp:ycO (tl0.map (·.1)) s.heap g₀
 nL:g₀.get? L=none
 nd:([W,WD,FL,FD,RW,PL,R,RD,CT,CD,TL]:List Addr).Nodup
 R:RowsAre (tl2++tl0) rvs rows
 lo:(PL==sysModules)=false
 r10:rows.length<=10
 l5:lk sp 5=none
 l0:lk sp 0=none
 st:∀{x:Int × St},x∈rows->yeG sp rows.length x.2
 ret:∀r tl' h' tk',yff (env::outer) (tl0.map (·.1)) s.heap h' (tl'++tl0)->DatIn (tl'++tl0) r (ybc sp rows 18 0 σ0 [])->Q r {s with heap:=h',toks:=tk'}
section
variable {w:World} {base g g₀ h:Heap} {env:Env} {outer:List Env} {A:Around} {s:Shared} {Q E:Value->Shared->Prop} {L:Addr} {cdv:Value} {m:Map} {tk:Nat}
variable {W WD FL FD RW PL R RD CT CD TL:Addr} {rvs tvs:List Value} {rows:List (Int × St)} {sp:yao} {σ:yaL} {gl tl1 tl2 tl0:Led} {at_ cnt f goal:Int} {tn:Nat} {x1:Str} {uv:Value} {told:List yb9}
theorem gat (K:yhX w base env outer A s L g₀ W WD FL FD RW PL R RD CT CD TL rvs sp rows tl2 tl0 Q) (B:Below A base (env::outer) g) (tl:Led):(gCx w cdv A base (env::outer) s E g L tl).At (gP true):=
 ⟨⟨K.XB,K.TB,ycx (yg7 w).chk,ydh (yg7 w).chk,B⟩,rfl,by have:=K.hdp;show A.depth+1+80<=600;omega,by have:=K.hun;show A.units+3+3 * 80<=3000;omega,λ_=>rfl,λ_=>K.hh⟩
theorem ypG (h:([W,WD,FL,FD,RW,PL,R,RD,CT,CD,TL]:List Addr).Nodup):([W,WD,FL,FD,RW,PL,R,RD,CT,CD]:List Addr).Nodup/\∀b∈([W,WD,FL,FD,RW,PL,R,RD,CT,CD]:List Addr),b≠TL:=by
 have h:=List.nodup_append.mp (show ([W,WD,FL,FD,RW,PL,R,RD,CT,CD] ++ [TL]:List Addr).Nodup from h)
 exact ⟨h.1,λb hb=>h.2.2 b hb TL (.head _)⟩
theorem yck (K:yhX w base env outer A s L g₀ W WD FL FD RW PL R RD CT CD TL rvs sp rows tl2 tl0 Q) (F:Fr g L h m) (N:News g L h (gl ++ [(TL,listOf tvs.toArray tn)]++(tl1++(tl2++tl0)))) (G:yb2 W WD FL FD RW PL R RD CT CD w rvs sp σ gl) (hcz:tvs.length<=1000) (hc:(tvs.length:Int)=cnt)
  (off:OwnOff (tl1++(tl2++tl0)) [W,WD,FL,FD,RW,PL,R,RD,CT,CD,TL]) {t:Tok} (m1:m (Str.ofString "world")=some (.ref W)) (m2:m (Str.ofString "run")=some (.ref R)) (m3:m (Str.ofString "told")=some (.ref TL)) (m4:m (Str.ofString "at")=some (.int at_ t)) {more:List (Str × SV)} {pc:List C}
  (hm:∀kvs as,∀p∈more,∃v,m p.1=some v/\DV (ycG at_ rows.length σ cnt f goal x1 uv rvs tvs kvs) as p.2 v) (pcs:∀kvs,∀C∈pc,C.ev (ycG at_ rows.length σ cnt f goal x1 uv rvs tvs kvs)=some true) :
  ∃kvs,SpotsAre kvs sp/\yae gl = [W,WD,FL,FD,RW,PL,R,RD,CT,CD]/\Is (gCx w cdv A base (env::outer) s E g L (tl1++(tl2++tl0))) m (gl ++ [(TL,listOf tvs.toArray tn)]) h/\Den (gCx w cdv A base (env::outer) s E g L (tl1++(tl2++tl0))) (ycG at_ rows.length σ cnt f goal x1 uv rvs tvs kvs) (gS more pc) m (gl ++ [(TL,listOf tvs.toArray tn)]):=by
 refine yab λGG hGG=>?_
 obtain ⟨nd,nT⟩:=ypG K.nd
 obtain ⟨kvs,hsp,hk,nd',off',obs⟩:=ycB (ρf:=ycG at_ rows.length σ cnt f goal x1 uv rvs tvs) (on:=.v 0) (kn:=[]) (kp:=[]) (w:=w) (tl:=tl1++(tl2++tl0)) nd (λp hp b hb=>off p hp b (List.mem_append_left [TL] hb)) K.lo G (by have:=K.r10;have:=K.R.1;omega) (λ_=>congrArg some (congrArg Int.ofNat K.R.1.symm)) (λ_=>rfl) (λ_=>rfl) (λ_=>rfl) (λ_=>rfl) (λ_=>rfl) (λ_=>rfl) (λ_=>rfl) (λ_ _=>fN) (λ_ _ _=>fN)
 have hl:gl.length=10:=by have:=congrArg List.length hk;rwa [List.length_map] at this
 have ek:yae (gl ++ [(TL,listOf tvs.toArray tn)]) = [W,WD,FL,FD,RW,PL,R,RD,CT,CD,TL]:=by rw [yae,List.map_append,show gl.map (·.1)=_ from hk];rfl
 have hm:=hm kvs
 have pc1:=pcs kvs
 have u0:Up (ycG at_ rows.length σ cnt f goal x1 uv rvs tvs kvs) (ycG at_ rows.length σ cnt f goal x1 uv rvs tvs kvs) (yae gl) (yae (gl ++ [(TL,listOf tvs.toArray tn)])):=yas
 refine hGG ?_;clear hGG GG
 refine ⟨kvs,hsp,hk,⟨F,N,ek▸K.nd,λp hp q hq=>off q hq _ (ek▸List.mem_map_of_mem (f:=(·.1)) hp)⟩,yaC ?_,ya9 ?_,pc1,(λi x h=>nomatch h),(λx i h=>nomatch h),λi h=>nomatch h⟩
 ·rw [ek]
  exact fC ⟨_,m1,W,rfl,rfl⟩ (fC ⟨_,m2,R,rfl,rfl⟩ (fC ⟨_,m3,TL,rfl,rfl⟩ (fC ⟨_,m4,at_,t,rfl,rfl⟩ (hm _))))
 ·exact (obs.a2.imp λy p d=>DO.up u0 d).app (.cons ⟨rfl,by rw [List.append_nil],congrArg some hc.symm,hcz,.nil,fN⟩ .nil)
inductive yn1 (w:World) (ρ':Rho) (ns':Led) (W WD FL FD RW PL R RD CT CD TL:Addr) (rvs tvs:List Value) (sp:yao) (σ:yaL) (app:List SV):Prop
 | mk {gl' r:Led} {tn:Nat} {ws:List Value} (e:ns'=gl'++(TL,listOf (tvs++ws).toArray tn)::r) (hl:gl'.length=10) (G:yb2 W WD FL FD RW PL R RD CT CD w rvs sp σ gl') (D:DVs ρ' (yae ns') app ws):yn1 w ρ' ns' W WD FL FD RW PL R RD CT CD TL rvs tvs sp σ app
theorem ybY {ρ ρ':Rho} {ns':Led} {app:List SV} {rest:List SO} (obs:DOs w ρ' (yae ns') (gO app++rest) ns') (up:Up ρ ρ' [W,WD,FL,FD,RW,PL,R,RD,CT,CD,TL] (yae ns')) (V:Vals ρ (.v 2) (.v 0) (.v 3) (.t 0) (.v 4) σ) (l0:ρ.l[0]? = some rvs) (l1:ρ.l[1]? = some tvs) {kvs:List (Int × Value)} (k0:ρ.k[0]? = some kvs) (hsp:SpotsAre kvs sp) :
  yn1 w ρ' ns' W WD FL FD RW PL R RD CT CD TL rvs tvs sp σ app:=by
 have obs':DOs w ρ' (yae ns') (osG (.v 2) (.v 0) (.v 3) (.t 0) (.v 4) [] []++(.vec 1 (.v 5) [] app::rest)) ns':=by
  have:=obs
  rw [gO,List.append_assoc] at this
  exact this
 refine yab λGG hGG=>?_
 obtain ⟨gl',r,eg,hl',G'⟩:=ybh obs' ((List.prefix_append [W,WD,FL,FD,RW,PL,R,RD,CT,CD] [TL]).trans up.a) (V.up up) (yad up.l _ l0) (yad up.k _ k0) hsp
 obtain ⟨o,ho,h1,rfl,_,_,D,_⟩:=obs'.atK (i:=10) rfl (yad up.a (i:=10) TL rfl)
 cases h1.symm.trans (yad up.l _ l1)
 rw [eg,List.getElem?_append_right (hl'▸Nat.le_refl _),hl'] at ho
 rcases r with _|⟨p,r⟩
 ·first|exact yaa ho|cases ho
 ·cases ho;refine hGG ?_;clear hGG GG;exact ⟨eg,hl',G',D⟩
theorem ye5 (K:yhX w base env outer A s L g₀ W WD FL FD RW PL R RD CT CD TL rvs sp rows tl2 tl0 Q) (kt:KtsTurn (frs (env::outer)) g₀ g) (hd:DatAll tl1 tvs (told.map yaT)) {ρ ρ':Rho} {ns':Led} {os:List SO} {k:Nat} {zf zn:Z} {on:C} {fi ni:Int} {b:Bool} {u:Value}
  (up:Up ρ ρ' [W,WD,FL,FD,RW,PL,R,RD,CT,CD,TL] (yae ns')) (obs:DOs w ρ' (yae ns') os ns') (hv:os[10]? = some (.vec 1 (.v 5) [] [])) (hx:os[k]? = some (.tup [.r 10,.z zf,.b on,.z zn])) (l1:ρ.l[1]? = some tvs) (ef:zf.ev ρ.z=some fi) (en:zn.ev ρ.z=some ni) (eo:on.ev ρ=some b)
  (F:Fr g L h m) (N:News g L h (ns'++(tl1++(tl2++tl0)))) (du:DV ρ' (yae ns') (.r k) u) (e:ybc sp rows 18 0 σ0 []=yaG told fi b ni):Q u {s with heap:=h,toks:=tk}:=by
 refine yab λGG hGG=>?_
 obtain ⟨o,ho,h1,rfl,_,_,D,_⟩:=obs.atK (i:=10) hv (yad up.a (i:=10) TL rfl)
 cases h1.symm.trans (yad up.l _ l1)
 rw [yar D,List.append_nil] at ho
 obtain ⟨T,hT,rfl⟩:=du
 obtain ⟨oT,eT,dT⟩:=obs.atK hx hT
 obtain ⟨t1,t2,n,rfl⟩:=yqB dT (yad up.a (i:=10) TL rfl) (Z.up up.z _ _ ef) (Z.up up.z _ _ en) (C.up up _ _ eo)
 obtain ⟨tl',P1,P2⟩:=yi9 K.kp kt F N (List.mem_append_left _ (List.mem_of_getElem? eT)) (List.mem_append_left _ (List.mem_of_getElem? ho)) (λq hq=>List.mem_append_right _ hq) hd
 refine hGG ?_;clear hGG GG
 exact K.ret _ tl' _ _ P1 (e▸P2)
set_option backward.match.sparseCases true
noncomputable def gQ (w:World) (cdv:Value) (A:Around) (base:Heap) (l:List Env) (s:Shared) (Q E:Value->Shared->Prop) (g₀:Heap) (L:Addr) (fl:Flow) (s':Shared):Prop:=match fl with
 | .next=>wpAny (MM w) (A.deeper (envOf yaH.qual yaH.sc L 923 cdv)) (execs ylR (envOf yaH.qual yaH.sc L 923 cdv)) (λfl s'=>Q (ybF fl) s') (gCx w cdv A base l s E g₀ L []).E s'
 | fl=>Q (ybF fl) s'
set_option backward.match.sparseCases false
noncomputable def gE (w:World) (cdv:Value) (A:Around) (base:Heap) (l:List Env) (s:Shared) (Q E:Value->Shared->Prop) (g₀:Heap) (L:Addr) (e:Value) (s':Shared):Prop:=
 wpAny (MM w) (A.deeper (envOf yaH.qual yaH.sc L 923 cdv)) (noteFrame e (envOf yaH.qual yaH.sc L 923 cdv)) (λ_ s₂=>wpAny (MM w) (A.deeper (envOf yaH.qual yaH.sc L 923 cdv)) (setFlight e none) (λ_ s₃=>wpAny (MM w) (A.deeper (envOf yaH.qual yaH.sc L 923 cdv)) (handleBy e (envOf yaH.qual yaH.sc L 923 cdv) [yqE]) (gQ w cdv A base l s Q E g₀ L) (gCx w cdv A base l s E g₀ L []).E s₃) (gCx w cdv A base l s E g₀ L []).E s₂) (gCx w cdv A base l s E g₀ L []).E s'
theorem yc4 {k:Int} {x:Str} (h:k∈codes) (e:x=yaj k):(x==yaj k && codes.contains k)=true:=Bool.and_eq_true_iff.mpr ⟨beq_iff_eq.mpr e,List.contains_iff_mem.mpr h⟩
theorem ycE (K:yhX w base env outer A s L g₀ W WD FL FD RW PL R RD CT CD TL rvs sp rows tl2 tl0 Q) (B:Below A base (env::outer) g) (kt:KtsTurn (frs (env::outer)) g₀ g) {G h1:Heap} {e D:Addr} {oD:Obj} {a0':Value} {tk1:Nat} {t:Tok}
  (R1:RaisedX base G (envOf yaH.qual yaH.sc L 923 cdv::env::outer) e (.ref 41) a0' (some D) ((D,oD)::(gl ++ [(TL,listOf tvs.toArray tn)]++(tl1++(tl2++tl0)))) h1) (F1:Fr g L G m) (G1:yb2 W WD FL FD RW PL R RD CT CD w rvs sp σ gl) (htv:(tvs.length:Int)<=100) (hd:DatAll tl1 tvs (told.map yaT)) (off:OwnOff (tl1++(tl2++tl0)) [W,WD,FL,FD,RW,PL,R,RD,CT,CD,TL])
  (nD:∀p∈gl ++ [(TL,listOf tvs.toArray tn)]++(tl1++(tl2++tl0)),p.1≠D) (td:yjl oD f) (hf:f∈codes) (hn:σ.num∈codes) (m1:m (Str.ofString "world")=some (.ref W)) (m2:m (Str.ofString "run")=some (.ref R)) (m3:m (Str.ofString "told")=some (.ref TL)) (m4:m (Str.ofString "at")=some (.int at_ t)) (ee:ybc sp rows 18 0 σ0 []=yaG told f σ.on σ.num) :
  gE w cdv A base (env::outer) s Q E g₀ L (.ref e) {s with heap:=h1,toks:=tk1}:=by
 refine yab λGG hGG=>?_
 obtain ⟨nd,nT⟩:=ypG K.nd
 obtain ⟨tc,v,ndo,hv⟩:=td
 have hk:=ybX G1
 have hl:gl.length=10:=by have:=congrArg List.length hk;rwa [List.length_map] at this
 have ek:yae (gl ++ [(TL,listOf tvs.toArray tn)]) = [W,WD,FL,FD,RW,PL,R,RD,CT,CD,TL]:=by rw [yae,List.map_append,show gl.map (·.1)=_ from hk];rfl
 have fit:(gCx w cdv A base (env::outer) s E g L (tl1++(tl2++tl0))).Fit:=(gat K B _).f
 have off2:∀p∈gl ++ [(TL,listOf tvs.toArray tn)],∀q∈tl1++(tl2++tl0),q.1≠p.1:=λp hp q hq=>off q hq _ (ek▸List.mem_map_of_mem (f:=(·.1)) hp)
 obtain ⟨kvs,hsp,_,_,_,obs⟩:=ycB (ρf:=ycG at_ rows.length σ tvs.length f 0 (yaj f) v rvs tvs) (on:=.v 0) (kn:=[]) (kp:=[]) (w:=w) (tl:=tl1++(tl2++tl0)) nd (λp hp b hb=>off p hp b (List.mem_append_left [TL] hb)) K.lo G1 (by have:=K.r10;have:=K.R.1;omega) (λ_=>congrArg some (congrArg Int.ofNat K.R.1.symm)) (λ_=>rfl) (λ_=>rfl) (λ_=>rfl) (λ_=>rfl) (λ_=>rfl) (λ_=>rfl) (λ_=>rfl) (λ_ _=>fN) (λ_ _ _=>fN)
 have pc1:∀c∈[Mine.C.cod 0 (.v 7),Mine.C.cod 1 (.v 6)],Mine.C.ev (ycG at_ rows.length σ tvs.length f 0 (yaj f) v rvs tvs kvs) c=some true:=fC (congrArg some (yc4 hn rfl)) (fC (congrArg some (yc4 hf rfl)) fN)
 have l1:(ycG at_ rows.length σ tvs.length f 0 (yaj f) v rvs tvs kvs).l[1]? = some tvs:=rfl
 have t1:(ycG at_ rows.length σ tvs.length f 0 (yaj f) v rvs tvs kvs).t[1]? = some (yaj f):=rfl
 have u0':(ycG at_ rows.length σ tvs.length f 0 (yaj f) v rvs tvs kvs).u[0]? = some v:=rfl
 have z0:(ycG at_ rows.length σ tvs.length f 0 (yaj f) v rvs tvs kvs).z[0]? = some at_:=rfl
 have z5:(Z.v 5).ev (ycG at_ rows.length σ tvs.length f 0 (yaj f) v rvs tvs kvs).z=some (tvs.length:Int):=rfl
 have z6:(Z.v 6).ev (ycG at_ rows.length σ tvs.length f 0 (yaj f) v rvs tvs kvs).z=some f:=rfl
 have z7:(Z.v 7).ev (ycG at_ rows.length σ tvs.length f 0 (yaj f) v rvs tvs kvs).z=some σ.num:=rfl
 have b0:(C.v 0).ev (ycG at_ rows.length σ tvs.length f 0 (yaj f) v rvs tvs kvs)=some σ.on:=rfl
 refine hGG ?_;clear hGG GG
 generalize ycG at_ rows.length σ tvs.length f 0 (yaj f) v rvs tvs kvs=ρ at obs pc1 l1 t1 u0' z0 z5 z6 z7 b0
 refine yc2 (c:=gCx w cdv A base (env::outer) s E g L (tl1++(tl2++tl0))) fit rfl R1 F1 (by k_is) (by kernel_rfl) (by kernel_rfl) (by decide) (ek▸K.nd) off2 nD λg' h' T oe oT tk' kt' B' i2 ok=>?_
 have u1:Up ρ ρ (yae gl) (yae (gl ++ [(TL,listOf tvs.toArray tn)])):=yas
 have u2:Up ρ ρ (yae (gl ++ [(TL,listOf tvs.toArray tn)])) (yae (gl ++ [(TL,listOf tvs.toArray tn)] ++ [(D,oD)])):=yas
 have u3:Up ρ ρ (yae (gl ++ [(TL,listOf tvs.toArray tn)] ++ [(D,oD)])) (yae (gl ++ [(TL,listOf tvs.toArray tn)] ++ [(D,oD)] ++ [(e,oe)])):=yas
 have u4:Up ρ ρ (yae (gl ++ [(TL,listOf tvs.toArray tn)] ++ [(D,oD)] ++ [(e,oe)])) (yae (gl ++ [(TL,listOf tvs.toArray tn)] ++ [(D,oD)] ++ [(e,oe)] ++ [(T,oT)])):=yas
 have uu:=(u2.trans u3).trans u4
 have ekk:yae (gl ++ [(TL,listOf tvs.toArray tn)] ++ [(D,oD)] ++ [(e,oe)] ++ [(T,oT)]) = [W,WD,FL,FD,RW,PL,R,RD,CT,CD,TL,D,e,T]:=by rw [yae,List.map_append,List.map_append,List.map_append,show (gl ++ [(TL,listOf tvs.toArray tn)]).map (·.1)=_ from ek];rfl
 have d2:Den ((gCx w cdv A base (env::outer) s E g L (tl1++(tl2++tl0))).cgt e g' (ycg (gCx w cdv A base (env::outer) s E g L (tl1++(tl2++tl0))) e (Str.ofString "wrong") gH.2.2)) ρ gSx (λy=>if y=Str.ofString "wrong" then some (.ref e) else m y) (gl ++ [(TL,listOf tvs.toArray tn)] ++ [(D,oD)] ++ [(e,oe)] ++ [(T,oT)]):=by
  refine ⟨yaC ?_,?_,pc1,(λi x h=>nomatch h),(λx i h=>nomatch h),λi hi=>?_⟩
  ·rw [ekk]
   exact fC ⟨_,if_pos rfl,e,rfl,rfl⟩ (fC ⟨_,(if_neg (by decide)).trans m1,W,rfl,rfl⟩ (fC ⟨_,(if_neg (by decide)).trans m2,R,rfl,rfl⟩ (fC ⟨_,(if_neg (by decide)).trans m3,TL,rfl,rfl⟩ (fC ⟨_,(if_neg (by decide)).trans m4,at_,t,z0,rfl⟩ fN))))
  ·have a1:A2 (DP w ρ (yae (gl ++ [(TL,listOf tvs.toArray tn)] ++ [(D,oD)] ++ [(e,oe)] ++ [(T,oT)]))) (osG (.v 2) (.v 0) (.v 3) (.t 0) (.v 4) [] []) gl:=obs.a2.imp λy p d=>DO.up (u1.trans uu) d
   have a2:=a1.app (.cons (y:=(TL,listOf tvs.toArray tn)) (x:=SO.vec 1 (.v 5) [] []) ⟨l1,by rw [List.append_nil],z5,by omega,.nil,fN⟩ (.cons (y:=(D,oD)) (x:=SO.exd (.t 1) (.u 0)) ⟨⟨_,tc,t1,rfl⟩,u0',ndo⟩ (.cons (y:=(e,oe)) (x:=SO.cgt 11 13) (ok.do (by rw [ekk];rfl) (by rw [ekk];rfl)) (.cons (y:=(T,oT)) (x:=SO.tb) (by obtain ⟨_,_,_,_,_,k6⟩:=ok;exact k6) .nil))))
   have e1:gSx.os=osG (.v 2) (.v 0) (.v 3) (.t 0) (.v 4) [] [] ++ [SO.vec 1 (.v 5) [] [],SO.exd (.t 1) (.u 0),SO.cgt 11 13,SO.tb]:=rfl
   have e2:gl ++ [(TL,listOf tvs.toArray tn)] ++ [(D,oD)] ++ [(e,oe)] ++ [(T,oT)]=gl ++ [(TL,listOf tvs.toArray tn),(D,oD),(e,oe),(T,oT)]:=by simp
   rw [e1]
   refine ya9 ?_
   rw [e2] at a2 ⊢
   exact a2
  ·cases hi;exact ⟨e,by rw [ekk];rfl,rfl⟩
 have at2:((gCx w cdv A base (env::outer) s E g L (tl1++(tl2++tl0))).cgt e g' (ycg (gCx w cdv A base (env::outer) s E g L (tl1++(tl2++tl0))) e (Str.ofString "wrong") gH.2.2)).At (gP false):=⟨yeo fit B',rfl,by have:=K.hdp;show A.depth+1+80<=600;omega,by have:=K.hun;show A.units+3+3 * 80<=3000;omega,λ_=>rfl,nofun⟩
 refine ybf (N:=λ_=>True) (yaR w) 40 (p:=gP false) at2 [gS0] d2 i2 ye4.1 ye4.2 (fC (λρ' ns' m' u h3 tk3 H du=>?_) fN)
 have up:=uu.trans H.up
 rw [ek] at up
 exact ydU (c:=gCx w cdv A base (env::outer) s E g L (tl1++(tl2++tl0))) fit (by kernel_rfl) H.i λh4 m4 tk4 F4 N4=>ye5 K (kt.trans kt') hd up H.obs rfl rfl l1 z6 z7 b0 F4 N4 du ee
end
set_option genSizeOfSpec false
set_option genInjectivity false
inductive yfM (w:World) (base:Heap) (l:List Env) (A:Around) (s:Shared) (L:Addr) (g₀:Heap) (W WD FL FD RW PL R RD CT CD TL:Addr) (rvs:List Value) (sp:yao) (rows:List (Int × St)) (tlx:Led) (n:Nat):Shared->Prop
 | mk {g h:Heap} {tk:Nat} {m:Map} {at_:Int} {σ:yaL} {told:List yb9} {gl tl1:Led} {tvs:List Value} {tn:Nat} {t:Tok} (kt:KtsTurn (frs l) g₀ g) (B:Below A base l g) (F:Fr g L h m) (N:News g L h (gl ++ [(TL,listOf tvs.toArray tn)]++(tl1++tlx))) (G:yb2 W WD FL FD RW PL R RD CT CD w rvs sp σ gl) (hd:DatAll tl1 tvs (told.map yaT))
  (off:OwnOff (tl1++tlx) [W,WD,FL,FD,RW,PL,R,RD,CT,CD,TL]) (M:MOk sp rows.length σ) (a0:0<=at_) (a1:at_<=(rows.length:Int)) (hn:told.length+n=18) (hg:ybc sp rows 18 0 σ0 []=ybc sp rows n at_ σ told)
  (m1:m (Str.ofString "world")=some (.ref W)) (m2:m (Str.ofString "run")=some (.ref R)) (m3:m (Str.ofString "told")=some (.ref TL)) (m4:m (Str.ofString "at")=some (.int at_ t)):yfM w base l A s L g₀ W WD FL FD RW PL R RD CT CD TL rvs sp rows tlx n {s with heap:=h,toks:=tk}
theorem yfN {n:Int} (h:n∈([0,5,1,16,21,30,200,255,8,20]:List Int)):n∈codes:=List.mem_append_left [19] h
section
variable {w:World} {base g g₀ h:Heap} {env:Env} {outer:List Env} {A:Around} {s:Shared} {Q E:Value->Shared->Prop} {L:Addr} {cdv:Value} {m:Map} {tk:Nat}
variable {W WD FL FD RW PL R RD CT CD TL:Addr} {rvs tvs:List Value} {rows:List (Int × St)} {sp:yao} {σ:yaL} {gl tl1 tl2 tl0:Led} {at_ cnt f goal:Int} {tn:Nat} {x1:Str} {uv:Value} {told:List yb9} {n:Nat}
theorem yjc {at_ nr cnt f goal:Int} {kvs:List (Int × Value)}:Vals (ycG at_ nr σ cnt f goal x1 uv rvs tvs kvs) (.v 2) (.v 0) (.v 3) (.t 0) (.v 4) σ:=⟨rfl,rfl,rfl,rfl,rfl⟩
theorem yhM (K:yhX w base env outer A s L g₀ W WD FL FD RW PL R RD CT CD TL rvs sp rows tl2 tl0 Q) (kt:KtsTurn (frs (env::outer)) g₀ g) (B:Below A base (env::outer) g) {σ':yaL} {line:Int} {st:St} {t t':Tok} {P:Flow->Shared->Prop}
  (F:Fr g L h m) (N:News g L h (gl ++ [(TL,listOf tvs.toArray tn)]++(tl1++(tl2++tl0)))) (G:yb2 W WD FL FD RW PL R RD CT CD w rvs sp σ' gl) (hd:DatAll tl1 tvs (told.map yaT)) (off:OwnOff (tl1++(tl2++tl0)) [W,WD,FL,FD,RW,PL,R,RD,CT,CD,TL]) (M:MOk sp rows.length σ) (a0:0<=at_) (a1:at_<(rows.length:Int)) (hr:rows[at_.toNat]? = some (line,st))
  (hn:told.length+(n+1)=18) (hg:ybc sp rows 18 0 σ0 []=ybc sp rows (n+1) at_ σ told) (e1:step sp rows.length at_ line st σ = .go goal σ')
  (m1:m (Str.ofString "world")=some (.ref W)) (m2:m (Str.ofString "run")=some (.ref R)) (m3:m (Str.ofString "told")=some (.ref TL)) (m4:m (Str.ofString "at")=some (.int at_ t)) (m5:m (Str.ofString "goal")=some (.int goal t'))
  (k:∀s',yfM w base (env::outer) A s L g₀ W WD FL FD RW PL R RD CT CD TL rvs sp rows (tl2++tl0) n s'->P .next s') {E':Value->Shared->Prop} :
  wpAny (MM w) (A.deeper (envOf yaH.qual yaH.sc L 923 cdv)) (execs (ycM.drop 1) (envOf yaH.qual yaH.sc L 923 cdv)) P E' {s with heap:=h,toks:=tk}:=by
 have ok:=K.st (List.mem_of_getElem? hr)
 refine yab λGG hGG=>?_
 obtain ⟨M2,b0,b1⟩:=ygl M ok a0 a1 e1
 have htl:tvs.length=told.length:=by rw [hd.length,List.length_map]
 obtain ⟨kvs,hsp,hk,i,d⟩:=yck (cdv:=cdv) (E:=E') (tn:=tn) (at_:=at_) (f:=0) (goal:=goal) (x1:=Str.ofString "") (uv:=.none) (more:=[(Str.ofString "goal",.z (.v 8))]) (pc:=[.cod 0 (.v 7)]) K F N G (by omega) rfl off m1 m2 m3 m4 (λkvs as=>fC ⟨_,m5,goal,t',rfl,rfl⟩ fN) (λkvs=>fC (congrArg some (yc4 (yfN M2.num) rfl)) fN)
 have ek:yae (gl ++ [(TL,listOf tvs.toArray tn)]) = [W,WD,FL,FD,RW,PL,R,RD,CT,CD,TL]:=by rw [yae,List.map_append,show gl.map (·.1)=_ from hk];rfl
 refine hGG ?_;clear hGG GG
 refine yeq (c:=gCx w cdv A base (env::outer) s E' g L (tl1++(tl2++tl0))) 40 (p:=gP true) (gat K B _) (ycM.drop 1) d i ylA yja (fC (λρ' ns' m' h2 tk2 H=>k _ ?_) fN)
 have up:=H.up
 rw [ek] at up
 refine yab λGG hGG=>?_
 obtain @⟨gl',r,tn',ws,eg,hl',G',D⟩:=ybY H.obs up yjc rfl rfl rfl hsp
 obtain ⟨T,rfl,hT⟩:=yjM D
 obtain ⟨oT,eT,dT⟩:=H.obs.atK (i:=11) rfl hT
 have zu:=fun {z:Z} {k:Int} (q:z.ev (ycG at_ rows.length σ' tvs.length 0 goal (Str.ofString "") .none rvs tvs kvs).z=some k)=>Z.up up.z z k q
 obtain @⟨t1,t2,t3,t4,t5,t6,kk,eT'⟩:=ynM dT (zu (z:=.v 0) rfl) (zu (z:=.v 8) rfl) (zu (z:=.v 7) rfl) (zu (z:=.v 3) rfl) (zu (z:=.v 4) rfl) (zu (z:=.v 2) rfl) (C.up up (.v 0) _ rfl)
 rw [eT'] at eT
 have nT:∀b∈[W,WD,FL,FD,RW,PL,R,RD,CT,CD,TL],T≠b:=λb hb q=>by
  obtain ⟨j,hj⟩:=List.getElem?_of_mem hb
  have lt:=(List.getElem?_eq_some_iff.mp hj).1
  have:=(List.getElem?_inj (List.getElem?_eq_some_iff.mp hT).1 H.i.nd).mp (hT.trans (q▸(yad up.a _ hj).symm))
  have:j<11:=lt
  omega
 have loc:=fun {x:Str} {y:SV} (e:(gM (.v 8) [(Str.ofString "goal",.z (.v 8))]).lookup x=some y)=>ya3 (e▸H.loc x)
 obtain ⟨v1,w1,a',ha1,rfl⟩:=loc (x:=Str.ofString "world") rfl
 cases (yad up.a (i:=0) W rfl).symm.trans ha1
 obtain ⟨v2,w2,a',ha2,rfl⟩:=loc (x:=Str.ofString "run") rfl
 cases (yad up.a (i:=6) R rfl).symm.trans ha2
 obtain ⟨v3,w3,a',ha3,rfl⟩:=loc (x:=Str.ofString "told") rfl
 cases (yad up.a (i:=10) TL rfl).symm.trans ha3
 obtain ⟨v4,w4,k4,t4',hk4,rfl⟩:=loc (x:=Str.ofString "at") rfl
 cases hk4.symm.trans (zu (z:=.v 8) rfl)
 refine hGG ?_;clear hGG GG
 refine .mk (gl:=gl') (tn:=tn') (tvs:=tvs ++ [.ref T]) (tl1:=(T,yal [.int at_ t1,.int goal t2,.int σ'.num t3,.int σ'.el t4,.int σ'.fa t5,.bool σ'.on,.int σ'.hnd t6] kk)::tl1) (told:=told ++ [(at_,goal,σ'.num,σ'.el,σ'.fa,σ'.on,σ'.hnd)]) (σ:=σ') (at_:=goal) kt B H.i.F (λq hq=>H.i.N q ?_) G' ?_ (fC nT off) M2 b0 b1 ?_ (hg.trans (ygm a1 hr e1)) w1 w2 w3 w4
 ·rcases List.mem_append.mp hq with hq|hq
  ·refine List.mem_append_left _ (eg▸?_)
   rcases List.mem_append.mp hq with hq|hq
   ·exact List.mem_append_left _ hq
   ·exact List.mem_singleton.mp hq▸List.mem_append_right _ (.head _)
  rcases List.mem_cons.mp hq with rfl|hq
  ·exact List.mem_append_left _ (List.mem_of_getElem? eT)
  ·exact List.mem_append_right _ hq
 ·rw [List.map_append]
  exact (hd.mono λq hq=>.tail _ hq).append (.one (.tuple (.head _) (.cons (.int _ _) (.cons (.int _ _) (.cons (.int _ _) (.cons (.int _ _) (.cons (.int _ _) (.cons (.bool _) (.cons (.int _ _) .nil)))))))))
 ·rw [List.length_append,List.length_singleton];omega
set_option backward.match.sparseCases true
noncomputable def gT (w:World) (cdv:Value) (A:Around) (base:Heap) (l:List Env) (s:Shared) (Q E:Value->Shared->Prop) (g₀:Heap) (L:Addr) (fl:Flow) (s':Shared):Prop:=match fl with
 | .next=>wpAny (MM w) (A.deeper (envOf yaH.qual yaH.sc L 923 cdv)) (execs [] (envOf yaH.qual yaH.sc L 923 cdv)) (gQ w cdv A base l s Q E g₀ L) (gCx w cdv A base l s E g₀ L []).E s'
 | fl=>gQ w cdv A base l s Q E g₀ L fl s'
noncomputable def gW (w:World) (cdv:Value) (A:Around) (base:Heap) (l:List Env) (s:Shared) (Q E:Value->Shared->Prop) (g₀:Heap) (L:Addr) (fl:Flow) (s':Shared):Prop:=match fl with
 | .next=>wpAny (MM w) (A.deeper (envOf yaH.qual yaH.sc L 923 cdv)) (execs ycN (envOf yaH.qual yaH.sc L 923 cdv)) (gT w cdv A base l s Q E g₀ L) (gE w cdv A base l s Q E g₀ L) s'
 | fl=>gT w cdv A base l s Q E g₀ L fl s'
set_option backward.match.sparseCases false
theorem yhN (K:yhX w base env outer A s L g₀ W WD FL FD RW PL R RD CT CD TL rvs sp rows tl2 tl0 Q) (kt:KtsTurn (frs (env::outer)) g₀ g) (B:Below A base (env::outer) g) {t:Tok} (F:Fr g L h m) (N:News g L h (gl ++ [(TL,listOf tvs.toArray tn)]++(tl1++(tl2++tl0)))) (G:yb2 W WD FL FD RW PL R RD CT CD w rvs sp σ gl) (hd:DatAll tl1 tvs (told.map yaT))
  (off:OwnOff (tl1++(tl2++tl0)) [W,WD,FL,FD,RW,PL,R,RD,CT,CD,TL]) (M:MOk sp rows.length σ) (htl:tvs.length<=18) (m1:m (Str.ofString "world")=some (.ref W)) (m2:m (Str.ofString "run")=some (.ref R)) (m3:m (Str.ofString "told")=some (.ref TL)) (m4:m (Str.ofString "at")=some (.int at_ t)) (ee:ybc sp rows 18 0 σ0 []=yaG told 0 σ.on σ.num) :
  wpAny (MM w) (A.deeper (envOf yaH.qual yaH.sc L 923 cdv)) (execs ylR (envOf yaH.qual yaH.sc L 923 cdv)) (λfl s'=>Q (ybF fl) s') E {s with heap:=h,toks:=tk}:=by
 refine yab λGG hGG=>?_
 obtain ⟨kvs,hsp,hk,i,d⟩:=yck (cdv:=cdv) (E:=E) (tn:=tn) (at_:=at_) (f:=0) (goal:=0) (x1:=Str.ofString "") (uv:=.none) (more:=[]) (pc:=[.cod 0 (.v 7)]) K F N G (by omega) rfl off m1 m2 m3 m4 (λkvs as=>fN) (λkvs=>fC (congrArg some (yc4 (yfN M.num) rfl)) fN)
 have ek:yae (gl ++ [(TL,listOf tvs.toArray tn)]) = [W,WD,FL,FD,RW,PL,R,RD,CT,CD,TL]:=by rw [yae,List.map_append,show gl.map (·.1)=_ from hk];rfl
 refine hGG ?_;clear hGG GG
 refine yeq (c:=gCx w cdv A base (env::outer) s E g L (tl1++(tl2++tl0))) 40 (p:=gP true) (gat K B _) ylR d i yjR.1 yjR.2 (fC (λρ' ns' m' u h2 tk2 H du=>?_) fN)
 have up:=H.up
 rw [ek] at up
 exact ye5 K kt hd up H.obs rfl rfl rfl rfl rfl rfl H.i.F H.i.N du ee
theorem ycF (K:yhX w base env outer A s L g₀ W WD FL FD RW PL R RD CT CD TL rvs sp rows tl2 tl0 Q) (kt:KtsTurn (frs (env::outer)) g₀ g) (B:Below A base (env::outer) g) {t:Tok} (F:Fr g L h m) (N:News g L h (gl ++ [(TL,listOf tvs.toArray tn)]++(tl1++(tl2++tl0)))) (G:yb2 W WD FL FD RW PL R RD CT CD w rvs sp σ gl) (hd:DatAll tl1 tvs (told.map yaT))
  (off:OwnOff (tl1++(tl2++tl0)) [W,WD,FL,FD,RW,PL,R,RD,CT,CD,TL]) (M:MOk sp rows.length σ) (htl:tvs.length<=18) (m1:m (Str.ofString "world")=some (.ref W)) (m2:m (Str.ofString "run")=some (.ref R)) (m3:m (Str.ofString "told")=some (.ref TL)) (m4:m (Str.ofString "at")=some (.int at_ t))
  {pc:List C} {X:Shared->Prop} (ht:xT (run YY 40) (gP true) ycL (gS [] pc)=one false (gS [] pc)) (pcs:∀kvs,∀C∈pc,C.ev (ycG at_ rows.length σ tvs.length 19 0 (Str.ofString "") .none rvs tvs kvs)=some true)
  (hr:((xSs (run YY 40) (gP true) ycN (gS [] pc)).map yaD = [.nx (gM (.v 0) []) (gO []) pc]/\yaI (xSs (run YY 40) (gP true) ycN (gS [] pc))=true/\ybc sp rows 18 0 σ0 []=yaG told 0 σ.on σ.num)∨(pc=gPN/\ybc sp rows 18 0 σ0 []=yaG told 19 σ.on σ.num)) :
  wpAny (MM w) (A.deeper (envOf yaH.qual yaH.sc L 923 cdv)) (PySem.isTrue ycL (envOf yaH.qual yaH.sc L 923 cdv) (eval ycL (envOf yaH.qual yaH.sc L 923 cdv))) (λb s₂=>WhlIf b (X s₂) (gW w cdv A base (env::outer) s Q E g₀ L .next s₂)) (gE w cdv A base (env::outer) s Q E g₀ L) {s with heap:=h,toks:=tk}:=by
 refine yab λGG hGG=>?_
 obtain ⟨kvs,hsp,hk,i,d⟩:=yck (cdv:=cdv) (E:=E) (tn:=tn) (at_:=at_) (f:=19) (goal:=0) (x1:=Str.ofString "") (uv:=.none) (more:=[]) (pc:=pc) K F N G (by omega) rfl off m1 m2 m3 m4 (λkvs as=>fN) pcs
 have ek:yae (gl ++ [(TL,listOf tvs.toArray tn)]) = [W,WD,FL,FD,RW,PL,R,RD,CT,CD,TL]:=by rw [yae,List.map_append,show gl.map (·.1)=_ from hk];rfl
 have at0:=gat (cdv:=cdv) (E:=E) K B (tl1++(tl2++tl0))
 refine hGG ?_;clear hGG GG
 refine yiC (c:=(gCx w cdv A base (env::outer) s E g L (tl1++(tl2++tl0))).wE (gE w cdv A base (env::outer) s Q E g₀ L)) (yaR w) 40 (p:=gP true) at0.wE d.wE i.wE ht λρ1 ns1 h1 tk1 up1 d1 i1=>?_
 rw [ek] at up1
 have loc:∀{ρ':Rho} {ns':Led} {m':Map},Up (ycG at_ rows.length σ tvs.length 19 0 (Str.ofString "") .none rvs tvs kvs) ρ' [W,WD,FL,FD,RW,PL,R,RD,CT,CD,TL] (yae ns')->(∀x,DQ ρ' (yae ns') ((gM (.v 0) []).lookup x) (m' x))->∃t',m' (Str.ofString "world")=some (.ref W)/\m' (Str.ofString "run")=some (.ref R)/\m' (Str.ofString "told")=some (.ref TL)/\m' (Str.ofString "at")=some (.int at_ t'):=by
  intro ρ' ns' m' up H
  have loc:=fun {x:Str} {y:SV} (e:(gM (.v 0) []).lookup x=some y)=>ya3 (e▸H x)
  refine yab λGG hGG=>?_
  obtain ⟨v1,w1,a',ha1,rfl⟩:=loc (x:=Str.ofString "world") rfl
  cases (yad up.a (i:=0) W rfl).symm.trans ha1
  obtain ⟨v2,w2,a',ha2,rfl⟩:=loc (x:=Str.ofString "run") rfl
  cases (yad up.a (i:=6) R rfl).symm.trans ha2
  obtain ⟨v3,w3,a',ha3,rfl⟩:=loc (x:=Str.ofString "told") rfl
  cases (yad up.a (i:=10) TL rfl).symm.trans ha3
  obtain ⟨v4,w4,k4,t4',hk4,rfl⟩:=loc (x:=Str.ofString "at") rfl
  cases hk4.symm.trans (Z.up up.z (.v 0) _ rfl)
  refine hGG ?_;clear hGG GG
  exact ⟨_,w1,w2,w3,w4⟩
 rcases hr with ⟨hv,hb,ee⟩|⟨rfl,ee⟩
 ·refine ybf (c:=(gCx w cdv A base (env::outer) s E g L (tl1++(tl2++tl0))).wE (gE w cdv A base (env::outer) s Q E g₀ L)) (N:=λ_=>True) (yaR w) 40 (p:=gP true) at0.wE ycN d1 i1 hv hb (fC (λρ2 ns2 m2' h2 tk2 H=>?_) fN)
  have up:=up1.trans H.up
  refine yab λGG hGG=>?_
  obtain @⟨gl',r,tn',ws,eg,hl',G',D⟩:=ybY (app:=[]) (rest:=[]) (by have:=H.obs;rwa [<-List.append_nil (gO [])] at this) up yjc rfl rfl rfl hsp
  cases yar D
  rw [List.append_nil] at eg
  obtain ⟨t',w1,w2,w3,w4⟩:=loc up H.loc
  refine hGG ?_;clear hGG GG
  refine wpAny_execs_nil (yhN (tn:=tn') K kt B H.i.F (λq hq=>H.i.N q ?_) G' hd off M htl w1 w2 w3 w4 ee)
  rcases List.mem_append.mp hq with hq|hq
  ·refine List.mem_append_left _ (eg▸?_)
   rcases List.mem_append.mp hq with hq|hq
   ·exact List.mem_append_left _ hq
   ·exact List.mem_singleton.mp hq▸List.mem_append_right _ (.head _)
  ·exact List.mem_append_right _ hq
 ·refine ybf (c:=(gCx w cdv A base (env::outer) s E g L (tl1++(tl2++tl0))).wE (gE w cdv A base (env::outer) s Q E g₀ L)) (N:=λ_=>True) (yaR w) 40 (p:=gP true) at0.wE ycN d1 i1 yjQ.1 yjQ.2 (fC (λρ2 ns2 m2' e D T oe oD a9 G9 h2 tk2 X=>?_) fN)
  have up:=up1.trans X.up
  refine yab λGG hGG=>?_
  cases (yaw X.i1).symm.trans X.hT
  obtain @⟨gl',r,tn',ws,eg,hl',G',Dv⟩:=ybY (app:=[]) X.obs up yjc rfl rfl rfl hsp
  cases yar Dv
  rw [List.append_nil] at eg
  obtain ⟨t',w1,w2,w3,w4⟩:=loc up X.loc
  have eg2:ns2=(gl' ++ [(TL,listOf tvs.toArray tn')])++r:=by rw [eg,List.append_assoc];rfl
  have hl2:(gl' ++ [(TL,listOf tvs.toArray tn')]).length=11:=by rw [List.length_append,hl'];rfl
  have fe:=yaS (tl:=tl1++(tl2++tl0)) eg2 (by omega) X.i1 X.nd X.off
  have fD:=yaS (tl:=tl1++(tl2++tl0)) eg2 (by omega) X.i2 X.nd X.off
  refine hGG ?_;clear hGG GG
  exact ycE K B kt (X.R.sub (fC (.head _) (λp hp=>.tail _ (ycj ⟨ybo eg2 p hp,fe p hp,fD p hp,fe p hp⟩)))) X.F G' (by omega) hd off fD (ydr (w:=w) (f:=19) (X.obs.all 12 _ _ rfl X.i2) rfl (.inl rfl)) (by decide) (yfN M.num) w1 w2 w3 w4 ee
end
section
variable {w:World} {base g g₀ h:Heap} {env:Env} {outer:List Env} {A:Around} {s:Shared} {Q E:Value->Shared->Prop} {L:Addr} {cdv:Value} {m:Map} {tk:Nat}
variable {W WD FL FD RW PL R RD CT CD TL:Addr} {rvs tvs:List Value} {rows:List (Int × St)} {sp:yao} {σ:yaL} {gl tl1 tl2 tl0:Led} {at_ cnt f goal:Int} {tn:Nat} {x1:Str} {uv:Value} {told:List yb9} {n:Nat}
theorem yhO (K:yhX w base env outer A s L g₀ W WD FL FD RW PL R RD CT CD TL rvs sp rows tl2 tl0 Q) (kt:KtsTurn (frs (env::outer)) g₀ g) (B:Below A base (env::outer) g) {t:Tok} (F:Fr g L h m) (N:News g L h (gl ++ [(TL,listOf tvs.toArray tn)]++(tl1++(tl2++tl0)))) (G:yb2 W WD FL FD RW PL R RD CT CD w rvs sp σ gl) (hd:DatAll tl1 tvs (told.map yaT))
  (off:OwnOff (tl1++(tl2++tl0)) [W,WD,FL,FD,RW,PL,R,RD,CT,CD,TL]) (M:MOk sp rows.length σ) (a0:0<=at_) (a1:at_<(rows.length:Int)) (hn:told.length+(n+1)=18) (hg:ybc sp rows 18 0 σ0 []=ybc sp rows (n+1) at_ σ told) (m1:m (Str.ofString "world")=some (.ref W)) (m2:m (Str.ofString "run")=some (.ref R)) (m3:m (Str.ofString "told")=some (.ref TL)) (m4:m (Str.ofString "at")=some (.int at_ t)) {X:Shared->Prop} :
  wpAny (MM w) (A.deeper (envOf yaH.qual yaH.sc L 923 cdv)) (PySem.isTrue ycL (envOf yaH.qual yaH.sc L 923 cdv) (eval ycL (envOf yaH.qual yaH.sc L 923 cdv))) (λb s₂=>WhlIf b (wpAny (MM w) (A.deeper (envOf yaH.qual yaH.sc L 923 cdv)) (execs ycM (envOf yaH.qual yaH.sc L 923 cdv)) (yaW (yfM w base (env::outer) A s L g₀ W WD FL FD RW PL R RD CT CD TL rvs sp rows (tl2++tl0)) (n+1) (gW w cdv A base (env::outer) s Q E g₀ L)) (gE w cdv A base (env::outer) s Q E g₀ L) s₂) (X s₂)) (gE w cdv A base (env::outer) s Q E g₀ L) {s with heap:=h,toks:=tk}:=by
 have htl:tvs.length=told.length:=by rw [hd.length,List.length_map]
 refine yab λGG hGG=>?_
 obtain ⟨kvs,hsp,hk,i,d⟩:=yck (cdv:=cdv) (E:=E) (tn:=tn) (at_:=at_) (f:=0) (goal:=0) (x1:=Str.ofString "") (uv:=.none) (more:=[]) (pc:=[.lt (.v 0) (.v 1),.lt (.v 5) (.n 18),.cod 0 (.v 7)]) K F N G (by omega) rfl off m1 m2 m3 m4 (λkvs as=>fN)
  (λkvs=>fC (yi0 rfl rfl a1) (fC (yi0 rfl rfl (by omega)) (fC (congrArg some (yc4 (yfN M.num) rfl)) fN)))
 have ek:yae (gl ++ [(TL,listOf tvs.toArray tn)]) = [W,WD,FL,FD,RW,PL,R,RD,CT,CD,TL]:=by rw [yae,List.map_append,show gl.map (·.1)=_ from hk];rfl
 have at0:=gat (cdv:=cdv) (E:=E) K B (tl1++(tl2++tl0))
 refine hGG ?_;clear hGG GG
 refine yiC (c:=(gCx w cdv A base (env::outer) s E g L (tl1++(tl2++tl0))).wE (gE w cdv A base (env::outer) s Q E g₀ L)) (yaR w) 40 (p:=gP true) at0.wE d.wE i.wE (ylz rfl) λρ1 ns1 h1 tk1 up1 d1 i1=>?_
 rw [ek] at up1
 refine yab λGG hGG=>?_
 obtain @⟨gl',r,tn',ws,eg,hl',G',D⟩:=ybY (app:=[]) (rest:=[]) (by have:=d1.obs;rwa [show (gS [] [.lt (.v 0) (.v 1),.lt (.v 5) (.n 18),.cod 0 (.v 7)]).os=gO [] ++ [] from (List.append_nil _).symm] at this) up1 yjc rfl rfl rfl hsp
 cases yar D
 rw [List.append_nil] at eg
 obtain ⟨⟨line,st⟩,hrow⟩:∃x,rows[at_.toNat]? = some x:=⟨_,List.getElem?_eq_getElem (by omega)⟩
 have ok:=K.st (List.mem_of_getElem? hrow)
 obtain ⟨nd,nT⟩:=ypG K.nd
 have N1:News g L h1 (gl'++((TL,listOf tvs.toArray tn')::(tl1++(tl2++tl0)))):=λq hq=>i1.N q (by
  rcases List.mem_append.mp hq with hq|hq
  ·exact List.mem_append_left _ (eg▸List.mem_append_left _ hq)
  rcases List.mem_cons.mp hq with rfl|hq
  ·exact List.mem_append_left _ (eg▸List.mem_append_right _ (.head _))
  ·exact List.mem_append_right _ hq)
 have fx:∀{gq:Heap} {hh:Heap} {mq:Map} {glq:Led},News gq L hh (glq++((TL,listOf tvs.toArray tn')::(tl1++(tl2++tl0))))->News gq L hh (glq ++ [(TL,listOf tvs.toArray tn')]++(tl1++(tl2++tl0))):=λz=>by rw [List.append_assoc];exact z
 obtain ⟨p1,p2,p3,p4,p5,p6,hb⟩:=yn0
 refine hGG ?_;clear hGG GG
 show wpAny _ _ (execs ycM _) _ _ _
 rw [hb]
 refine wpAny_execs_cons (wpAny_Assign_Name (ybg (c:=gCx w cdv A base (env::outer) s E g L (tl1++(tl2++tl0))) (b:=916) (us:=[.ref R,.int at_ t]) at0 i1.F (by k_is) (by k_is) (by kernel_rfl) (.cons ⟨m2,by kernel_rfl⟩ (.cons ⟨m4,by kernel_rfl⟩ .nil)) nofun ?_) (yaV rfl))
 refine yab λGG hGG=>?_
 obtain ⟨mean,mg,mb,TB⟩:=K.TB
 refine hGG ?_;clear hGG GG
 refine yly at0.f.B i1.F N1 K.XB TB at0.f.fn (Around.frames_deeper at0.f.B.stack) K.hh (by have:=K.hdp;show A.depth+1<=450;omega) (by have:=K.hun;show A.units+3<=1700;omega) nd (fC (λb hb=>(nT b hb).symm) (λp hp b hb=>off p hp b (List.mem_append_left [TL] hb))) K.lo G' (K.R.mono λq hq=>.tail _ (List.mem_append_right _ hq)) rfl (by have:=K.r10;omega) M K.l5 K.l0 a0 hrow ok
  (λgoal σ' gl2 g2 u h2 tk2 e2 G2 kt2 F2 N2 B2=>?_) λf σ' gl2 e D oD a9 G₀ h2 tk2 e2 G2 told2 ne2 F2 R2=>?_
 ·refine storeX_L F2 N2 (λh3 F3 N3=>?_) at0.f.fn (by kernel_rfl)
  exact yhM (tn:=tn') K (kt.trans kt2) B2 F3 (fx (mq:=m) N3) G2 hd off M a0 a1 hrow hn hg e2 ((if_neg (by decide)).trans m1) ((if_neg (by decide)).trans m2) ((if_neg (by decide)).trans m3) ((if_neg (by decide)).trans m4) (if_pos rfl) λs' h=>⟨n,Nat.lt_succ_self _,h⟩
 ·obtain ⟨hmf,hmn⟩:=yig M ok e2
  refine ycE (tn:=tn') K B kt (R2.sub λq hq=>?_) F2 G2 (by omega) hd off (λp hp=>?_) told2 hmf (yfN hmn) m1 m2 m3 m4 (hg.trans (ybA a1 hrow e2))
  ·rwa [List.append_assoc] at hq
  ·rw [List.append_assoc] at hp
   rcases List.mem_append.mp hp with hp|hp
   ·have hm:p.1∈yae gl':=ybX G'▸ybX G2▸List.mem_map_of_mem hp
    obtain ⟨p',hp',e'⟩:=List.mem_map.mp hm
    exact e'▸ne2 p' (List.mem_append_left _ hp')
   ·exact ne2 p (List.mem_append_right _ hp)
theorem yhP (K:yhX w base env outer A s L g₀ W WD FL FD RW PL R RD CT CD TL rvs sp rows tl2 tl0 Q) {s':Shared} (hI:yfM w base (env::outer) A s L g₀ W WD FL FD RW PL R RD CT CD TL rvs sp rows (tl2++tl0) n s') :
  wpAny (MM w) (A.deeper (envOf yaH.qual yaH.sc L 923 cdv)) (PySem.isTrue ycL (envOf yaH.qual yaH.sc L 923 cdv) (eval ycL (envOf yaH.qual yaH.sc L 923 cdv))) (λb s₂=>WhlIf b (wpAny (MM w) (A.deeper (envOf yaH.qual yaH.sc L 923 cdv)) (execs ycM (envOf yaH.qual yaH.sc L 923 cdv)) (yaW (yfM w base (env::outer) A s L g₀ W WD FL FD RW PL R RD CT CD TL rvs sp rows (tl2++tl0)) n (gW w cdv A base (env::outer) s Q E g₀ L)) (gE w cdv A base (env::outer) s Q E g₀ L) s₂) (gW w cdv A base (env::outer) s Q E g₀ L .next s₂)) (gE w cdv A base (env::outer) s Q E g₀ L) s':=by
 refine yab λGG hGG=>?_
 obtain @⟨g,h,tk,m,at_,σ,told,gl,tl1,tvs,tn,t,kt,B,F,N,G,hd,off,M,a0,a1,hn,hg,m1,m2,m3,m4⟩:=hI
 have htl:tvs.length=told.length:=by rw [hd.length,List.length_map]
 have nl:∀{x y:Int},¬x<y->y<=x:=Int.not_lt.mp
 have c_not:∀{ρ:Rho} {a b:Z} {x y:Int},a.ev ρ.z=some x->b.ev ρ.z=some y->¬x<y->(C.not (.lt a b)).ev ρ=some true:=fun {ρ a b x y} ha hb h=>by
  show (two _ (a.ev ρ.z) (b.ev ρ.z)).map _=_
  rw [ha,hb];exact congrArg (λx=>some !x) (decide_eq_false h)
 have c_le:∀{ρ:Rho} {a b:Z} {x y:Int},a.ev ρ.z=some x->b.ev ρ.z=some y->x<=y->(C.le a b).ev ρ=some true:=fun {ρ a b x y} ha hb h=>by
  show two _ (a.ev ρ.z) (b.ev ρ.z)=_
  rw [ha,hb];exact congrArg some (decide_eq_true h)
 have cd:∀{kvs},(Mine.C.cod 0 (.v 7)).ev (ycG at_ rows.length σ tvs.length 19 0 (Str.ofString "") .none rvs tvs kvs)=some true:=congrArg some (yc4 (yfN M.num) rfl)
 refine hGG ?_;clear hGG GG
 by_cases hlt:at_<(rows.length:Int)
 ·rcases n with _|n
  ·refine ycF K kt B F N G hd off M (by omega) m1 m2 m3 m4 (yhL _ (.inl rfl)) (λkvs=>fC (yi0 rfl rfl hlt) (fC (c_not rfl rfl (by omega)) (fC ?_ (fC cd fN)))) (.inl ⟨(yjb (.inl rfl)).1,(yjb (.inl rfl)).2,ydv hg (.inl rfl) (if_neg (by omega))⟩)
   exact congrArg (λx=>some !x) (decide_eq_false (Int.not_le.mpr hlt))
  ·exact yhO K kt B F N G hd off M a0 hlt hn hg m1 m2 m3 m4
 ·have hle:=nl hlt
  generalize hon:(σ.on)=x9
  rcases x9 with _|_
  ·exact ycF K kt B F N G hd off M (by omega) m1 m2 m3 m4 (yhL _ (.inr (.inr rfl))) (λkvs=>fC (c_not rfl rfl hlt) (fC (c_le rfl rfl hle) (fC (congrArg (λx=>some !x) hon) (fC cd fN)))) (.inl ⟨(yjb (.inr rfl)).1,(yjb (.inr rfl)).2,ydv hg (.inr hle) (if_neg λz=>by rw [hon] at z;cases z.2)⟩)
  ·exact ycF K kt B F N G hd off M (by omega) m1 m2 m3 m4 (yhL _ (.inr (.inl rfl))) (λkvs=>fC (c_not rfl rfl hlt) (fC (c_le rfl rfl hle) (fC (congrArg some hon) (fC cd fN)))) (.inr ⟨rfl,ydv hg (.inr hle) (if_pos ⟨hle,hon⟩)⟩)
end
set_option backward.match.sparseCases true
section
variable {ρ:Rho} {as:List Addr}
theorem ypH {α β:Type} {P:α->β->Prop} {xs:List α} {ys:List β} (h:A2 P xs ys) {x:α} (hx:x∈xs):∃y∈ys,P x y:=by
 induction h with
 | nil=>cases hx
 | cons p _ ih=>
  rcases List.mem_cons.mp hx with rfl|hx
  ·exact ⟨_,.head _,p⟩
  ·obtain ⟨y,hy,q⟩:=ih hx;exact ⟨y,.tail _ hy,q⟩
theorem ycl {ex:Bool} {fs fs':List (Str × SV)} {o:Obj} (h:yfm ρ as ex fs o) (hs:∀p∈fs',p∈fs):yfm ρ as false fs' o:=by
 obtain @⟨es,n,l,e,H,_,D⟩:=h
 have:∃l',(∀p∈l',p∈l)/\DFs ρ as fs' l':=by
  induction fs' with
  | nil=>exact ⟨[],fN,.nil⟩
  | cons x r ih=>
   obtain ⟨l',h1,h2⟩:=ih λp hp=>hs p (.tail _ hp)
   obtain ⟨y,hy,q⟩:=ypH D (hs x (.head _))
   exact ⟨y::l',fC hy h1,.cons q h2⟩
 obtain ⟨l',h1,h2⟩:=this
 exact ⟨e,⟨H.len,H.no,λp hp=>H.all p (h1 p hp)⟩,nofun,h2⟩
noncomputable def yeu:SV->Bool
 | .z (.n _)=>true
 | .s _=>true
 | .b (.b _)=>true
 | _=>false
theorem yjd {ρ':Rho} {as':List Addr} {x:SV} {v:Value} (h:yeu x=true) (d:DV ρ as x v):DV ρ' as' x v:=by
 unfold yeu at h
 split at h
 ·obtain ⟨k,t,e,rfl⟩:=d;cases e;exact ⟨_,t,rfl,rfl⟩
 ·exact d
 ·obtain ⟨k,e,rfl⟩:=d;cases e;exact ⟨_,rfl,rfl⟩
 ·cases h
theorem yhQ {ρ':Rho} {as':List Addr} {fs:List (Str × SV)} {o:Obj} (h:(fs.all λp=>yeu p.2)=true) (d:yfm ρ as false fs o):yfm ρ' as' false fs o:=by
 refine yab λGG hGG=>?_
 obtain @⟨es,n,l,e,H,O,D⟩:=d
 refine hGG ?_;clear hGG GG
 refine ⟨e,H,O,?_⟩
 clear H O e
 induction D with
 | nil=>exact .nil
 | cons p _ ih=>
  have h:=yag h
  exact .cons ⟨p.1,yjd h.1 p.2⟩ (ih h.2)
theorem yfO {ks:List Addr} (nd:ks.Nodup) {ix:List Nat} {bs:List Addr} (h:A2 (λi b=>ks[i]? = some b) ix bs) (hi:ix.Nodup):bs.Nodup:=by
 induction h with
 | nil=>exact List.nodup_nil
 | @cons i b ix bs e h ih=>
  have hi:=List.nodup_cons.mp hi
  refine List.nodup_cons.mpr ⟨λhb=>?_,ih hi.2⟩
  have back:∀{ix:List Nat} {bs:List Addr},A2 (λi b=>ks[i]? = some b) ix bs->∀{b:Addr},b∈bs->∃j∈ix,ks[j]? = some b:=by
   intro ix bs h
   induction h with
   | nil=>exact λhb=>nomatch hb
   | cons e _ ih=>
    intro b hb
    rcases List.mem_cons.mp hb with rfl|hb
    ·exact ⟨_,.head _,e⟩
    ·obtain ⟨j,hj,e'⟩:=ih hb;exact ⟨j,.tail _ hj,e'⟩
  obtain ⟨j,hj,e'⟩:=back h hb
  have:=(List.getElem?_inj (List.getElem?_eq_some_iff.mp e).1 nd).mp (e.trans e'.symm)
  exact hi.1 (this▸hj)
end
noncomputable def gF:List (Str × SV):=[(Str.ofString "bits",.z (.n 16)),(Str.ofString "digits",.z (.n 9)),(Str.ofString "most_steps",.z (.n 2000)),(Str.ofString "most_depth",.z (.n 20)),(Str.ofString "room",.z (.n 2000)),(Str.ofString "names",.r 2),(Str.ofString "arrays",.r 3),(Str.ofString "kinds",.r 4),(Str.ofString "fns",.r 5),(Str.ofString "out",.r 6),(Str.ofString "row",.s (Str.ofString "")),(Str.ofString "inputs",.r 7),(Str.ofString "files",.r 8),(Str.ofString "open",.r 9),(Str.ofString "fields",.r 10),(Str.ofString "data",.r 11),(Str.ofString "spot",.z (.n 0)),(Str.ofString "base",.z (.n 0)),(Str.ofString "seed",.z (.n 1)),(Str.ofString "steps",.z (.n 0)),(Str.ofString "depth",.z (.n 0)),(Str.ofString "handler",.z (.n 0)),(Str.ofString "is_handling",.b (.b false)),(Str.ofString "error_line",.z (.n 0)),(Str.ofString "error_code",.s (Str.ofString "")),(Str.ofString "is_traced",.b (.b false)),(Str.ofString "traces",.r 12),(Str.ofString "common",.r 13)]
noncomputable def gW4:List (Str × SV):=[(Str.ofString "handler",.z (.n 0)),(Str.ofString "is_handling",.b (.b false)),(Str.ofString "error_line",.z (.n 0)),(Str.ofString "error_code",.s (Str.ofString ""))]
noncomputable def gW6:List (Str × SV):=gW4 ++ [(Str.ofString "bits",.z (.n 16)),(Str.ofString "digits",.z (.n 9))]
noncomputable def gO1:List SO:=[.inst 673 1,.dct false gW6,.inst 278 3,.dct false [(Str.ofString "rows",.r 4),(Str.ofString "places",.r 5)],.vec 0 (.v 0) [] [],.map 0 []]
noncomputable def gR:List (Str × SV):=[(Str.ofString "world",.r 0),(Str.ofString "flat",.r 2),(Str.ofString "answers",.r 6),(Str.ofString "bits",.z (.n 16)),(Str.ofString "digits",.z (.n 9)),(Str.ofString "control",.r 10),(Str.ofString "asked",.r 12)]
noncomputable def gO2:List SO:=[.dct true gR,.inst 877 7,.dct true [(Str.ofString "pile",.r 11),(Str.ofString "most",.z (.n 20)),(Str.ofString "failed_at",.z (.n (-1)))],.inst 208 9,.lst [],.lst []]
noncomputable def gM1:List (Str × SV):=[(Str.ofString "program",.q 0),(Str.ofString "world",.r 0)]
noncomputable def gM3:List (Str × SV):=[(Str.ofString "program",.q 0),(Str.ofString "world",.r 0),(Str.ofString "run",.r 8),(Str.ofString "at",.z (.n 0)),(Str.ofString "told",.r 13)]
theorem ye6:(xSs (run YY 40) (gP true) (yaH.body.take 1) ⟨[(Str.ofString "program",.q 0)],[],[],[],[],none⟩).map yaD = [.nx [(Str.ofString "program",.q 0),(Str.ofString "world",.r 1)] (.dct true gF::.inst 673 0::[.emp,.emp,.emp,.emp,.lst [],.lst [],.emp,.emp,.emp,.lst [],.lst [],.lst []]) []]/\yaI (xSs (run YY 40) (gP true) (yaH.body.take 1) ⟨[(Str.ofString "program",.q 0)],[],[],[],[],none⟩)=true:=⟨by kernel_rfl,by kernel_rfl⟩
theorem yjS:ybR YY (run YY 40) (gP true) 877 [.r 0,.r 2,.r 6] ⟨gM1,[],gO1 ++ [.dct true []],[],[],none⟩=one (.r 8) ⟨gM1,[],gO1 ++ [.dct true []]++gO2,[],[],none⟩:=by kernel_rfl
theorem ylB:ydf (gP true) (Str.ofString "run") (.r 8) ⟨gM1,[],gO1 ++ [.dct true []]++gO2,[],[],none⟩=some ⟨gM1 ++ [(Str.ofString "run",.r 8)],[],gO1 ++ [.dct true []]++gO2,[],[],none⟩:=by kernel_rfl
theorem yhR:(xSs (run YY 40) (gP true) ((yaH.body.drop 2).take 1) ⟨gM1 ++ [(Str.ofString "run",.r 8)],[],gO1 ++ [.dct true []]++gO2,[],[],none⟩).map yaD = [.nx gM3 (gO1 ++ [.dct true []]++gO2 ++ [.lst [],.tup [.r 13,.z (.n 0)]]) []]/\yaI (xSs (run YY 40) (gP true) ((yaH.body.drop 2).take 1) ⟨gM1 ++ [(Str.ofString "run",.r 8)],[],gO1 ++ [.dct true []]++gO2,[],[],none⟩)=true:=⟨by kernel_rfl,by kernel_rfl⟩
section
variable {w:World} {base g g₀ h:Heap} {env:Env} {outer:List Env} {A:Around} {s:Shared} {Q E:Value->Shared->Prop} {mean:ExcName->Option Value} {mg mb:Str->Option Value}
theorem ylC {P:Addr} {p:ybM} {tl:Led} (V:Valid p) (hdat:DatIn tl (.ref P) (ybj p)) (St0:Std w mean mg mb base (env::outer) s.heap) (hf:A.frames=some (env::outer)) (hh:A.handled=none) (hdp:A.depth<=440) (hun:A.units<=1600)
  (O:ybZ base (env::outer) s.heap tl)
  (hret:∀r tl' h' tk',yff (env::outer) (tl.map (·.1)) s.heap h' (tl'++tl)->DatIn (tl'++tl) r (ybc (yam 0 p) (yak p) 18 0 σ0 [])->Q r {s with heap:=h',toks:=tk'}) :
  wpAny (MM w) A (call (.ref 923) [.ref P]) Q E s:=by
 have hr:(600:Nat)<recursionLimit:=by decide
 refine ycA (ns:=[]) (yg7 w) St0 hf (by omega) O rfl λg L cdv h1 tk1 fit kp gs F N=>?_
 refine yab λGG hGG=>?_
 obtain ⟨p1,p2,p3,p4,p5,p6,p7,p8,p9,p10,p11,hb⟩:=ynZ
 refine hGG ?_;clear hGG GG
 rw [hb]
 have at0:∀tl',(gCx w cdv A base (env::outer) s E g L tl').At (gP true):=λtl'=>⟨⟨fit.XB,fit.TB,fit.fn,fit.dbg,fit.B⟩,rfl,by show A.depth+1+80<=600;omega,by show A.units+3+3 * 80<=3000;omega,λ_=>rfl,λ_=>hh⟩
 have d0:Den (gCx w cdv A base (env::outer) s E g L tl) ⟨[],[],[],[P],[],[],[]⟩ ⟨[(Str.ofString "program",.q 0)],[],[],[],[],none⟩ (λy=>(yaH.ps.zip [Value.ref P]).reverse.lookup y) []:=
  ⟨yaC (fC ⟨_,by rfl,P,rfl,rfl⟩ fN),⟨rfl,λi x p h=>nomatch h⟩,fN,(λi x h=>nomatch h),(λx i h=>nomatch h),λi h=>nomatch h⟩
 refine yby (c:=gCx w cdv A base (env::outer) s E g L tl) 40 (p:=gP true) (at0 _) _ _ d0 ⟨F,N,List.nodup_nil,fN⟩ ye6.1 ye6.2 (fC (λρ1 ns1 m1 h2 tk2 H=>?_) fN)
 refine yab λGG hGG=>?_
 obtain ⟨v1,hm1,W,hW,rfl⟩:=ya3 (show DQ _ _ (some (SV.r 1)) _ from H.loc (Str.ofString "world"))
 obtain ⟨v2,hm2,P',hP',rfl⟩:=ya3 (show DQ _ _ (some (SV.q 0)) _ from H.loc (Str.ofString "program"))
 cases hP'.symm.trans (yad H.up.q (i:=0) P rfl)
 obtain ⟨oW,eW,@⟨WD,hWD,rfl⟩⟩:=H.obs.atK (i:=1) rfl hW
 obtain ⟨oWD,eWD,dWD⟩:=H.obs.atK (i:=0) rfl hWD
 have nWD:W≠WD:=yaM H.i.nd hW hWD (by decide)
 have dW6:yfm ρ1 (yae ns1) false gW6 oWD:=ycl dWD (fC (List.mem_of_getElem? (i:=21) rfl) (fC (List.mem_of_getElem? (i:=22) rfl) (fC (List.mem_of_getElem? (i:=23) rfl) (fC (List.mem_of_getElem? (i:=24) rfl) (fC (List.mem_of_getElem? (i:=0) rfl) (fC (List.mem_of_getElem? (i:=1) rfl) fN))))))
 have offW:OwnOff tl [W,WD]:=λq hq b hb=>by
  rcases List.mem_cons.mp hb with rfl|hb
  ·exact H.i.off _ (List.mem_of_getElem? eW) q hq
  ·exact List.mem_singleton.mp hb▸H.i.off _ (List.mem_of_getElem? eWD) q hq
 have N1:News g L h2 (tl ++ [(W,yaf 673 WD),(WD,oWD)]):=λq hq=>(List.mem_append.mp hq).elim (λz=>H.i.N q (List.mem_append_right _ z)) λz=>(List.mem_cons.mp z).elim (λe=>e▸H.i.N _ (H.i.mem eW)) λz=>List.mem_singleton.mp z▸H.i.N _ (H.i.mem eWD)
 obtain ⟨mean',mg',mb',T⟩:=fit.T
 refine hGG ?_;clear hGG GG
 refine wpAny_execs_cons (wpAny_Assign_Name (Call_ (nameX_K H.i.F fit.X (topRead_of T) (by k_is) ?_ fit.fn (by kernel_rfl) (by decide))) (yaV rfl))
 refine callWith_K fit.X (by k_is) ?_ rfl rfl
 refine args_cons (nameX_L H.i.F hm1 ?_ fit.fn (by kernel_rfl) (by decide)) rfl
 refine args_cons ?_ rfl
 refine ybg (c:=gCx w cdv A base (env::outer) s E g L tl) (b:=331) (us:=[.ref P]) (at0 _) H.i.F (by k_is) (by k_is) (by kernel_rfl) (.cons ⟨hm2,by kernel_rfl⟩ .nil) nofun ?_
 refine yfF (T1:=[(W,yaf 673 WD),(WD,oWD)]) V hdat (ybL fit.B H.i.F St0.X St0.T fit.fn) (Around.frames_deeper fit.B.stack) hh (by show A.depth+1<=490;omega) (by show A.units+3<=1900;omega) (ybH fit.B N1 λ_ h=>h) (fC (λb hb=>?o1) (fC (λb hb=>?o2) fN)) λFL FD RW PL fes fn lw rvs po kvs tl2 h3 tk3 Po Hf hpo hsp hR nd4 offT off2 lo=>?_
 case o1=>
  refine yab λGG hGG=>?_
  obtain ⟨q,hq,rfl⟩:=List.mem_map.mp hb
  refine hGG ?_;clear hGG GG
  exact (offW q hq W (.head _)).symm
 case o2=>
  refine yab λGG hGG=>?_
  obtain ⟨q,hq,rfl⟩:=List.mem_map.mp hb
  refine hGG ?_;clear hGG GG
  exact (offW q hq WD (.tail _ (.head _))).symm
 obtain ⟨F3,N3⟩:=yd2 H.i.F N1 ycD Po
 rw [List.append_nil] at N3
 have mW:(W,yaf 673 WD)∈tl ++ [(W,yaf 673 WD),(WD,oWD)]:=List.mem_append_right _ (.head _)
 have mWD:(WD,oWD)∈tl ++ [(W,yaf 673 WD),(WD,oWD)]:=List.mem_append_right _ (.tail _ (.head _))
 have nd6:([W,WD,FL,FD,RW,PL]:List Addr).Nodup:=List.nodup_cons.mpr ⟨λz=>(List.mem_cons.mp z).elim nWD λz=>offT _ mW _ z rfl,List.nodup_cons.mpr ⟨λz=>offT _ mWD _ z rfl,nd4⟩⟩
 have inK:∀b∈([W,WD,FL,FD,RW,PL]:List Addr),b∈FL::FD::RW::PL::yae (tl ++ [(W,yaf 673 WD),(WD,oWD)]):=fC (.tail _ (.tail _ (.tail _ (.tail _ (List.mem_map_of_mem (f:=(·.1)) mW))))) (fC (.tail _ (.tail _ (.tail _ (.tail _ (List.mem_map_of_mem (f:=(·.1)) mWD))))) (λb hb=>List.mem_append_left (yae (tl ++ [(W,yaf 673 WD),(WD,oWD)])) hb))
 have off:OwnOff (tl2++tl) [W,WD,FL,FD,RW,PL]:=λq hq b hb=>(List.mem_append.mp hq).elim (λz=>off2 q z b (inK b hb)) λz=>
  (List.mem_cons.mp hb).elim (λe=>e▸offW q z W (.head _)) λhb=>(List.mem_cons.mp hb).elim (λe=>e▸offW q z WD (.tail _ (.head _))) λhb=>offT q (List.mem_append_left _ z) b hb
 have up4:∀q∈tl2++(tl ++ [(W,yaf 673 WD),(WD,oWD)]),q∈(FL,yaf 278 FD)::(FD,dictOf fes fn)::(RW,listOf rvs.toArray lw)::(PL,po)::(tl2++(tl ++ [(W,yaf 673 WD),(WD,oWD)])):=λq hq=>.tail _ (.tail _ (.tail _ (.tail _ hq)))
 have i0:Is (gCx w cdv A base (env::outer) s E g L (tl2++tl)) m1 [(W,yaf 673 WD),(WD,oWD),(FL,yaf 278 FD),(FD,dictOf fes fn),(RW,listOf rvs.toArray lw),(PL,po)] h3:=⟨F3,fC (N3 _ (up4 _ (List.mem_append_right _ mW))) (fC (N3 _ (up4 _ (List.mem_append_right _ mWD))) (fC (N3 _ (.head _)) (fC (N3 _ (.tail _ (.head _))) (fC (N3 _ (.tail _ (.tail _ (.head _)))) (fC (N3 _ (.tail _ (.tail _ (.tail _ (.head _))))) (λq hq=>N3 q (up4 q ((List.mem_append.mp (show q∈tl2++tl from hq)).elim (λz=>List.mem_append_left _ z) λz=>List.mem_append_right _ (List.mem_append_left _ z))))))))),nd6,λq hq b hb=>off b hb q.1 (List.mem_map_of_mem (f:=(·.1)) hq)⟩
 clear off nd6 up4 inK mW mWD off2 offT nd4 Po offW
 refine args_cons (wpAny_Dict_empty ?_) rfl
 have i1:=i0.snoc (o:=dictOf [] 0) (i0.F.push _) (i0.N.push i0.F _) λq hq=>Nat.ne_of_lt (Heap.lt_size (i0.N q hq).1)
 refine args_nil ⟨fit.X.keeps (F3.push _).keep,?_⟩
 generalize h3.objs.size=Dx at i1 ⊢
 generalize h3.push _=h4 at i1 ⊢
 have hsz:rvs.length<=1000:=by have:=hR.1;have:=V.sp.2.2.2.1;omega
 have d1:Den (gCx w cdv A base (env::outer) s E g L (tl2++tl)) ⟨[rvs.length],[],[],[P],[rvs],[],[kvs]⟩ ⟨gM1,[],gO1 ++ [.dct true []],[],[],none⟩ m1 ([(W,yaf 673 WD),(WD,oWD),(FL,yaf 278 FD),(FD,dictOf fes fn),(RW,listOf rvs.toArray lw),(PL,po)] ++ [(Dx,dictOf [] 0)]):=by
  refine ⟨yaC (fC ⟨_,hm2,P,rfl,rfl⟩ (fC ⟨_,hm1,W,rfl,rfl⟩ fN)),ya9 ?_,fN,(λi x h=>nomatch h),(λx i h=>nomatch h),λi h=>nomatch h⟩
  exact .cons ⟨rfl,rfl⟩ (.cons (yhQ (by kernel_rfl) dW6) (.cons ⟨rfl,rfl⟩ (.cons ⟨rfl,Hf,nofun,.cons ⟨rfl,RW,rfl,rfl⟩ (.cons ⟨rfl,PL,rfl,rfl⟩ .nil)⟩ (.cons ⟨rfl,by rw [List.append_nil],rfl,hsz,.nil,fN⟩ (.cons ⟨lo,rfl,hpo,fN⟩ (.cons ⟨rfl,⟨Nat.zero_le _,fN,fN⟩,λ_=>⟨rfl,λ_ _=>rfl⟩,.nil⟩ .nil))))))
 have Wn:=ybT (yaR w) (ybV (yaR w) 40) (at0 (tl2++tl)) (b:=877) d1 (vs:=[.r 0,.r 2,.r 6]) (us:=[.ref W,.ref FL,.ref Dx]) (.cons ⟨W,rfl,rfl⟩ (.cons ⟨FL,rfl,rfl⟩ (.cons ⟨Dx,rfl,rfl⟩ .nil))) (by rw [yjS];exact ybS)
 refine Wn.run i1 λv h5 tk5 n5 i5 q=>?_
 refine yab λGG hGG=>?_
 obtain ⟨hmem,up5,dv5,d5⟩:=q
 rw [yjS] at hmem
 cases List.mem_singleton.mp hmem
 refine hGG ?_;clear hGG GG
 refine ybU (at0 (tl2++tl)) d5 dv5 ylB i5 λh6 tk6 m6 n6 ek6 i6 d6=>?_
 refine yby (c:=gCx w cdv A base (env::outer) s E g L (tl2++tl)) 40 (p:=gP true) (at0 _) _ _ d6 i6 yhR.1 yhR.2 (fC (λρ7 ns7 m7 h7 tk7 H7=>?_) fN)
 have up:=up5.trans (ek6▸H7.up)
 have kW:=yad up.a (i:=0) W rfl
 have kWD:=yad up.a (i:=1) WD rfl
 have kFL:=yad up.a (i:=2) FL rfl
 have kFD:=yad up.a (i:=3) FD rfl
 have kRW:=yad up.a (i:=4) RW rfl
 have kPL:=yad up.a (i:=5) PL rfl
 refine yab λGG hGG=>?_
 obtain ⟨v1,w1,W',hW',rfl⟩:=ya3 (show DQ _ _ (some (SV.r 0)) _ from H7.loc (Str.ofString "world"))
 cases hW'.symm.trans kW
 obtain ⟨v2,w2,R,kR,rfl⟩:=ya3 (show DQ _ _ (some (SV.r 8)) _ from H7.loc (Str.ofString "run"))
 obtain ⟨v3,w3,TL,kTL,rfl⟩:=ya3 (show DQ _ _ (some (SV.r 13)) _ from H7.loc (Str.ofString "told"))
 obtain ⟨v4,w4,k4,t4,hk4,rfl⟩:=ya3 (show DQ _ _ (some (SV.z (.n 0))) _ from H7.loc (Str.ofString "at"))
 cases hk4
 obtain ⟨_,e0,dW⟩:=H7.obs.atK (i:=0) rfl kW
 obtain ⟨_,e1,dWD⟩:=H7.obs.atK (i:=1) rfl kWD
 obtain ⟨_,e2,dFL⟩:=H7.obs.atK (i:=2) rfl kFL
 obtain ⟨_,e3,dFD⟩:=H7.obs.atK (i:=3) rfl kFD
 obtain ⟨_,e4,dRW⟩:=H7.obs.atK (i:=4) rfl kRW
 obtain ⟨_,e5,dPL⟩:=H7.obs.atK (i:=5) rfl kPL
 obtain ⟨_,e8,@⟨RD,kRD,rfl⟩⟩:=H7.obs.atK (i:=8) rfl kR
 obtain ⟨_,e7,dRD⟩:=H7.obs.atK (i:=7) rfl kRD
 have dRD5:yfm ρ7 (yae ns7) false [(Str.ofString "world",.r 0),(Str.ofString "flat",.r 2),(Str.ofString "control",.r 10),(Str.ofString "bits",.z (.n 16)),(Str.ofString "digits",.z (.n 9))] _:=ycl dRD (fC (List.mem_of_getElem? (i:=0) rfl) (fC (List.mem_of_getElem? (i:=1) rfl) (fC (List.mem_of_getElem? (i:=5) rfl) (fC (List.mem_of_getElem? (i:=3) rfl) (fC (List.mem_of_getElem? (i:=4) rfl) fN)))))
 obtain ⟨CT,kCT⟩:∃CT,(yae ns7)[10]? = some CT:=by
  refine yab λGG hGG=>?_
  obtain @⟨_,_,l,_,_,_,D⟩:=dRD5
  obtain ⟨_,_,rfl,_,D⟩:=fld D
  obtain ⟨_,_,rfl,_,D⟩:=fld D
  obtain ⟨_,_,rfl,⟨CT,h,_⟩,D⟩:=fld D
  refine hGG ?_;clear hGG GG
  exact ⟨CT,h⟩
 obtain ⟨_,e10,@⟨CD,kCD,rfl⟩⟩:=H7.obs.atK (i:=10) rfl kCT
 obtain ⟨_,e9,dCD⟩:=H7.obs.atK (i:=9) rfl kCD
 obtain ⟨_,e13,dTL⟩:=H7.obs.atK (i:=13) rfl kTL
 obtain @⟨tvs,tn,rfl,DT⟩:=dTL
 cases yar DT
 obtain ⟨wes,wn,th,te,tc,rfl,Hw⟩:=yqm (fa:=.n (-1)) (σ:=σ0) (ycl dWD (fC (List.mem_of_getElem? (i:=0) rfl) (fC (List.mem_of_getElem? (i:=1) rfl) (fC (List.mem_of_getElem? (i:=2) rfl) (fC (List.mem_of_getElem? (i:=3) rfl) fN))))) ⟨rfl,rfl,rfl,rfl,rfl⟩
 obtain ⟨fes',fn',rfl,Hf'⟩:=ym5 dFD kRW kPL
 obtain ⟨res,rn,tb,td,rfl,Hr⟩:=yqn dRD5 kW kFL kCT
 obtain ⟨ces,cn,tf,rfl,Hc⟩:=yqo (k:=-1) (fa:=.n (-1)) (ycl dCD (fC (List.mem_of_getElem? (i:=2) rfl) fN)) rfl
 obtain ⟨lw',rfl⟩:=ylN dRW (yad up.l (i:=0) rvs rfl)
 have hpo':=ylO dPL (yad up.k (i:=0) kvs rfl)
 cases yiE dW kWD
 cases yiE dFL kFD
 have nd11:([W,WD,FL,FD,RW,PL,R,RD,CT,CD,TL]:List Addr).Nodup:=yfO H7.i.nd (ix:=[0,1,2,3,4,5,8,7,10,9,13]) (.cons kW (.cons kWD (.cons kFL (.cons kFD (.cons kRW (.cons kPL (.cons kR (.cons kRD (.cons kCT (.cons kCD (.cons kTL .nil))))))))))) (by decide)
 have K:yhX w base env outer A s L g W WD FL FD RW PL R RD CT CD TL rvs (yam 0 p) (yak p) tl2 tl Q:=⟨St0.X,⟨_,_,_,St0.T⟩,hh,hdp,hun,kp,kts_self F,nd11,hR,lo,V.sp.2.2.2.1,V.sp.2.1,V.sp.2.2.1,λh=>V.st h,hret⟩
 have mem:=fun {i:Nat} {p:Addr × Obj} (e:ns7[i]? = some p)=>List.mem_append_left (tl2++tl) (List.mem_of_getElem? e)
 refine hGG ?_;clear hGG GG
 refine wpAny_execs_cons (wpAny_Try_except (wpAny_execs_cons (yb3 (ydb (n₀:=18) (yfM w base (env::outer) A s L g W WD FL FD RW PL R RD CT CD TL rvs (yam 0 p) (yak p) (tl2++tl)) ?_ (λn s' hI=>yhP (cdv:=cdv) (E:=E) K hI) (by passes_own)))))
 refine .mk (gl:=yl1 W WD R RD FL FD RW PL CT CD wes res fes' ces wn rn fn' cn lw' rvs _) (tl1:=[]) (told:=[]) .refl fit.B H7.i.F (List.forall_mem_append.mpr ⟨List.forall_mem_append.mpr ⟨?_,fC (H7.i.N _ (mem e13)) fN⟩,λq hq=>H7.i.N q (List.mem_append_right _ hq)⟩) ⟨_,_,_,_,_,_,_,_,_,_,_,th,te,tc,tf,tb,td,rfl,Hw,Hr,Hf',Hc,hpo',hsp⟩ .nil (λq hq b hb=>?_) ⟨.inl rfl,(λz=>nomatch z),by decide,(λz=>nomatch z)⟩ (Int.le_refl _) (Int.ofNat_nonneg _) rfl rfl w1 w2 w3 w4
 ·exact fC (H7.i.N _ (mem e0)) (fC (H7.i.N _ (mem e1)) (fC (H7.i.N _ (mem e2)) (fC (H7.i.N _ (mem e3)) (fC (H7.i.N _ (mem e4)) (fC (H7.i.N _ (mem e5)) (fC (H7.i.N _ (mem e8)) (fC (H7.i.N _ (mem e7)) (fC (H7.i.N _ (mem e10)) (fC (H7.i.N _ (mem e9)) fN)))))))))
 ·have hk:∀b∈([W,WD,FL,FD,RW,PL,R,RD,CT,CD,TL]:List Addr),b∈yae ns7:=fC (List.mem_of_getElem? kW) (fC (List.mem_of_getElem? kWD) (fC (List.mem_of_getElem? kFL) (fC (List.mem_of_getElem? kFD) (fC (List.mem_of_getElem? kRW) (fC (List.mem_of_getElem? kPL) (fC (List.mem_of_getElem? kR) (fC (List.mem_of_getElem? kRD) (fC (List.mem_of_getElem? kCT) (fC (List.mem_of_getElem? kCD) (fC (List.mem_of_getElem? kTL) fN))))))))))
  refine yab λGG hGG=>?_
  obtain ⟨p',hp',rfl⟩:=List.mem_map.mp (hk b hb)
  refine hGG ?_;clear hGG GG
  exact H7.i.off p' hp' q hq
end
set_option backward.match.sparseCases false
section
variable {w:World} {mean:ExcName->Option Value} {mg mb:Str->Option Value} {base h₀:Heap} {outer:List Env} {A A₀:Around} {s:Shared} {Q E:Value->Shared->Prop} {L a:Addr} {m:Str->Option Value} {cn:Str} {cs:Scope} {ccd:Value} {news:List (Addr × Obj)}
mutual
noncomputable def ydw:Dat->Bool
 | .none=>true
 | .bool _=>true
 | .int _=>true
 | .str x=>PyData.strOk x
 | .bytes _=>false
 | .tuple ds=>datsOk ds
 | .list ds=>datsOk ds
noncomputable def datsOk:List Dat->Bool
 | []=>true
 | d::ds=>ydw d && datsOk ds
end
section
variable {g h:Heap}
inductive RdX (h:Heap) (v:Value) (d:Dat):Prop
 | mk {as} (r:Reads h v (kqdP d) as):RdX h v d
inductive ylD (h:Heap) (vs:List Value) (ds:List Dat):Prop
 | mk {as} (r:ReadsAll h vs (kqdPs ds) as):ylD h vs ds
theorem yje (N:News g L h news) {a:Addr} {vs:List Value} {n:Nat} {ds:List Dat} (hm:(a,({cls:=.type "tuple",data:=.seq vs.toArray n}:Obj))∈news) (r:ylD h vs ds):RdX h (.ref a) (.tuple ds):=by
 obtain ⟨q⟩:=r
 apply RdX.mk
 rw [kqdP]
 exact reads_tuple_at (N.get hm) rfl rfl q
theorem ylE (N:News g L h news) {a:Addr} {vs:List Value} {n:Nat} {ds:List Dat} (hm:(a,listOf vs.toArray n)∈news) (r:ylD h vs ds):RdX h (.ref a) (.list ds):=by
 obtain ⟨q⟩:=r
 apply RdX.mk
 rw [kqdP]
 exact reads_list_at (N.get hm) rfl rfl q
theorem ylF {v:Value} {vs:List Value} {d:Dat} {ds:List Dat} (a:RdX h v d) (b:ylD h vs ds):ylD h (v::vs) (d::ds):=by
 obtain ⟨q⟩:=a
 obtain ⟨p⟩:=b
 apply ylD.mk
 rw [kqdPs]
 exact ReadsAll.cons q p
theorem ycm {d:Dat} {ds:List Dat} (h:datsOk (d::ds)=true):ydw d=true/\datsOk ds=true:=by simpa [datsOk] using h
theorem yd0 (N:News g L h news) {v:Value} {d:Dat} (x:DatIn news v d):ydw d=true->RdX h v d:=
 DatIn.rec (motive_1:=λv d _=>ydw d=true->RdX h v d) (motive_2:=λvs ds _=>datsOk ds=true->ylD h vs ds)
  (λ_=>⟨Reads.none⟩) (λb _=>⟨Reads.bool b⟩) (λi t _=>⟨Reads.int i t⟩) (λx t _=>⟨Reads.str x t⟩) (λ_ _ h=>nomatch h)
  (λhm _ k h=>yje N hm (k h)) (λhm _ k h=>ylE N hm (k h)) (λ_=>⟨ReadsAll.nil⟩) (λ_ _ a b h=>ylF (a (ycm h).1) (b (ycm h).2)) x
end
theorem yhS {ds:List Dat} (h:PyData.canLayAll0 (kqdPs ds)=true):(kqdP (.tuple ds)).canLay0=true:=by rw [kqdP,PyData.canLay0,h]
theorem yjf {ds:List Dat} (h:PyData.canLayAll0 (kqdPs ds)=true):(kqdP (.list ds)).canLay0=true:=by rw [kqdP,PyData.canLay0,h]
theorem yjg {d:Dat} {ds:List Dat} (a:(kqdP d).canLay0=true) (b:PyData.canLayAll0 (kqdPs ds)=true):PyData.canLayAll0 (kqdPs (d::ds))=true:=by rw [kqdPs,PyData.canLayAll0,a,b];rfl
theorem yev (d:Dat):ydw d=true->(kqdP d).canLay0=true:=
 Dat.rec (motive_1:=λd=>ydw d=true->(kqdP d).canLay0=true) (motive_2:=λds=>datsOk ds=true->PyData.canLayAll0 (kqdPs ds)=true)
  (λ_=>by rw [kqdP,PyData.canLay0]) (λ_ _=>by rw [kqdP,PyData.canLay0]) (λ_ _=>by rw [kqdP,PyData.canLay0]) (λ_ h=>by rw [kqdP,PyData.canLay0];exact h) (λ_ h=>nomatch h)
  (λ_ k h=>yhS (k h)) (λ_ k h=>yjf (k h)) (λ_=>by rw [kqdPs,PyData.canLayAll0]) (λ_ _ a b h=>yjg (a (ycm h).1) (b (ycm h).2)) d
theorem yn2 (told:List yb9) (f:Int) (on:Bool) (num:Int):ydw (yaG told f on num)=true/\(kqdP (yaG told f on num)).depth<=4:=by
 have h1:∀l:List yb9,datsOk (l.map yaT)=true/\PyData.depthAll (kqdPs (l.map yaT))<=2:=λl=>by
  induction l with
  | nil=>exact ⟨by simp [datsOk],by simp [kqdPs,PyData.depthAll]⟩
  | cons x l ih=>
   exact ⟨by simp [datsOk,yaT,ydw,ih.1],Nat.max_le.mpr ⟨Nat.le_of_ble_eq_true rfl,ih.2⟩⟩
 have h2:=h1 told
 refine ⟨by simp [yaG,ydw,datsOk,h2.1],?_⟩
 have:=h2.2
 simp only [yaG,kqdP,kqdPs,PyData.depth,PyData.depthAll]
 revert this
 generalize PyData.depthAll (kqdPs (told.map yaT))=n
 revert n
 decide
inductive ylG (d:Dat):Prop
 | mk {t f on num} (e:d=yaG t f on num):ylG d
theorem yhT {sp:yao} {rows:List (Int × St)} (k:Nat):∀(at_:Int) (σ:yaL) (told:List yb9),ylG (ybc sp rows k at_ σ told):=by
 induction k with
 | zero=>exact λ_ _ _=>⟨rfl⟩
 | succ k ih=>
  intro at_ σ told
  rw [ybc]
  split
  ·exact ⟨rfl⟩
  ·split
   ·exact ih _ _ _
   ·exact ⟨rfl⟩
theorem same_eq {prog:Program} {x y:Value} {d:Dat} {n1 n2:List (Addr × Obj)} (N:News h₀ L s.heap news) (hx:DatIn n1 x d) (s1:∀p∈n1,p∈news) (hy:DatIn n2 y d) (s2:∀p∈n2,p∈news) (hd:ylG d) (hu:A.units+4<cLine)
  (h:Q (.bool true) s):wpAny (model prog w) A (compareOp .Eq x y) Q E s:=by
 refine yab λGG hGG=>?_
 obtain ⟨rfl⟩:=hd
 obtain ⟨ok,dp⟩:=yn2 _ _ _ _
 obtain ⟨ra⟩:=yd0 N (hx.mono s1) ok
 obtain ⟨rb⟩:=yd0 N (hy.mono s2) ok
 refine hGG ?_;clear hGG GG
 refine SeqAt.compareEq_reads ra rb (yev _ ok) (yev _ ok) (by omega) ?_
 rw [SeqAt.eqv_refl _ (yev _ ok)]
 exact h
end
section
variable {w:World} {mean:ExcName->Option Value} {mg mb:Str->Option Value} {base h₀:Heap} {outer:List Env} {A₀:Around} {s:Shared} {Q E:Value->Shared->Prop} {L a:Addr} {m:Str->Option Value} {cn:Str} {cs:Scope} {ccd:Value} {news tl:List (Addr × Obj)}
theorem yew {f c:Addr} {vs:List Value} {ns:List Int} {n n2:Nat} {u:Tok} (B:Below A₀ base outer h₀) (F:Fr h₀ L s.heap m) (N:News h₀ L s.heap news) (XB:(KK w.params).In base) (TB:Top VV LO mean mg mb base) (hk:cs.kind = .function)
  (hf:(A₀.deeper (envOf cn cs L a ccd)).frames=some (envOf cn cs L a ccd::outer)) (hh:(A₀.deeper (envOf cn cs L a ccd)).handled=none) (hdp:(A₀.deeper (envOf cn cs L a ccd)).depth<=580) (hun:(A₀.deeper (envOf cn cs L a ccd)).units<=2800)
  (D:(f,listOf [.ref c,.int 0 u].toArray n)∈news) (hc:(c,listOf vs.toArray n2)∈news) (hcf:c≠f) (hi:IntsAre vs ns) (hlen:vs.length<=40)
  (hret:∀P p tl h' tk',Fr h₀ L h' m->News h₀ L h' tl->DatIn tl (.ref P) (ybj p)->Valid p->Q (.ref P) {s with heap:=h',toks:=tk'}) :
  wpAny (MM w) (A₀.deeper (envOf cn cs L a ccd)) (call (.ref 902) [.ref f]) Q E s:=by
 have hx:∀q∈[(f,listOf [.ref c,.int 0 u].toArray n),(c,listOf vs.toArray n2)],q∈news:=fC D (fC hc fN)
 refine yfC (ybL B F XB TB hk) hf hh hdp hun (ybH B N hx) hcf hi hlen λr p tl h' tk' P hd V=>?_
 refine yab λGG hGG=>?_
 obtain ⟨F',N'⟩:=yd2 (ex:=[(f,listOf [.ref c,.int 0 u].toArray n),(c,listOf vs.toArray n2)]) (rest:=[]) F N ⟨hx,fN⟩ P
 rw [List.append_nil] at N'
 obtain ⟨P',rfl⟩:∃P',r = .ref P':=by cases hd with|list _ _=>exact ⟨_,rfl⟩
 refine hGG ?_;clear hGG GG
 exact hret P' p tl h' tk' F' N' hd V
theorem yhU {l:List (Addr × Obj)} {r:Value} {sp:yao} {rows:List (Int × St)} {k:Nat} {at_:Int} {σ:yaL} {told:List yb9} (h:DatIn l r (ybc sp rows k at_ σ told)):∃D,r = .ref D:=by
 obtain ⟨e⟩:=yhT (sp:=sp) (rows:=rows) k at_ σ told
 rw [e] at h
 cases h with|tuple _ _=>exact ⟨_,rfl⟩
theorem yjh {P:Addr} {p:ybM} (V:Valid p) (hdat:DatIn tl (.ref P) (ybj p)) (B:Below A₀ base outer h₀) (F:Fr h₀ L s.heap m) (N:News h₀ L s.heap tl) (XB:(KK w.params).In base) (TB:Top VV LO mean mg mb base) (hk:cs.kind = .function)
  (hf:(A₀.deeper (envOf cn cs L a ccd)).frames=some (envOf cn cs L a ccd::outer)) (hh:(A₀.deeper (envOf cn cs L a ccd)).handled=none) (hdp:(A₀.deeper (envOf cn cs L a ccd)).depth<=440) (hun:(A₀.deeper (envOf cn cs L a ccd)).units<=1600)
  (hret:∀D tl' g' h' tk',KtsTurn (frs outer) h₀ g'->Fr g' L h' m->News g' L h' (tl'++tl)->Below A₀ base outer g'->(KK w.params).In g'->Top VV LO mean mg mb g'->DatIn (tl'++tl) (.ref D) (ybc (yam 0 p) (yak p) 18 0 σ0 [])->Q (.ref D) {s with heap:=h',toks:=tk'}) :
  wpAny (MM w) (A₀.deeper (envOf cn cs L a ccd)) (call (.ref 923) [.ref P]) Q E s:=by
 refine ylC V hdat (ybL B F XB TB hk) hf hh hdp hun (ybH B N λ_ h=>h) λr tl' h' tk' Po hd=>?_
 refine yab λGG hGG=>?_
 obtain ⟨D,rfl⟩:=yhU hd
 obtain ⟨g',T,F',N',B'⟩:=yf9 B F N ycD Po hk
 rw [List.append_nil] at N'
 refine hGG ?_;clear hGG GG
 exact hret D tl' g' h' tk' T F' N' B' (XB.keeps B'.stays) (TB.keeps B'.stays) hd
theorem ylH {g h:Heap} (T:KtsTurn (frs ([]:List Env)) h₀ g) (F:Fr g L h m):Fr h₀ L h m:=
 ⟨F.ns,λb o e=>F.keep b o (T.other b o e λz=>nomatch z),T.size▸F.above⟩
theorem yhV {g h:Heap} (T:KtsTurn (frs ([]:List Env)) h₀ g) (N:News g L h news):News h₀ L h news:=λp hp=>⟨(N p hp).1,(N p hp).2.1,by
 cases q:h₀.get? p.1 with
 | none=>rfl
 | some o=>
  have:=T.other _ _ q λz=>nomatch z
  rw [(N p hp).2.2] at this;cases this⟩
theorem yji {P:Addr} {p:ybM} (V:Valid p) (hdat:DatIn tl (.ref P) (ybj p)) (B:Below A₀ base outer h₀) (F:Fr h₀ L s.heap m) (N:News h₀ L s.heap tl) (XB:(KK w.params).In base) (TB:Top VV LO mean mg mb base) (hk:cs.kind = .function)
  (hf:(A₀.deeper (envOf cn cs L a ccd)).frames=some (envOf cn cs L a ccd::outer)) (hh:(A₀.deeper (envOf cn cs L a ccd)).handled=none) (hdp:(A₀.deeper (envOf cn cs L a ccd)).depth<=580) (hun:(A₀.deeper (envOf cn cs L a ccd)).units<=2800)
  (hret:∀D tl' h' tk',Fr h₀ L h' m->News h₀ L h' (tl'++tl)->DatIn (tl'++tl) (.ref D) (ybc (yam 0 p) (yak p) 18 0 σ0 [])->Q (.ref D) {s with heap:=h',toks:=tk'}) :
  wpAny (MM w) (A₀.deeper (envOf cn cs L a ccd)) (call (.ref 928) [.ref P]) Q E s:=by
 refine ylx V hdat (ybL B F XB TB hk) hf hh hdp hun (ybH B N λ_ h=>h) λr tl' h' tk' Po hd=>?_
 refine yab λGG hGG=>?_
 obtain ⟨D,rfl⟩:=yhU hd
 obtain ⟨F',N'⟩:=yd2 F N ycD Po
 rw [List.append_nil] at N'
 refine hGG ?_;clear hGG GG
 exact hret D tl' h' tk' F' N' hd
end
theorem law_all:PySem.Challenge.rw_pf0025_01.Holds:=you rfl rfl rfl (by
 k_fill
 intro w s₀ s₁ mg mb G Y fa o pm cd doc dV kV ho hd hcd hD hmg hg args vals as hpre hlay hrd hwl hlo
 have KX:=kIn_of Y
 refine Ground.open G ?_
 intro T B D TE TW
 try (refine guard_noD D (by decide +kernel) ?_;clear D)
 obtain ⟨_,_,M⟩:=bmod_of_top T
 have TA:=at_of_top T
 try (obtain ⟨_,_,he,B0⟩:=based_of_top T rfl hmg ho hd;have he':cd=_:=he;subst he';clear he)
 clear hmg
 wrow_args hpre hlay hrd hwl hlo
 all_goals (
  first|refine callC_kw (enter_call ?_)|refine enter_call ?_|refine callC_kw (enter_callW ?_)|refine enter_callW ?_|w_how
  w_top on
  try refine codeAny_mono ?_ (λ_ _ g=>GoodW.toG g)
  have K0:=below_caller (Top.heap T)
  w_call any ho hd hcd hD T F
  clear hd TA
  k_drop
  skip)
 all_goals try k_fold
 repeat' ((fail_if_success (with_reducible show wpAny _ _ (call (Value.ref 902) _) _ _ _));(fail_if_success (with_reducible show wpAny _ _ (call (Value.ref 923) _) _ _ _));(fail_if_success (with_reducible show wpAny _ _ (call (Value.ref 928) _) _ _ _));(fail_if_success (with_reducible show wpAny _ _ (compareOp _ (Value.ref _) (Value.ref _)) _ _ _));first|(k_unfold;(try dsimp only))|walk1|(dsimp only;walk1)|(leave1;(try dsimp only)))
 rename Below _ _ _ _=>K0
 rename Frag.In _ _=>KX
 rename Top _ _ _ _ _ _=>T0
 rename Fr _ _ _ _=>F9
 rename News _ _ _ _=>N9
 refine yew K0 F9 N9 KX T0 rfl rfl rfl (Nat.le_of_ble_eq_true rfl) (Nat.le_of_ble_eq_true rfl) (by k_mem) (by k_mem) (by k_ne) (by assumption) ?len ?nxt
 case len=>
  rename IntsAre _ (List.take 40 _)=>hI9
  have h1:=yey hI9
  rw [List.length_take] at h1
  omega
 case nxt=>
  clear F9 N9
  intro P p tl h1 tk1 F1 N1 hdat V1
  repeat' ((fail_if_success (with_reducible show wpAny _ _ (call (Value.ref 902) _) _ _ _));(fail_if_success (with_reducible show wpAny _ _ (call (Value.ref 923) _) _ _ _));(fail_if_success (with_reducible show wpAny _ _ (call (Value.ref 928) _) _ _ _));(fail_if_success (with_reducible show wpAny _ _ (compareOp _ (Value.ref _) (Value.ref _)) _ _ _));first|(k_unfold;(try dsimp only))|walk1|(dsimp only;walk1)|(leave1;(try dsimp only)))
  refine yjh V1 hdat K0 (by k_asm) (by k_asm) KX T0 rfl rfl rfl (Nat.le_of_ble_eq_true rfl) (Nat.le_of_ble_eq_true rfl) ?_
  intro D tl' g' h2 tk2 T2 F2 N2 B2 X2 P2 d1
  replace F2:=ylH T2 F2
  replace N2:=yhV T2 N2
  clear B2 X2 P2 T2
  repeat' ((fail_if_success (with_reducible show wpAny _ _ (call (Value.ref 902) _) _ _ _));(fail_if_success (with_reducible show wpAny _ _ (call (Value.ref 923) _) _ _ _));(fail_if_success (with_reducible show wpAny _ _ (call (Value.ref 928) _) _ _ _));(fail_if_success (with_reducible show wpAny _ _ (compareOp _ (Value.ref _) (Value.ref _)) _ _ _));first|(k_unfold;(try dsimp only))|walk1|(dsimp only;walk1)|(leave1;(try dsimp only)))
  refine yji V1 (hdat.mono λq hq=>List.mem_append_right _ hq) K0 (by k_asm) (by k_asm) KX T0 rfl rfl rfl (Nat.le_of_ble_eq_true rfl) (Nat.le_of_ble_eq_true rfl) ?_
  intro D2 tl2 h3 tk3 F3 N3 d2
  repeat' ((fail_if_success (with_reducible show wpAny _ _ (call (Value.ref 902) _) _ _ _));(fail_if_success (with_reducible show wpAny _ _ (call (Value.ref 923) _) _ _ _));(fail_if_success (with_reducible show wpAny _ _ (call (Value.ref 928) _) _ _ _));(fail_if_success (with_reducible show wpAny _ _ (compareOp _ (Value.ref _) (Value.ref _)) _ _ _));first|(k_unfold;(try dsimp only))|walk1|(dsimp only;walk1)|(leave1;(try dsimp only)))
  refine same_eq N3 d1 (λq hq=>List.mem_append_right _ hq) d2 (λq hq=>hq) (yhT _ _ _ _) (Nat.le_of_ble_eq_true rfl) ?_
  k_steps)
end Mine
theorem PySem.Challenge.cw_pf0025_01_holds : PySem.Challenge.rw_pf0025_01.Holds := by
  exact Mine.law_all
