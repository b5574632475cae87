import PyProof.Rows.All
import Wide.All
import OpenK.AllK
import Wide.FinOn
import Lean
import PySem.Challenge.RW_no0290_02
set_option Elab.async false
set_option linter.all false
set_option bootstrap.genMatcherCode false
set_option compiler.extract_closed false
set_option maxHeartbeats 0
set_option maxRecDepth 100000
set_option genSizeOf false
set_option genInjectivity false
set_option tactic.hygienic false
open PySem
noncomputable section
namespace Mine
abbrev y0:=Lean.Syntax
def qM(k:String)(l:List y0):y0:=.node .none (`Lean.Parser.Term++k.toName) l.toArray
def kr(k:Lean.Name)(l:List y0):y0:=.node .none k l.toArray
def zT(l:List y0):y0:=kr `null l
def zO(s:String):y0:=.atom .none s
def xt(k w:String)(l:List y0):y0:=kr (`Lean.Parser.Tactic++k.toName) (zO w::l)
def zj(s:y0):Nat->y0:=s.getArg
def jA(s:y0):Bool:=s.getNumArgs==0
def jC(s:String):y0:=Lean.mkIdent s.toName
def ZI(s:String):List y0:=(s.splitOn " ").map jC
def z1y(l:List y0):y0:=.node .none `null (Lean.mkSepArray l.toArray (zO ","))
def z1h:y0:=xt "fail" "fail" [zT []]
def Wm(l:List y0):y0:=xt "first" "first" [zT (l.map λ x=>kr `group [zO "|",x])]
def z1a:y0:=qM "syntheticHole" [zO "?",zO "_"]
def mq_fn(k:Nat):y0:=if k=0 then z1a else qM "fun" [zO "fun",qM "basicFun" [zT (List.replicate k (qM "hole" [zO "_"])),zT [],zO "=>",z1a]]
def KC(f h:y0)(k:Nat):y0:=xt "refine" "refine" [qM "app" [f,zT [h,mq_fn k]]]
def Yu(a b:y0):y0:=kr `Lean.Parser.Tactic.«tactic_<;>_» [a,zO "<;>",b]
def mq_cq(s:y0):y0:=
  let t:=zj (zj s 1) 0
  let h:=zj t 1
  let x:=jC "x_"
  let g:=zj t 0
  if jA g then
    let l:=(ZI "V.casesOn Option.casesOn List.casesOn Bool.casesOn E.casesOn O.casesOn R.casesOn Out.casesOn Nat.casesAuxOn S.casesOn PySem.Value.casesOn PySem.Expr.casesOn Me.casesOn Cop.casesOn Bop.casesOn Bi.casesOn").map λ n=>xt "induction" "induction" [zj s 1,zT [zO "using",n],zT [],zj s 3]
    if jA (zj s 3) then Wm ((ZI "n1 n2 tf ft").map (λ n=>xt "exact" "exact" [qM "app" [n,zT [h]]])++Yu (KC (jC "so") h 0) (Yu (xt "intro" "intro" [zT [x]]) (xt "subst" "subst" [zT [x]]))::l) else Wm l
  else Yu (xt "generalize" "generalize" [zT [kr `Lean.Parser.Tactic.generalizeArg [zT [zj (zj g 0) 0,zj g 1],h,zO "=",x]],zT []]) (s.setArg 1 (zT [t.setArgs #[zT [],x]]))
local macro_rules (kind:=Lean.Parser.Tactic.cases)
 | s=>pure (mq_cq s)
def z1j(s:y0)(a:List y0):y0:=s.setArg 2 ((zj s 2).setArg 1 (zT a))
def mq_rq(s:y0):List y0->y0
  | a::_::r=>Yu (z1j s [a]) (z1j s r)
  | _=>
    let a:=zj (zj (zj s 2) 1) 0
    Wm [Yu (KC (jC (if jA (zj a 0) then "rwl" else "rwr")) (zj a 1) 0) (xt "tacticTry_" "try" [xt "withReducible" "with_reducible" [xt "tacticRfl" "rfl" []]]),z1h]
local macro_rules (kind:=Lean.Parser.Tactic.rwSeq)
 | s=>if jA (zj s 3) then pure (mq_rq s (zj (zj s 2) 1).getArgs.toList) else Lean.Macro.throwUnsupported
local macro_rules (kind:=Lean.Parser.Term.explicit)
 | s=>match (zj s 1).isStrLit? with
  | some q=>pure (kr `«term[_]» [zO "[",z1y (q.toList.map λ c=>Lean.Syntax.mkNumLit (toString c.toNat)),zO "]"])
  | none=>Lean.Macro.throwUnsupported
local macro_rules (kind:=«term_>>_»)
 | s=>pure (qM "app" [qM "dotIdent" [zO ".",jC "cons"],zT [zj s 0,zj s 2]])
section
open PyProof.Rows PySem.W
noncomputable def nth:List Stmt->Nat->Stmt
 | [],_=>.Pass ⟨0,0,0,0⟩
 | s::_,0=>s
 | _::r,n+1=>nth r n
noncomputable def sl(a n:Nat):List Stmt:=(PySem.Challenge.pw_no0290_02.main.body.drop a).take n
noncomputable def bd(i:Nat):Stmt:=nth PySem.Challenge.pw_no0290_02.main.body i
noncomputable def bc(i j:Nat):Stmt:=match bd i with
 | .ClassDef _ _ _ b _ _ _ _ _ _ _=>nth b j
 | s=>s
noncomputable def fD(st:Stmt)(qual:Str)(gl:Addr)(cl:List (Str×Addr))(dV kV doc pm:Value)(an:Option Addr)(cd ct:Value)(bl:Addr):FuncData:=match st with
 | .FunctionDef n a b _ _ _ sc _ _ _=>{name:=n,qualname:=qual,params:=a,body:=.stmts b,scope:=sc,globals:=gl,closure:=cl,defaults:=dV,kwdefaults:=kV,doc:=doc,pyModule:=pm,annotations:=an,code:=cd,closureTuple:=ct,builtins:=bl}
 | _=>default
noncomputable def dE(P:Params)(x:Str)(t:Tok)(v:Value):DictEntry:=⟨PyData.keyHash P x,.str x t,v⟩
noncomputable def e0:Obj:=⟨.type "tuple",none,.seq #[] 0,#[]⟩
noncomputable def e1:Obj:=⟨.none,none,.fields #[],#[]⟩
noncomputable def sN:Nat->List Str->List Value
 | _,[]=>[]
 | t,s::r=>.str s t::sN (t+1) r
noncomputable def tV(l:List Value):Obj:=⟨.type "tuple",none,.seq l.toArray 0,#[]⟩
noncomputable def vN(t:Nat)(l:List Str):Obj:=tV (sN t l)
noncomputable def tR(l:List Nat):Obj:=tV (l.map .ref)
noncomputable def fG(a:Nat)(st:Stmt)(n q:Str)(t line argc:Nat)(md:Str)(mt:Nat)(l:List Str):List Obj:=[e0,e1,vN (t+3) l,e0,
 ⟨.none,none,.func (fD st q 0 [] .none .none .none .none none .none .none 0),#[]⟩,
 ⟨.type "code",none,.fields #[.str n t,.str q (t+1),.str "/claim/cut.py" (t+2),.int line 0,.int argc 0,.int 0 0,.int 0 0,.int 3 0,.ref a,.bool true,.int 181 0,.ref (a+1),.none,.ref (a+2),.ref (a+3),.ref (a+4),.int (t+3+l.length:Nat) 0,.int line 0,.str "/claim/cut.py" (t+4+l.length)],#[]⟩,
 ⟨.type "function",none,.func (fD st q 3 [] .none .none .none (.str md mt) none (.ref (a+5)) .none 0),#[]⟩]
noncomputable def dO(l:List DictEntry)(n:Nat):Obj:=⟨.type "dict",none,.dict l.toArray n,#[]⟩
noncomputable def fO(l:List Value):Obj:=⟨.none,none,.fields l.toArray,#[]⟩
noncomputable def fl3:List (Nat×Nat×Nat)->List Value
 | []=>[]
 | (a,b,c)::r=>.int a 0::.int b 0::.ref c::fl3 r
noncomputable def alt:List Obj->List Obj
 | []=>[]
 | [a]=>[a]
 | a::_::r=>a::alt r
noncomputable def bt:Nat->List Obj->BT
 | 0,_=>.nil
 | _,[]=>.nil
 | n+1,a::r=>.node a (bt n (alt r)) (bt n (alt r.tail))
noncomputable def dL(P:Params):List DictEntry:=[dE P "__name__" 165 (.str "law_no0290_02" 1324),dE P "__doc__" 166 .none,dE P "__package__" 167 .none,dE P "__loader__" 168 (.builtin "__main__.__loader__#opaque"),dE P "__spec__" 169 .none,dE P "__annotations__" 170 (.ref 6),dE P "__builtins__" 171 (.ref 4),dE P "__file__" 173 (.str "/claim/cut.py" 172),dE P "__cached__" 174 .none,dE P "F77Error" 217 (.ref 31),dE P "SourceError" 243 (.ref 51),dE P "LexFault" 269 (.ref 70),dE P "SyntaxFault" 285 (.ref 82),dE P "DIGITS_squeeze" 289 (.str "0123456789" 288),dE P "AHEAD_OF_COUNT" 291 (.str "(,/:" 290),dE P "capital" 298 (.ref 91),dE P "constant_end" 307 (.ref 98),dE P "count_end" 317 (.ref 105),dE P "hollerith" 328 (.ref 112),dE P "squeeze" 342 (.ref 119),dE P "squeezed" 352 (.ref 126),dE P "depths" 363 (.ref 133),dE P "closing" 373 (.ref 140),dE P "DIGITS_classify" 377 (.str "0123456789" 376),dE P "LETTERS_classify" 379 (.str "ABCDEFGHIJKLMNOPQRSTUVWXYZ" 378),dE P "WHOLE" 388 (.ref 145),dE P "TYPES" 401 (.ref 152),dE P "BEGINS" 458 (.ref 181),dE P "name_end" 467 (.ref 188),dE P "digits_end" 476 (.ref 195),dE P "is_target" 485 (.ref 202),dE P "is_balanced" 495 (.ref 209),dE P "equals_at" 505 (.ref 216),dE P "is_do_head" 513 (.ref 223),dE P "word_of_if" 521 (.ref 230),dE P "word_of_goto" 528 (.ref 237),dE P "word_of_type" 539 (.ref 244),dE P "word_by_begin" 548 (.ref 251),dE P "classify" 558 (.ref 258),dE P "kind_at" 568 (.ref 265),dE P "is_op" 577 (.ref 272),dE P "need_op" 586 (.ref 279),dE P "need_name" 594 (.ref 286),dE P "need_int" 602 (.ref 293),dE P "need_end" 610 (.ref 300),dE P "close_at" 620 (.ref 307),dE P "EQUIVALENCE" 624 (.int 1 623),dE P "NEGATION" 626 (.int 4 625),dE P "RELATION" 628 (.int 5 627),dE P "SUM" 630 (.int 7 629),dE P "POWER" 632 (.int 9 631),dE P "PRIORITIES" 681 (.ref 308),dE P "priority_at" 689 (.ref 315),dE P "parse_expr" 697 (.ref 322),dE P "parse_binary" 711 (.ref 329),dE P "parse_first" 722 (.ref 336),dE P "parse_primary" 731 (.ref 343),dE P "constant_of" 740 (.ref 350),dE P "parse_bracket" 753 (.ref 357),dE P "part_end" 761 (.ref 364),dE P "is_complex" 771 (.ref 371),dE P "complex_part" 780 (.ref 378),dE P "parse_named" 791 (.ref 385),dE P "is_cut" 802 (.ref 392),dE P "parse_cut" 813 (.ref 399),dE P "parse_arguments" 825 (.ref 406),dE P "whole_expr" 834 (.ref 413),dE P "INTEGER" 836 (.int 0 835),dE P "REAL" 838 (.int 1 837),dE P "DOUBLE" 840 (.int 2 839),dE P "COMPLEX" 842 (.int 3 841),dE P "LOGICAL" 844 (.int 4 843),dE P "CHARACTER" 846 (.int 5 845),dE P "LETTERS_lex" 850 (.str "ABCDEFGHIJKLMNOPQRSTUVWXYZ" 849),dE P "DIGITS_lex" 852 (.str "0123456789" 851),dE P "DOTTED" 864 (.ref 414),dE P "TRUTHS" 867 (.ref 415),dE P "SIGNS" 869 (.str "+-*/(),=:" 868),dE P "MOST_NAME" 871 (.int 6 870),dE P "MOST_DIGITS" 873 (.int 1000 872),dE P "run_of" 883 (.ref 422),dE P "dotted_at" 893 (.ref 429),dE P "told_pair" 902 (.ref 436),dE P "power_at" 913 (.ref 443),dE P "number_at" 929 (.ref 450),dE P "quoted_at" 939 (.ref 457),dE P "name_at" 948 (.ref 464),dE P "point_at" 957 (.ref 471),dE P "token_at" 967 (.ref 478),dE P "tokens_of" 977 (.ref 485),dE P "dummy_list" 989 (.ref 492),dE P "named_list" 1000 (.ref 499),dE P "MAIN_NAME" 1004 (.str "$MAIN" 1003),dE P "BLOCK_NAME" 1006 (.str "$BLOCK" 1005),dE P "HEAD_WORDS" 1011 (.ref 500),dE P "TYPE_WORDS" 1018 (.ref 501),dE P "SPEC_WORDS" 1025 (.ref 503),dE P "BLOCK_WORDS" 1034 (.ref 505),dE P "LAST_OF_LOOP" 1050 (.ref 506),dE P "PREFIXES" 1056 (.ref 512),dE P "IMPLICIT_STAGE" 1058 (.int 1 1057),dE P "SPEC_STAGE" 1060 (.int 2 1059),dE P "DATA_STAGE" 1062 (.int 3 1061),dE P "RUN_STAGE" 1064 (.int 4 1063),dE P "RawUnit" 1105 (.ref 529),dE P "UnitMaker" 1142 (.ref 550),dE P "result_of" 1151 (.ref 561),dE P "head_unit" 1162 (.ref 568),dE P "note_label" 1171 (.ref 575),dE P "turn_arm" 1179 (.ref 582),dE P "enter" 1189 (.ref 589),dE P "close_loops" 1198 (.ref 596),dE P "note_arrays" 1209 (.ref 603),dE P "add_spec" 1222 (.ref 610),dE P "add_format" 1231 (.ref 617),dE P "is_stfunc" 1240 (.ref 624),dE P "add_stfunc" 1246 (.ref 629),dE P "add_body" 1257 (.ref 636),dE P "add_executable" 1269 (.ref 643),dE P "add_row" 1281 (.ref 650),dE P "begin_unit" 1294 (.ref 657),dE P "take_row" 1307 (.ref 664),dE P "units_of" 1323 (.ref 671),dE P "_law_kinds" 1331 (.ref 678),dE P "_law_heads" 1337 (.ref 685),dE P "_law_names" 1343 (.ref 692),dE P "_law_dummies" 1349 (.ref 699),dE P "_law_letters" 1351 (.str "ABCDEFGHIJKLMNOPQRSTUVWXYZ" 1350),dE P "_law_digits" 1353 (.str "0123456789" 1352),dE P "_law_take" 1362 (.ref 706),dE P "_law_is_name" 1368 (.ref 711),dE P "_law_named" 1379 (.ref 718),dE P "_law_length" 1385 (.ref 723),dE P "_law_function" 1397 (.ref 730),dE P "_law_head" 1405 (.ref 737),dE P "_law_end" 1413 (.ref 744),dE P "law" 1430 (.ref 751)]
noncomputable def fL:List Value:=fl3 [(2,0,20),(7,0,40),(12,0,59),(17,0,78),(22,0,90),(26,0,97),(35,0,104),(45,0,111),(53,0,118),(78,0,125),(83,0,132),(104,0,139),(116,0,187),(123,0,194),(128,0,201),(138,0,208),(148,0,215),(156,0,222),(163,0,229),(172,0,236),(180,0,243),(194,0,250),(210,0,257),(225,0,264),(229,0,271),(231,0,278),(235,0,285),(239,0,292),(243,0,299),(246,0,306),(263,0,314),(267,0,321),(269,0,328),(284,0,335),(297,0,342),(306,0,349),(316,0,356),(323,0,363),(329,0,370),(335,0,377),(342,0,384),(353,0,391),(364,0,398),(374,0,405),(389,0,412),(408,0,421),(413,0,428),(419,0,435),(427,0,442),(442,0,449),(460,0,456),(473,0,463),(478,0,470),(487,0,477),(503,0,484),(511,0,491),(530,0,498),(549,0,518),(562,0,539),(572,0,560),(585,0,567),(606,0,574),(612,0,581),(617,0,588),(634,0,595),(641,0,602),(646,0,609),(665,0,616),(669,0,623),(676,0,628),(682,0,635),(693,0,642),(706,0,649),(725,0,656),(733,0,663),(739,0,670),(755,0,677),(757,0,684),(759,0,691),(761,0,698),(765,0,705),(767,0,710),(770,0,717),(784,0,722),(799,0,729),(815,0,736),(826,0,743),(828,0,750)]
noncomputable def HL(P:Params):List Obj:=List.flatten [
 [boot_o_0 P,boot_o_1 P,⟨.none,none,(.dict #[dE P "type.__subclasses__.Exception.0" 214 (.int 31 0),dE P "type.__subclasses__.Exception.n" 215 (.int 1 0)] 2),#[]⟩,dO (dL P) 137,boot_o_4 P,boot_o_5 P,boot_o_6 P,boot_o_7 P,boot_o_8 P,boot_o_9 P,boot_o_10 P,e0,fO fL,⟨(.type "code"),none,(.fields #[(.str "<module>" 182),(.str "<module>" 183),(.str "/claim/cut.py" 184),(.int 1 0),(.int 0 0),(.int 0 0),(.int 0 0),(.int 0 0),(.ref 11),(.bool false),(.int 181 0),(.ref 12),.none,.none,.none,.none,(.int 185 0),(.int 1 0),(.str "/claim/cut.py" 186)]),#[]⟩,⟨(.type "frame"),none,.plain,#[(some (.ref 13)),(some (.ref 3)),(some (.ref 3)),none,(some (.str "__main__" 164)),none,(some (.ref 0))]⟩,⟨(.type "tuple"),none,(.seq #[(.type "Exception")] 0),#[]⟩,⟨(.type "builtin_function_or_method"),none,(.fields #[(.builtin "type.__prepare__"),(.type "type")]),#[]⟩,⟨(.type "dict"),none,(.dict #[dE P "__module__" 196 (.str "f77.errors" 187),dE P "__qualname__" 198 (.str "F77Error" 197),dE P "__firstlineno__" 200 (.int 2 199),dE P "__init__" 208 (.ref 28),dE P "__static_attributes__" 210 (.ref 29)] 5),#[]⟩,e0,⟨.none,none,(.fields #[(.int 4 0),(.int 4 0),(.ref 27)]),#[]⟩,⟨(.type "code"),none,(.fields #[(.str "F77Error" 191),(.str "F77Error" 192),(.str "/claim/cut.py" 193),(.int 2 0),(.int 0 0),(.int 0 0),(.int 0 0),(.int 0 0),(.ref 18),(.bool false),(.int 181 0),(.ref 19),.none,.none,.none,.none,(.int 194 0),(.int 2 0),(.str "/claim/cut.py" 195)]),#[]⟩,⟨(.type "frame"),none,.plain,#[(some (.ref 20)),(some (.ref 3)),(some (.ref 17)),none,(some (.str "f77.errors" 187)),none,(some (.ref 0))]⟩],
 fG 22 (bc 1 0) "__init__" "F77Error.__init__" 201 4 2 "f77.errors" 187 ["self","text"],
 [vN 209 ["text"],⟨(.type "dict"),none,(.dict #[dE P "__module__" 196 (.str "f77.errors" 187),dE P "__firstlineno__" 200 (.int 2 199),dE P "__init__" 208 (.ref 28),dE P "__static_attributes__" 210 (.ref 29),dE P "__weakref__" 212 (.ref 32),dE P "__doc__" 213 .none] 3),#[]⟩,⟨(.type "type"),none,(.cls ⟨"F77Error",[(.type "Exception")],[(.ref 31),(.type "Exception"),(.type "BaseException"),(.type "object")],30,"F77Error",true,[],[(.ref 51),(.ref 70),(.ref 82)],false,none,false⟩),#[(some (.ref 15)),none,(some (.str "F77Error" 189)),(some (.str "F77Error" 197)),(some (.builtin "Exception.__new__")),(some (.bool true))]⟩,⟨(.type "getset_descriptor"),none,(.fields #[(.str "__weakref__" 211),(.ref 31),(.builtin "ExceptionGroup.__weakref__"),.none]),#[]⟩,⟨(.type "super"),none,(.fields #[(.ref 31),(.ref 31),(.ref 31)]),#[]⟩,⟨(.type "builtin_function_or_method"),none,(.fields #[(.builtin "object.__init_subclass__"),(.ref 31)]),#[]⟩,tR [31],⟨(.type "builtin_function_or_method"),none,(.fields #[(.builtin "type.__prepare__"),(.type "type")]),#[]⟩,⟨(.type "dict"),none,(.dict #[dE P "__module__" 225 (.str "f77.errors" 187),dE P "__qualname__" 227 (.str "SourceError" 226),dE P "__firstlineno__" 229 (.int 7 228),dE P "__init__" 238 (.ref 48),dE P "__static_attributes__" 240 (.ref 49)] 5),#[]⟩,e0,⟨.none,none,(.fields #[(.int 9 0),(.int 4 0),(.ref 47)]),#[]⟩,⟨(.type "code"),none,(.fields #[(.str "SourceError" 220),(.str "SourceError" 221),(.str "/claim/cut.py" 222),(.int 7 0),(.int 0 0),(.int 0 0),(.int 0 0),(.int 0 0),(.ref 38),(.bool false),(.int 181 0),(.ref 39),.none,.none,.none,.none,(.int 223 0),(.int 7 0),(.str "/claim/cut.py" 224)]),#[]⟩,⟨(.type "frame"),none,.plain,#[(some (.ref 40)),(some (.ref 3)),(some (.ref 37)),none,(some (.str "f77.errors" 187)),none,(some (.ref 0))]⟩],
 fG 42 (bc 2 0) "__init__" "SourceError.__init__" 230 9 3 "f77.errors" 187 ["self","line","text"],
 [vN 239 ["line"],⟨(.type "dict"),none,(.dict #[dE P "__module__" 225 (.str "f77.errors" 187),dE P "__firstlineno__" 229 (.int 7 228),dE P "__init__" 238 (.ref 48),dE P "__static_attributes__" 240 (.ref 49),dE P "__doc__" 241 .none] 2),#[]⟩,⟨(.type "type"),none,(.cls ⟨"SourceError",[(.ref 31)],[(.ref 51),(.ref 31),(.type "Exception"),(.type "BaseException"),(.type "object")],50,"SourceError",true,[],[],false,none,false⟩),#[(some (.ref 35)),none,(some (.str "SourceError" 218)),(some (.str "SourceError" 226)),(some (.builtin "Exception.__new__")),(some (.bool true))]⟩,⟨(.type "super"),none,(.fields #[(.ref 51),(.ref 51),(.ref 51)]),#[]⟩,⟨(.type "builtin_function_or_method"),none,(.fields #[(.builtin "object.__init_subclass__"),(.ref 51)]),#[]⟩,tR [31],⟨(.type "builtin_function_or_method"),none,(.fields #[(.builtin "type.__prepare__"),(.type "type")]),#[]⟩,⟨(.type "dict"),none,(.dict #[dE P "__module__" 251 (.str "f77.errors" 187),dE P "__qualname__" 253 (.str "LexFault" 252),dE P "__firstlineno__" 255 (.int 12 254),dE P "__init__" 264 (.ref 67),dE P "__static_attributes__" 266 (.ref 68)] 5),#[]⟩,e0,⟨.none,none,(.fields #[(.int 14 0),(.int 4 0),(.ref 66)]),#[]⟩,⟨(.type "code"),none,(.fields #[(.str "LexFault" 246),(.str "LexFault" 247),(.str "/claim/cut.py" 248),(.int 12 0),(.int 0 0),(.int 0 0),(.int 0 0),(.int 0 0),(.ref 57),(.bool false),(.int 181 0),(.ref 58),.none,.none,.none,.none,(.int 249 0),(.int 12 0),(.str "/claim/cut.py" 250)]),#[]⟩,⟨(.type "frame"),none,.plain,#[(some (.ref 59)),(some (.ref 3)),(some (.ref 56)),none,(some (.str "f77.errors" 187)),none,(some (.ref 0))]⟩],
 fG 61 (bc 3 0) "__init__" "LexFault.__init__" 256 14 3 "f77.errors" 187 ["self","at","text"],
 [vN 265 ["at"],⟨(.type "dict"),none,(.dict #[dE P "__module__" 251 (.str "f77.errors" 187),dE P "__firstlineno__" 255 (.int 12 254),dE P "__init__" 264 (.ref 67),dE P "__static_attributes__" 266 (.ref 68),dE P "__doc__" 267 .none] 2),#[]⟩,⟨(.type "type"),none,(.cls ⟨"LexFault",[(.ref 31)],[(.ref 70),(.ref 31),(.type "Exception"),(.type "BaseException"),(.type "object")],69,"LexFault",true,[],[],false,none,false⟩),#[(some (.ref 54)),none,(some (.str "LexFault" 244)),(some (.str "LexFault" 252)),(some (.builtin "Exception.__new__")),(some (.bool true))]⟩,⟨(.type "super"),none,(.fields #[(.ref 70),(.ref 70),(.ref 70)]),#[]⟩,⟨(.type "builtin_function_or_method"),none,(.fields #[(.builtin "object.__init_subclass__"),(.ref 70)]),#[]⟩,tR [31],⟨(.type "builtin_function_or_method"),none,(.fields #[(.builtin "type.__prepare__"),(.type "type")]),#[]⟩,⟨(.type "dict"),none,(.dict #[dE P "__module__" 277 (.str "f77.errors" 187),dE P "__qualname__" 279 (.str "SyntaxFault" 278),dE P "__firstlineno__" 281 (.int 17 280),dE P "__static_attributes__" 282 (.ref 80)] 4),#[]⟩,e0,e1,⟨(.type "code"),none,(.fields #[(.str "SyntaxFault" 272),(.str "SyntaxFault" 273),(.str "/claim/cut.py" 274),(.int 17 0),(.int 0 0),(.int 0 0),(.int 0 0),(.int 0 0),(.ref 76),(.bool false),(.int 181 0),(.ref 77),.none,.none,.none,.none,(.int 275 0),(.int 17 0),(.str "/claim/cut.py" 276)]),#[]⟩,⟨(.type "frame"),none,.plain,#[(some (.ref 78)),(some (.ref 3)),(some (.ref 75)),none,(some (.str "f77.errors" 187)),none,(some (.ref 0))]⟩,e0,⟨(.type "dict"),none,(.dict #[dE P "__module__" 277 (.str "f77.errors" 187),dE P "__firstlineno__" 281 (.int 17 280),dE P "__static_attributes__" 282 (.ref 80),dE P "__doc__" 283 .none] 2),#[]⟩,⟨(.type "type"),none,(.cls ⟨"SyntaxFault",[(.ref 31)],[(.ref 82),(.ref 31),(.type "Exception"),(.type "BaseException"),(.type "object")],81,"SyntaxFault",true,[],[],false,none,false⟩),#[(some (.ref 73)),none,(some (.str "SyntaxFault" 270)),(some (.str "SyntaxFault" 278)),(some (.builtin "Exception.__new__")),(some (.bool true))]⟩,⟨(.type "super"),none,(.fields #[(.ref 82),(.ref 82),(.ref 82)]),#[]⟩,⟨(.type "builtin_function_or_method"),none,(.fields #[(.builtin "object.__init_subclass__"),(.ref 82)]),#[]⟩],
 fG 85 (bd 8) "capital" "capital" 292 22 1 "f77.squeeze" 286 ["sign"],
 fG 92 (bd 9) "constant_end" "constant_end" 299 26 2 "f77.squeeze" 286 ["text","at","end"],
 fG 99 (bd 10) "count_end" "count_end" 308 35 2 "f77.squeeze" 286 ["text","at","count","end"],
 fG 106 (bd 11) "hollerith" "hollerith" 318 45 2 "f77.squeeze" 286 ["text","at","count","begin","inner"],
 fG 113 (bd 12) "squeeze" "squeeze" 329 53 1 "f77.squeeze" 286 ["text","out","last","at","sign","constant","end","part"],
 fG 120 (bd 13) "squeezed" "squeezed" 343 78 1 "f77.squeeze" 286 ["text","row","sign","is_inside"],
 fG 127 (bd 14) "depths" "depths" 353 83 1 "f77.squeeze" 286 ["row","out","depth","is_inside","sign"],
 fG 134 (bd 15) "closing" "closing" 364 104 2 "f77.squeeze" 286 ["row","at","levels","end"],
 [vN 380 ["ELSE","else"],vN 382 ["ENDIF","endif"],vN 384 ["END","end"],vN 386 ["CONTINUE","continue"],⟨(.type "list"),none,(.seq #[(.ref 141),(.ref 142),(.ref 143),(.ref 144)] 0),#[]⟩,vN 389 ["INTEGER","integer"],vN 391 ["REAL","real"],vN 393 ["DOUBLEPRECISION","doubleprecision"],vN 395 ["COMPLEX","complex"],vN 397 ["LOGICAL","logical"],vN 399 ["CHARACTER","character"],⟨(.type "list"),none,(.seq #[(.ref 146),(.ref 147),(.ref 148),(.ref 149),(.ref 150),(.ref 151)] 0),#[]⟩,vN 402 ["FORMAT(","format"],vN 404 ["CALL","call"],vN 406 ["RETURN","return"],vN 408 ["STOP","stop"],vN 410 ["PAUSE","pause"],vN 412 ["READ","read"],vN 414 ["WRITE(","write"],vN 416 ["PRINT","print"],vN 418 ["OPEN(","open"],vN 420 ["CLOSE(","close"],vN 422 ["INQUIRE(","inquire"],vN 424 ["BACKSPACE","backspace"],vN 426 ["REWIND","rewind"],vN 428 ["ENDFILE","endfile"],vN 430 ["IMPLICIT","implicit"],vN 432 ["PARAMETER(","parameter"],vN 434 ["DIMENSION","dimension"],vN 436 ["COMMON","common"],vN 438 ["EQUIVALENCE(","equivalence"],vN 440 ["EXTERNAL","external"],vN 442 ["INTRINSIC","intrinsic"],vN 444 ["SAVE","save"],vN 446 ["DATA","data"],vN 448 ["PROGRAM","program"],vN 450 ["SUBROUTINE","subroutine"],vN 452 ["FUNCTION","function"],vN 454 ["BLOCKDATA","blockdata"],vN 456 ["ENTRY","entry"],⟨(.type "list"),none,(.seq #[(.ref 153),(.ref 154),(.ref 155),(.ref 156),(.ref 157),(.ref 158),(.ref 159),(.ref 160),(.ref 161),(.ref 162),(.ref 163),(.ref 164),(.ref 165),(.ref 166),(.ref 167),(.ref 168),(.ref 169),(.ref 170),(.ref 171),(.ref 172),(.ref 173),(.ref 174),(.ref 175),(.ref 176),(.ref 177),(.ref 178),(.ref 179),(.ref 180)] 0),#[]⟩],
 fG 182 (bd 22) "name_end" "name_end" 459 116 2 "f77.classify" 374 ["row","at","end"],
 fG 189 (bd 23) "digits_end" "digits_end" 468 123 2 "f77.classify" 374 ["row","at","end"],
 fG 196 (bd 24) "is_target" "is_target" 477 128 1 "f77.classify" 374 ["text","at","turn"],
 fG 203 (bd 25) "is_balanced" "is_balanced" 486 138 2 "f77.classify" 374 ["row","levels","depth","place"],
 fG 210 (bd 26) "equals_at" "equals_at" 496 148 2 "f77.classify" 374 ["row","levels","found","place"],
 fG 217 (bd 27) "is_do_head" "is_do_head" 506 156 1 "f77.classify" 374 ["head","end"],
 fG 224 (bd 28) "word_of_if" "word_of_if" 514 163 1 "f77.classify" 374 ["row","rest"],
 fG 231 (bd 29) "word_of_goto" "word_of_goto" 522 172 1 "f77.classify" 374 ["row"],
 fG 238 (bd 30) "word_of_type" "word_of_type" 529 180 1 "f77.classify" 374 ["row","text","word","at","end"],
 fG 245 (bd 31) "word_by_begin" "word_by_begin" 540 194 1 "f77.classify" 374 ["row","text","word"],
 fG 252 (bd 32) "classify" "classify" 549 210 1 "f77.classify" 374 ["row","levels","at","has_comma"],
 fG 259 (bd 34) "kind_at" "kind_at" 561 225 2 "f77.peek" 559 ["tokens","at"],
 fG 266 (bd 35) "is_op" "is_op" 569 229 3 "f77.peek" 559 ["tokens","at","text"],
 fG 273 (bd 36) "need_op" "need_op" 578 231 3 "f77.peek" 559 ["tokens","at","text"],
 fG 280 (bd 37) "need_name" "need_name" 587 235 2 "f77.peek" 559 ["tokens","at"],
 fG 287 (bd 38) "need_int" "need_int" 595 239 2 "f77.peek" 559 ["tokens","at"],
 fG 294 (bd 39) "need_end" "need_end" 603 243 2 "f77.peek" 559 ["tokens","at"],
 fG 301 (bd 40) "close_at" "close_at" 611 246 2 "f77.peek" 559 ["tokens","at","depth","place"],
 [⟨(.type "dict"),none,(.dict #[dE P ".EQV." 633 (.int 1 634),dE P ".NEQV." 636 (.int 1 637),dE P ".OR." 639 (.int 2 640),dE P ".AND." 642 (.int 3 643),dE P ".EQ." 645 (.int 5 646),dE P ".NE." 648 (.int 5 649),dE P ".LT." 651 (.int 5 652),dE P ".LE." 654 (.int 5 655),dE P ".GT." 657 (.int 5 658),dE P ".GE." 660 (.int 5 661),dE P "//" 663 (.int 6 664),dE P "+" 666 (.int 7 667),dE P "-" 669 (.int 7 670),dE P "*" 672 (.int 8 673),dE P "/" 675 (.int 8 676),dE P "**" 678 (.int 9 679)] 16),#[]⟩],
 fG 309 (bd 48) "priority_at" "priority_at" 682 263 2 "f77.exprs" 621 ["tokens","at"],
 fG 316 (bd 49) "parse_expr" "parse_expr" 690 267 2 "f77.exprs" 621 ["tokens","at"],
 fG 323 (bd 50) "parse_binary" "parse_binary" 698 269 3 "f77.exprs" 621 ["tokens","at","least","tree","was_relation","level","op","right"],
 fG 330 (bd 51) "parse_first" "parse_first" 712 284 3 "f77.exprs" 621 ["tokens","at","least","tree","sign"],
 fG 337 (bd 52) "parse_primary" "parse_primary" 723 297 2 "f77.exprs" 621 ["tokens","at","kind"],
 fG 344 (bd 53) "constant_of" "constant_of" 732 306 3 "f77.exprs" 621 ["kind","value","sign"],
 fG 351 (bd 54) "parse_bracket" "parse_bracket" 741 316 2 "f77.exprs" 621 ["tokens","at","left","comma","right","end","tree"],
 fG 358 (bd 55) "part_end" "part_end" 754 323 2 "f77.exprs" 621 ["tokens","at"],
 fG 365 (bd 56) "is_complex" "is_complex" 762 329 2 "f77.exprs" 621 ["tokens","at","comma","end"],
 fG 372 (bd 57) "complex_part" "complex_part" 772 335 2 "f77.exprs" 621 ["tokens","at","sign"],
 fG 379 (bd 58) "parse_named" "parse_named" 781 342 2 "f77.exprs" 621 ["tokens","at","name","tree","rows"],
 fG 386 (bd 59) "is_cut" "is_cut" 792 353 2 "f77.exprs" 621 ["tokens","at","end","depth","place"],
 fG 393 (bd 60) "parse_cut" "parse_cut" 803 364 3 "f77.exprs" 621 ["tokens","at","base","low","high"],
 fG 400 (bd 61) "parse_arguments" "parse_arguments" 814 374 3 "f77.exprs" 621 ["tokens","at","may_return","rows","label","tree"],
 fG 407 (bd 62) "whole_expr" "whole_expr" 826 389 1 "f77.exprs" 621 ["tokens","tree","at"],
 [vN 853 [".EQ.",".NE.",".LT.",".LE.",".GT.",".GE.",".NOT.",".AND.",".OR.",".EQV.",".NEQV."],vN 865 [".TRUE.",".FALSE."]],
 fG 416 (bd 77) "run_of" "run_of" 874 408 3 "f77.lex" 847 ["text","at","signs","end"],
 fG 423 (bd 78) "dotted_at" "dotted_at" 884 413 2 "f77.lex" 847 ["text","at","end","word"],
 fG 430 (bd 79) "told_pair" "told_pair" 894 419 2 "f77.lex" 847 ["digits","power","m"],
 fG 437 (bd 80) "power_at" "power_at" 903 427 2 "f77.lex" 847 ["text","at","begun","end","power"],
 fG 444 (bd 81) "number_at" "number_at" 914 442 2 "f77.lex" 847 ["text","at","end","digits","fraction","has_point","behind","letter","power","pair"],
 fG 451 (bd 82) "quoted_at" "quoted_at" 930 460 2 "f77.lex" 847 ["text","at","signs","here"],
 fG 458 (bd 83) "name_at" "name_at" 940 473 2 "f77.lex" 847 ["text","at","end"],
 fG 465 (bd 84) "point_at" "point_at" 949 478 2 "f77.lex" 847 ["text","at","word"],
 fG 472 (bd 85) "token_at" "token_at" 958 487 2 "f77.lex" 847 ["text","at","sign","end"],
 fG 479 (bd 86) "tokens_of" "tokens_of" 968 503 1 "f77.lex" 847 ["squeezed","out","at","token"],
 fG 486 (bd 88) "dummy_list" "dummy_list" 980 511 2 "f77.stmts" 978 ["tokens","at","dummies","name"],
 fG 493 (bd 89) "named_list" "named_list" 990 530 1 "f77.stmts" 978 ["row","tokens","name","at","dummies"],
 [vN 1007 ["program","subroutine","function","blockdata"],vN 1012 ["integer","real","doubleprecision","complex","logical","character"],vN 1019 ["dimension","common","equivalence","external","intrinsic","save"],⟨(.type "tuple"),none,(.seq #[(.str "integer" 1012),(.str "real" 1013),(.str "doubleprecision" 1014),(.str "complex" 1015),(.str "logical" 1016),(.str "character" 1017),(.str "dimension" 1019),(.str "common" 1020),(.str "equivalence" 1021),(.str "external" 1022),(.str "intrinsic" 1023),(.str "save" 1024)] 0),#[]⟩,vN 1026 ["dimension","common","equivalence","save","implicit","parameter","data","end"],⟨(.type "tuple"),none,(.seq #[(.str "integer" 1012),(.str "real" 1013),(.str "doubleprecision" 1014),(.str "complex" 1015),(.str "logical" 1016),(.str "character" 1017),(.str "dimension" 1026),(.str "common" 1027),(.str "equivalence" 1028),(.str "save" 1029),(.str "implicit" 1030),(.str "parameter" 1031),(.str "data" 1032),(.str "end" 1033)] 0),#[]⟩,vN 1035 ["assign","setlabel","cgoto","lif","continue","call","pause","read","write","open","close","inquire","backspace","rewind","endfile"],⟨(.type "tuple"),none,(.seq #[(.str "INTEGER" 1051),(.int 0 835)] 0),#[]⟩,⟨(.type "tuple"),none,(.seq #[(.str "REAL" 1052),(.int 1 837)] 0),#[]⟩,⟨(.type "tuple"),none,(.seq #[(.str "DOUBLEPRECISION" 1053),(.int 2 839)] 0),#[]⟩,⟨(.type "tuple"),none,(.seq #[(.str "COMPLEX" 1054),(.int 3 841)] 0),#[]⟩,⟨(.type "tuple"),none,(.seq #[(.str "LOGICAL" 1055),(.int 4 843)] 0),#[]⟩,tR [507,508,509,510,511],e0,⟨(.type "builtin_function_or_method"),none,(.fields #[(.builtin "type.__prepare__"),(.type "type")]),#[]⟩,⟨(.type "dict"),none,(.dict #[dE P "__module__" 1072 (.str "f77.units" 1001),dE P "__qualname__" 1074 (.str "RawUnit" 1073),dE P "__firstlineno__" 1076 (.int 549 1075),dE P "__init__" 1087 (.ref 526),dE P "__static_attributes__" 1098 (.ref 527)] 5),#[]⟩,e0,⟨.none,none,(.fields #[(.int 551 0),(.int 4 0),(.ref 525)]),#[]⟩,⟨(.type "code"),none,(.fields #[(.str "RawUnit" 1067),(.str "RawUnit" 1068),(.str "/claim/cut.py" 1069),(.int 549 0),(.int 0 0),(.int 0 0),(.int 0 0),(.int 0 0),(.ref 516),(.bool false),(.int 181 0),(.ref 517),.none,.none,.none,.none,(.int 1070 0),(.int 549 0),(.str "/claim/cut.py" 1071)]),#[]⟩,⟨(.type "frame"),none,.plain,#[(some (.ref 518)),(some (.ref 3)),(some (.ref 515)),none,(some (.str "f77.units" 1001)),none,(some (.ref 0))]⟩],
 fG 520 (bc 103 0) "__init__" "RawUnit.__init__" 1077 551 5 "f77.units" 1001 ["self","kind","name","dummies","result"],
 [vN 1088 ["body","dummies","entries","formats","kind","labels","name","result","specs","stfuncs"],⟨(.type "dict"),none,(.dict #[dE P "__module__" 1072 (.str "f77.units" 1001),dE P "__firstlineno__" 1076 (.int 549 1075),dE P "__init__" 1087 (.ref 526),dE P "__static_attributes__" 1098 (.ref 527),dE P "__dict__" 1100 (.ref 530),dE P "__weakref__" 1102 (.ref 531),dE P "__doc__" 1103 .none] 4),#[]⟩,⟨(.type "type"),none,(.cls ⟨"RawUnit",[(.type "object")],[(.ref 529),(.type "object")],528,"RawUnit",true,[],[],false,none,false⟩),#[none,none,(some (.str "RawUnit" 1065)),(some (.str "RawUnit" 1073)),(some (.builtin "object.__new__")),(some (.bool true))]⟩,⟨(.type "getset_descriptor"),none,(.fields #[(.str "__dict__" 1099),(.ref 529),(.builtin "function.__dict__"),(.builtin "function.__dict__#set")]),#[]⟩,⟨(.type "getset_descriptor"),none,(.fields #[(.str "__weakref__" 1101),(.ref 529),(.builtin "ExceptionGroup.__weakref__"),.none]),#[]⟩,⟨(.type "super"),none,(.fields #[(.ref 529),(.ref 529),(.ref 529)]),#[]⟩,⟨(.type "builtin_function_or_method"),none,(.fields #[(.builtin "object.__init_subclass__"),(.ref 529)]),#[]⟩,e0,⟨(.type "builtin_function_or_method"),none,(.fields #[(.builtin "type.__prepare__"),(.type "type")]),#[]⟩,⟨(.type "dict"),none,(.dict #[dE P "__module__" 1113 (.str "f77.units" 1001),dE P "__qualname__" 1115 (.str "UnitMaker" 1114),dE P "__firstlineno__" 1117 (.int 562 1116),dE P "__init__" 1127 (.ref 547),dE P "__static_attributes__" 1135 (.ref 548)] 5),#[]⟩,e0,⟨.none,none,(.fields #[(.int 564 0),(.int 4 0),(.ref 546)]),#[]⟩,⟨(.type "code"),none,(.fields #[(.str "UnitMaker" 1108),(.str "UnitMaker" 1109),(.str "/claim/cut.py" 1110),(.int 562 0),(.int 0 0),(.int 0 0),(.int 0 0),(.int 0 0),(.ref 537),(.bool false),(.int 181 0),(.ref 538),.none,.none,.none,.none,(.int 1111 0),(.int 562 0),(.str "/claim/cut.py" 1112)]),#[]⟩,⟨(.type "frame"),none,.plain,#[(some (.ref 539)),(some (.ref 3)),(some (.ref 536)),none,(some (.str "f77.units" 1001)),none,(some (.ref 0))]⟩],
 fG 541 (bc 104 0) "__init__" "UnitMaker.__init__" 1118 564 4 "f77.units" 1001 ["self","unit","parsers","specs"],
 [vN 1128 ["arrays","labels","nest","parsers","specs","stage","unit"],⟨(.type "dict"),none,(.dict #[dE P "__module__" 1113 (.str "f77.units" 1001),dE P "__firstlineno__" 1117 (.int 562 1116),dE P "__init__" 1127 (.ref 547),dE P "__static_attributes__" 1135 (.ref 548),dE P "__dict__" 1137 (.ref 551),dE P "__weakref__" 1139 (.ref 552),dE P "__doc__" 1140 .none] 4),#[]⟩,⟨(.type "type"),none,(.cls ⟨"UnitMaker",[(.type "object")],[(.ref 550),(.type "object")],549,"UnitMaker",true,[],[],false,none,false⟩),#[none,none,(some (.str "UnitMaker" 1106)),(some (.str "UnitMaker" 1114)),(some (.builtin "object.__new__")),(some (.bool true))]⟩,⟨(.type "getset_descriptor"),none,(.fields #[(.str "__dict__" 1136),(.ref 550),(.builtin "function.__dict__"),(.builtin "function.__dict__#set")]),#[]⟩,⟨(.type "getset_descriptor"),none,(.fields #[(.str "__weakref__" 1138),(.ref 550),(.builtin "ExceptionGroup.__weakref__"),.none]),#[]⟩,⟨(.type "super"),none,(.fields #[(.ref 550),(.ref 550),(.ref 550)]),#[]⟩,⟨(.type "builtin_function_or_method"),none,(.fields #[(.builtin "object.__init_subclass__"),(.ref 550)]),#[]⟩],
 fG 555 (bd 105) "result_of" "result_of" 1143 572 1 "f77.units" 1001 ["prefix","text","kind"],
 fG 562 (bd 106) "head_unit" "head_unit" 1152 585 2 "f77.units" 1001 ["word","row","name","dummies","at"],
 fG 569 (bd 107) "note_label" "note_label" 1163 606 3 "f77.units" 1001 ["maker","label","line"],
 fG 576 (bd 108) "turn_arm" "turn_arm" 1172 612 2 "f77.units" 1001 ["nest","word"],
 fG 583 (bd 109) "enter" "enter" 1180 617 2 "f77.units" 1001 ["maker","stmt","nest","word"],
 fG 590 (bd 110) "close_loops" "close_loops" 1190 634 3 "f77.units" 1001 ["nest","label","word"],
 fG 597 (bd 111) "note_arrays" "note_arrays" 1199 641 2 "f77.units" 1001 ["maker","spec","name","dims","length"],
 fG 604 (bd 112) "add_spec" "add_spec" 1210 646 4 "f77.units" 1001 ["maker","line","word","row","stage","most","spec"],
 fG 611 (bd 113) "add_format" "add_format" 1223 665 3 "f77.units" 1001 ["maker","label","row"],
 fG 618 (bd 114) "is_stfunc" "is_stfunc" 1232 669 2 "f77.units" 1001 ["maker","stmt","tree"],
 [e0,e1,⟨.none,none,(.func (fD (bd 115) "add_stfunc" 0 [] .none .none .none .none none .none .none 0)),#[]⟩,⟨(.type "code"),none,(.fields #[(.str "add_stfunc" 1241),(.str "add_stfunc" 1242),(.str "/claim/cut.py" 1243),(.int 676 0),(.int 4 0),(.int 0 0),(.int 0 0),(.int 3 0),(.ref 625),(.bool true),(.int 181 0),(.ref 626),.none,.none,.none,(.ref 627),(.int 1244 0),(.int 676 0),(.str "/claim/cut.py" 1245)]),#[]⟩,⟨(.type "function"),none,(.func (fD (bd 115) "add_stfunc" 3 [] .none .none .none (.str "f77.units" 1001) none (.ref 628) .none 0)),#[]⟩],
 fG 630 (bd 116) "add_body" "add_body" 1247 682 4 "f77.units" 1001 ["maker","line","label","stmt","unit"],
 fG 637 (bd 117) "add_executable" "add_executable" 1258 693 5 "f77.units" 1001 ["maker","line","label","word","row","stmt"],
 fG 644 (bd 118) "add_row" "add_row" 1270 706 5 "f77.units" 1001 ["maker","line","label","word","row","last"],
 fG 651 (bd 119) "begin_unit" "begin_unit" 1282 725 6 "f77.units" 1001 ["line","label","word","row","parsers","specs","maker"],
 fG 658 (bd 120) "take_row" "take_row" 1295 733 6 "f77.units" 1001 ["maker","line","label","row","parsers","specs","word"],
 fG 665 (bd 121) "units_of" "units_of" 1308 739 3 "f77.units" 1001 ["rows","parsers","specs","units","maker","line","label","text","word","fault"],
 [e0,e1,e0,e0,⟨.none,none,(.func (fD (bd 123) "_law_kinds" 0 [] .none .none .none .none none .none .none 0)),#[]⟩,⟨(.type "code"),none,(.fields #[(.str "_law_kinds" 1326),(.str "_law_kinds" 1327),(.str "/claim/cut.py" 1328),(.int 755 0),(.int 0 0),(.int 0 0),(.int 0 0),(.int 3 0),(.ref 672),(.bool true),(.int 181 0),(.ref 673),.none,(.ref 674),(.ref 675),(.ref 676),(.int 1329 0),(.int 755 0),(.str "/claim/cut.py" 1330)]),#[]⟩,⟨(.type "function"),none,(.func (fD (bd 123) "_law_kinds" 3 [] .none .none .none (.str "law_no0290_02" 1324) none (.ref 677) .none 0)),#[]⟩,e0,e1,e0,e0,⟨.none,none,(.func (fD (bd 124) "_law_heads" 0 [] .none .none .none .none none .none .none 0)),#[]⟩,⟨(.type "code"),none,(.fields #[(.str "_law_heads" 1332),(.str "_law_heads" 1333),(.str "/claim/cut.py" 1334),(.int 757 0),(.int 0 0),(.int 0 0),(.int 0 0),(.int 3 0),(.ref 679),(.bool true),(.int 181 0),(.ref 680),.none,(.ref 681),(.ref 682),(.ref 683),(.int 1335 0),(.int 757 0),(.str "/claim/cut.py" 1336)]),#[]⟩,⟨(.type "function"),none,(.func (fD (bd 124) "_law_heads" 3 [] .none .none .none (.str "law_no0290_02" 1324) none (.ref 684) .none 0)),#[]⟩,e0,e1,e0,e0,⟨.none,none,(.func (fD (bd 125) "_law_names" 0 [] .none .none .none .none none .none .none 0)),#[]⟩,⟨(.type "code"),none,(.fields #[(.str "_law_names" 1338),(.str "_law_names" 1339),(.str "/claim/cut.py" 1340),(.int 759 0),(.int 0 0),(.int 0 0),(.int 0 0),(.int 3 0),(.ref 686),(.bool true),(.int 181 0),(.ref 687),.none,(.ref 688),(.ref 689),(.ref 690),(.int 1341 0),(.int 759 0),(.str "/claim/cut.py" 1342)]),#[]⟩,⟨(.type "function"),none,(.func (fD (bd 125) "_law_names" 3 [] .none .none .none (.str "law_no0290_02" 1324) none (.ref 691) .none 0)),#[]⟩,e0,e1,e0,e0,⟨.none,none,(.func (fD (bd 126) "_law_dummies" 0 [] .none .none .none .none none .none .none 0)),#[]⟩,⟨(.type "code"),none,(.fields #[(.str "_law_dummies" 1344),(.str "_law_dummies" 1345),(.str "/claim/cut.py" 1346),(.int 761 0),(.int 0 0),(.int 0 0),(.int 0 0),(.int 3 0),(.ref 693),(.bool true),(.int 181 0),(.ref 694),.none,(.ref 695),(.ref 696),(.ref 697),(.int 1347 0),(.int 761 0),(.str "/claim/cut.py" 1348)]),#[]⟩,⟨(.type "function"),none,(.func (fD (bd 126) "_law_dummies" 3 [] .none .none .none (.str "law_no0290_02" 1324) none (.ref 698) .none 0)),#[]⟩],
 fG 700 (bd 129) "_law_take" "_law_take" 1354 765 3 "law_no0290_02" 1324 ["script","at","many"],
 [e0,e1,⟨.none,none,(.func (fD (bd 130) "_law_is_name" 0 [] .none .none .none .none none .none .none 0)),#[]⟩,⟨(.type "code"),none,(.fields #[(.str "_law_is_name" 1363),(.str "_law_is_name" 1364),(.str "/claim/cut.py" 1365),(.int 767 0),(.int 1 0),(.int 0 0),(.int 0 0),(.int 3 0),(.ref 707),(.bool true),(.int 181 0),(.ref 708),.none,.none,.none,(.ref 709),(.int 1366 0),(.int 767 0),(.str "/claim/cut.py" 1367)]),#[]⟩,⟨(.type "function"),none,(.func (fD (bd 130) "_law_is_name" 3 [] .none .none .none (.str "law_no0290_02" 1324) none (.ref 710) .none 0)),#[]⟩],
 fG 712 (bd 131) "_law_named" "_law_named" 1369 770 1 "law_no0290_02" 1324 ["text","name","inner","dummies","k"],
 [e0,e1,⟨.none,none,(.func (fD (bd 132) "_law_length" 0 [] .none .none .none .none none .none .none 0)),#[]⟩,⟨(.type "code"),none,(.fields #[(.str "_law_length" 1380),(.str "_law_length" 1381),(.str "/claim/cut.py" 1382),(.int 784 0),(.int 1 0),(.int 0 0),(.int 0 0),(.int 3 0),(.ref 719),(.bool true),(.int 181 0),(.ref 720),.none,.none,.none,(.ref 721),(.int 1383 0),(.int 784 0),(.str "/claim/cut.py" 1384)]),#[]⟩,⟨(.type "function"),none,(.func (fD (bd 132) "_law_length" 3 [] .none .none .none (.str "law_no0290_02" 1324) none (.ref 722) .none 0)),#[]⟩],
 fG 724 (bd 133) "_law_function" "_law_function" 1386 799 1 "law_no0290_02" 1324 ["row","at","named","prefix","word","length"],
 fG 731 (bd 134) "_law_head" "_law_head" 1398 815 1 "law_no0290_02" 1324 ["row","named"],
 fG 738 (bd 135) "_law_end" "_law_end" 1406 826 2 "law_no0290_02" 1324 ["parsers","row"],
 fG 745 (bd 136) "law" "law" 1414 828 1 "law_no0290_02" 1324 ["script","which","text","how","at","sign","want","units","fault","unit","got"]]
noncomputable def tSa(P:Params):BT:=bt 11 (((((HL P).take 15).set 2 (boot_o_2 P)).set 3 (boot_o_3 P)).set 12 (e1))
noncomputable def tSb(P:Params):BT:=bt 11 (((((HL P).take 15).set 2 (boot_o_2 P)).set 3 (boot_o_3 P)).set 12 (e1))
noncomputable def tS3(P:Params):BT:=bt 11 (((((HL P).take 54).set 3 (dO (((dL P).take 11).set 0 (dE P "__name__" 165 (.str "f77.errors" 187))) 11)).set 12 (⟨.none,none,(.fields #[(.int 2 0),(.int 0 0),(.ref 20),(.int 7 0),(.int 0 0),(.ref 40)]),#[]⟩)).set 31 (⟨(.type "type"),none,(.cls ⟨"F77Error",[(.type "Exception")],[(.ref 31),(.type "Exception"),(.type "BaseException"),(.type "object")],30,"F77Error",true,[],[(.ref 51)],false,none,false⟩),#[(some (.ref 15)),none,(some (.str "F77Error" 189)),(some (.str "F77Error" 197)),(some (.builtin "Exception.__new__")),(some (.bool true))]⟩))
noncomputable def tS14(P:Params):BT:=bt 11 ((((HL P).take 127).set 3 (dO (((dL P).take 21).set 0 (dE P "__name__" 165 (.str "f77.squeeze" 286))) 21)).set 12 (fO (fL.take 30)))
noncomputable def JM(P:Params):BT:=bt 11 ((((HL P).take 273).set 3 (dO (((dL P).take 41).set 0 (dE P "__name__" 165 (.str "f77.peek" 559))) 41)).set 12 (fO (fL.take 75)))
noncomputable def z0z(P:Params):BT:=bt 11 ((((HL P).take 358).set 3 (dO (((dL P).take 59).set 0 (dE P "__name__" 165 (.str "f77.exprs" 621))) 59)).set 12 (fO (fL.take 111)))
noncomputable def tS86(P:Params):BT:=bt 11 ((((HL P).take 479).set 3 (dO (((dL P).take 89).set 0 (dE P "__name__" 165 (.str "f77.lex" 847))) 89)).set 12 (fO (fL.take 162)))
noncomputable def z1C(P:Params):BT:=bt 11 ((((HL P).take 534).set 3 (dO (((dL P).take 105).set 0 (dE P "__name__" 165 (.str "f77.units" 1001))) 105)).set 12 (fO (fL.take 174)))
noncomputable def z1m(P:Params):BT:=bt 11 ((((HL P).take 651).set 3 (dO (((dL P).take 120).set 0 (dE P "__name__" 165 (.str "f77.units" 1001))) 120)).set 12 (fO (fL.take 219)))
noncomputable def z1v(P:Params):BT:=bt 11 ((HL P).take 752)
noncomputable def env:Env:={scope:=PySem.Challenge.pw_no0290_02.main.scope,locals:=mainNs,globals:=mainNs,cells:=[],code:=.ref 13,frame:=some 14}
noncomputable def cE:Code:=.body (behindTheImports PySem.Challenge.pw_no0290_02) env
noncomputable def kas:List Addr:=[2,3,15,22,24,25,27,28,29,30,31,32,35,42,44,45,47,48,49,50,51,54,61,63,64,66,67,68,69,70,73,80,81,82,85,87,88,90,91,92,94,95,97,98,99,101,102,104,105,106,108,109,111,112,113,115,116,118,119,120,122,123,125,126,127,129,130,132,133,134,136,137,139,140,141,142,143,144,145,146,147,148,149,150,151,152,153,154,155,156,157,158,159,160,161,162,163,164,165,166,167,168,169,170,171,172,173,174,175,176,177,178,179,180,181,182,184,185,187,188,189,191,192,194,195,196,198,199,201,202,203,205,206,208,209,210,212,213,215,216,217,219,220,222,223,224,226,227,229,230,231,233,234,236,237,238,240,241,243,244,245,247,248,250,251,252,254,255,257,258,259,261,262,264,265,266,268,269,271,272,273,275,276,278,279,280,282,283,285,286,287,289,290,292,293,294,296,297,299,300,301,303,304,306,307,308,309,311,312,314,315,316,318,319,321,322,323,325,326,328,329,330,332,333,335,336,337,339,340,342,343,344,346,347,349,350,351,353,354,356,357,358,360,361,363,364,365,367,368,370,371,372,374,375,377,378,379,381,382,384,385,386,388,389,391,392,393,395,396,398,399,400,402,403,405,406,407,409,410,412,413,414,415,416,418,419,421,422,423,425,426,428,429,430,432,433,435,436,437,439,440,442,443,444,446,447,449,450,451,453,454,456,457,458,460,461,463,464,465,467,468,470,471,472,474,475,477,478,479,481,482,484,485,486,488,489,491,492,493,495,496,498,499,500,503,505,506,507,508,509,510,511,512,520,522,523,525,526,527,528,529,530,531,541,543,544,546,547,548,549,550,551,552,555,557,558,560,561,562,564,565,567,568,569,571,572,574,575,576,578,579,581,582,583,585,586,588,589,590,592,593,595,596,597,599,600,602,603,604,606,607,609,610,611,613,614,616,617,618,620,621,623,624,625,628,629,630,632,633,635,636,637,639,640,642,643,644,646,647,649,650,651,653,654,656,657,658,660,661,663,664,665,667,668,670,671,672,674,675,677,678,679,681,682,684,685,686,688,689,691,692,693,695,696,698,699,700,702,703,705,706,707,710,711,712,714,715,717,718,719,722,723,724,726,727,729,730,731,733,734,736,737,738,740,741,743,744,745,747,748,750,751]
noncomputable def pick:Nat->List Addr->List Obj->Frag
 | _,[],_=>[]
 | _,_,[]=>[]
 | i,k::ks,o::r=>if Nat.beq i k then(k,o)::pick (i+1) ks r else pick (i+1) (k::ks) r
noncomputable def KP(P:Params):Frag:=pick 0 kas (HL P)
theorem pcS3:∀ (w:World) (os:OsState),segRunT treeTable PySem.Challenge.pw_no0290_02 (w) 11 (some (.ref 6)) 1 487 ⟨tSb (w).params,15,{},#[],{},187,os⟩ (piecesOf (sl 0 3) env cE ⟨0,0,0,0⟩ [topFrame ⟨0,0,0,0⟩])=some (.next,⟨tS3 (w).params,54,{},#[],{},244,os⟩,cE,⟨7,0,11,24⟩):=by
 intro w os
 show segRunT treeTable _ _ _ _ _ _ _ ⟨(execs _ _).wrap _ _ _ _,_,_,_⟩=_
 rw[PySem.W.Fast.te10110043849684766642,PySem.W.Fast.te14364793385576792824,PySem.W.Fast.te12563942051412417395]
 kernel_rfl
theorem pcS14:∀ (w:World) (os:OsState),segRunT treeTable PySem.Challenge.pw_no0290_02 (w) 11 (some (.ref 6)) 1 691 ⟨tS3 (w).params,54,{},#[],{},244,os⟩ (piecesOf (sl 3 11) env cE ⟨7,0,11,24⟩ [topFrame ⟨0,0,0,0⟩])=some (.next,⟨tS14 (w).params,127,{},#[],{},353,os⟩,cE,⟨78,0,82,14⟩):=by
 intro w os
 show segRunT treeTable _ _ _ _ _ _ _ ⟨(execs _ _).wrap _ _ _ _,_,_,_⟩=_
 rw[PySem.W.Fast.te10110043849684766642,PySem.W.Fast.te14364793385576792824,PySem.W.Fast.te12563942051412417395]
 kernel_rfl
theorem pcS36:∀ (w:World) (os:OsState),segRunT treeTable PySem.Challenge.pw_no0290_02 (w) 11 (some (.ref 6)) 1 709 ⟨tS14 (w).params,127,{},#[],{},353,os⟩ (piecesOf (sl 14 22) env cE ⟨78,0,82,14⟩ [topFrame ⟨0,0,0,0⟩])=some (.next,⟨JM (w).params,273,{},#[],{},578,os⟩,cE,⟨229,0,230,81⟩):=by
 intro w os
 show segRunT treeTable _ _ _ _ _ _ _ ⟨(execs _ _).wrap _ _ _ _,_,_,_⟩=_
 rw[PySem.W.Fast.te10110043849684766642,PySem.W.Fast.te14364793385576792824,PySem.W.Fast.te12563942051412417395]
 kernel_rfl
theorem z32:∀ (w:World) (os:OsState),segRunT treeTable PySem.Challenge.pw_no0290_02 (w.withFollow "special-get-raises" false) 11 (some (.ref 6)) 1 704 ⟨JM (w.withFollow "special-get-raises" false).params,273,{},#[],{},578,os⟩ (piecesOf (sl 36 19) env cE ⟨229,0,230,81⟩ [topFrame ⟨0,0,0,0⟩])=some (.next,⟨z0z (w.withFollow "special-get-raises" false).params,358,{},#[],{},754,os⟩,cE,⟨316,0,322,43⟩):=by
 intro w os
 show segRunT treeTable _ _ _ _ _ _ _ ⟨(execs _ _).wrap _ _ _ _,_,_,_⟩=_
 rw[PySem.W.Fast.te10110043849684766642,PySem.W.Fast.te14364793385576792824,PySem.W.Fast.te12563942051412417395]
 kernel_rfl
theorem z2w:∀ (w:World) (os:OsState),segRunT treeTable PySem.Challenge.pw_no0290_02 (w.withFollow "special-get-raises" true) 11 (some (.ref 6)) 1 704 ⟨JM (w.withFollow "special-get-raises" true).params,273,{},#[],{},578,os⟩ (piecesOf (sl 36 19) env cE ⟨229,0,230,81⟩ [topFrame ⟨0,0,0,0⟩])=some (.next,⟨z0z (w.withFollow "special-get-raises" true).params,358,{},#[],{},754,os⟩,cE,⟨316,0,322,43⟩):=by
 intro w os
 show segRunT treeTable _ _ _ _ _ _ _ ⟨(execs _ _).wrap _ _ _ _,_,_,_⟩=_
 rw[PySem.W.Fast.te10110043849684766642,PySem.W.Fast.te14364793385576792824,PySem.W.Fast.te12563942051412417395]
 kernel_rfl
theorem pcS86:∀ (w:World) (os:OsState),segRunT treeTable PySem.Challenge.pw_no0290_02 (w) 11 (some (.ref 6)) 1 722 ⟨z0z (w).params,358,{},#[],{},754,os⟩ (piecesOf (sl 55 31) env cE ⟨316,0,322,43⟩ [topFrame ⟨0,0,0,0⟩])=some (.next,⟨tS86 (w).params,479,{},#[],{},968,os⟩,cE,⟨487,0,502,42⟩):=by
 intro w os
 show segRunT treeTable _ _ _ _ _ _ _ ⟨(execs _ _).wrap _ _ _ _,_,_,_⟩=_
 rw[PySem.W.Fast.te10110043849684766642,PySem.W.Fast.te14364793385576792824,PySem.W.Fast.te12563942051412417395]
 kernel_rfl
theorem z3m:∀ (w:World) (os:OsState),segRunT treeTable PySem.Challenge.pw_no0290_02 (w) 11 (some (.ref 6)) 1 578 ⟨tS86 (w).params,479,{},#[],{},968,os⟩ (piecesOf (sl 86 18) env cE ⟨487,0,502,42⟩ [topFrame ⟨0,0,0,0⟩])=some (.next,⟨z1C (w).params,534,{},#[],{},1106,os⟩,cE,⟨549,0,561,25⟩):=by
 intro w os
 show segRunT treeTable _ _ _ _ _ _ _ ⟨(execs _ _).wrap _ _ _ _,_,_,_⟩=_
 rw[PySem.W.Fast.te10110043849684766642,PySem.W.Fast.te14364793385576792824,PySem.W.Fast.te12563942051412417395]
 kernel_rfl
theorem z1K:∀ (w:World) (os:OsState),segRunT treeTable PySem.Challenge.pw_no0290_02 (w) 11 (some (.ref 6)) 1 691 ⟨z1C (w).params,534,{},#[],{},1106,os⟩ (piecesOf (sl 104 15) env cE ⟨549,0,561,25⟩ [topFrame ⟨0,0,0,0⟩])=some (.next,⟨z1m (w).params,651,{},#[],{},1282,os⟩,cE,⟨706,0,724,44⟩):=by
 intro w os
 show segRunT treeTable _ _ _ _ _ _ _ ⟨(execs _ _).wrap _ _ _ _,_,_,_⟩=_
 rw[PySem.W.Fast.te10110043849684766642,PySem.W.Fast.te14364793385576792824,PySem.W.Fast.te12563942051412417395]
 kernel_rfl
theorem z3e:∀ (w:World) (os:OsState),segRunT treeTable PySem.Challenge.pw_no0290_02 (w) 11 (some (.ref 6)) 1 515 ⟨z1m (w).params,651,{},#[],{},1282,os⟩ (piecesOf (sl 119 18) env cE ⟨706,0,724,44⟩ [topFrame ⟨0,0,0,0⟩])=some (.next,⟨z1v (w).params,752,{},#[],{},1431,os⟩,cE,⟨828,0,849,118⟩):=by
 intro w os
 show segRunT treeTable _ _ _ _ _ _ _ ⟨(execs _ _).wrap _ _ _ _,_,_,_⟩=_
 rw[PySem.W.Fast.te10110043849684766642,PySem.W.Fast.te14364793385576792824,PySem.W.Fast.te12563942051412417395]
 kernel_rfl
noncomputable def H1(P:Params):Heap:=⟨⟨HL P⟩,{}⟩
theorem pre_:∀ (w:World) (os:OsState),topGo treeTable PySem.Challenge.pw_no0290_02 w 11 (some (.ref 6)) 12 ⟨boot_heap w.params,Array.mk [],boot_drawn,boot_toks,os⟩ (topStub PySem.Challenge.pw_no0290_02)=some (SharedT.abs ⟨tSb w.params,15,{},#[],{},187,os⟩,⟨denote treeTable cE,cE,⟨0,0,0,0⟩,[topFrame ⟨0,0,0,0⟩]⟩):=by
 intro w os
 rw[PySem.W.Fast.te15667345088766844465,PySem.W.Fast.te14364793385576792824,PySem.W.Fast.te11892475500146522536]
 kernel_rfl
theorem z3c:∀ (w:World) (os:OsState),segRunT treeTable PySem.Challenge.pw_no0290_02 w 11 (some (.ref 6)) 1 1 ⟨tSb w.params,15,{},#[],{},187,os⟩ (blockOf (behindTheImports PySem.Challenge.pw_no0290_02) env cE ⟨0,0,0,0⟩ [topFrame ⟨0,0,0,0⟩])=some (.next,⟨tSb w.params,15,{},#[],{},187,os⟩,cE,⟨0,0,0,0⟩):=by
 intro w os
 rw[PySem.W.Fast.te10110043849684766642,PySem.W.Fast.te14364793385576792824]
 kernel_rfl
theorem fin_:∀ (w:World) (os:OsState),topRun treeTable PySem.Challenge.pw_no0290_02 w 11 (some (.ref 6)) 2 (SharedT.abs ⟨z1v w.params,752,{},#[],{},1431,os⟩) ⟨doneF .next,cE,⟨828,0,849,118⟩,[topFrame ⟨0,0,0,0⟩]⟩=some ⟨H1 w.params,#[],{},1431,os⟩:=by
 intro w os
 rw[PySem.W.Fast.te14082659384304107361,PySem.W.Fast.te14364793385576792824]
 kernel_rfl
theorem body_:behindTheImports PySem.Challenge.pw_no0290_02=(sl 0 3++(sl 3 11++(sl 14 22++(sl 36 19++(sl 55 31++(sl 86 18++(sl 104 15++(sl 119 18++[])))))))):=by kernel_rfl
theorem pcS55:∀ (w:World) (os:OsState),segRunT treeTable PySem.Challenge.pw_no0290_02 w 11 (some (.ref 6)) 1 704 ⟨JM w.params,273,{},#[],{},578,os⟩ (piecesOf (sl 36 19) env cE ⟨229,0,230,81⟩ [topFrame ⟨0,0,0,0⟩])=some (.next,⟨z0z w.params,358,{},#[],{},754,os⟩,cE,⟨316,0,322,43⟩):=by
 intro w os
 have e:=World.withFollow_self w "special-get-raises"
 cases hb:w.params.followText "special-get-raises"<;>rw[hb] at e
 ·have h:=z32 w os
  rw[e] at h
  exact h
 ·have h:=z2w w os
  rw[e] at h
  exact h
theorem run_(w:World)(os:OsState):topRun treeTable PySem.Challenge.pw_no0290_02 w 11 (some (.ref 6)) (12+(1+(487+(691+(709+(704+(722+(578+(691+(515+2)))))))))) ⟨boot_heap w.params,Array.mk [],boot_drawn,boot_toks,os⟩ (topStub PySem.Challenge.pw_no0290_02)=some ⟨H1 w.params,#[],{},1431,os⟩:=
 go_top (pre_ w os) (piece_block (segRun_of (z3c w os)) (by rw[body_];exact(piece_app (segRun_of (pcS3 w os)) (piece_app (segRun_of (pcS14 w os)) (piece_app (segRun_of (pcS36 w os)) (piece_app (segRun_of (pcS55 w os)) (piece_app (segRun_of (pcS86 w os)) (piece_app (segRun_of (z3m w os)) (piece_app (segRun_of (z1K w os)) (piece_app (segRun_of (z3e w os)) (piece_nil (fin_ w os))))))))))))
noncomputable def qv:Program:={PySem.Challenge.pw_no0290_02 with main:={PySem.Challenge.pw_no0290_02.main with body:=[bd 136]}}
noncomputable def loose:List Str:=[Str.ofString "F77Error",Str.ofString "SourceError",Str.ofString "LexFault",Str.ofString "SyntaxFault",Str.ofString "DIGITS_squeeze",Str.ofString "AHEAD_OF_COUNT",Str.ofString "capital",Str.ofString "constant_end",Str.ofString "count_end",Str.ofString "hollerith",Str.ofString "squeeze",Str.ofString "squeezed",Str.ofString "depths",Str.ofString "closing",Str.ofString "DIGITS_classify",Str.ofString "LETTERS_classify",Str.ofString "WHOLE",Str.ofString "TYPES",Str.ofString "BEGINS",Str.ofString "name_end",Str.ofString "digits_end",Str.ofString "is_target",Str.ofString "is_balanced",Str.ofString "equals_at",Str.ofString "is_do_head",Str.ofString "word_of_if",Str.ofString "word_of_goto",Str.ofString "word_of_type",Str.ofString "word_by_begin",Str.ofString "classify",Str.ofString "kind_at",Str.ofString "is_op",Str.ofString "need_op",Str.ofString "need_name",Str.ofString "need_int",Str.ofString "need_end",Str.ofString "close_at",Str.ofString "EQUIVALENCE",Str.ofString "NEGATION",Str.ofString "RELATION",Str.ofString "SUM",Str.ofString "POWER",Str.ofString "PRIORITIES",Str.ofString "priority_at",Str.ofString "parse_expr",Str.ofString "parse_binary",Str.ofString "parse_first",Str.ofString "parse_primary",Str.ofString "constant_of",Str.ofString "parse_bracket",Str.ofString "part_end",Str.ofString "is_complex",Str.ofString "complex_part",Str.ofString "parse_named",Str.ofString "is_cut",Str.ofString "parse_cut",Str.ofString "parse_arguments",Str.ofString "whole_expr",Str.ofString "INTEGER",Str.ofString "REAL",Str.ofString "DOUBLE",Str.ofString "COMPLEX",Str.ofString "LOGICAL",Str.ofString "CHARACTER",Str.ofString "LETTERS_lex",Str.ofString "DIGITS_lex",Str.ofString "DOTTED",Str.ofString "TRUTHS",Str.ofString "SIGNS",Str.ofString "MOST_NAME",Str.ofString "MOST_DIGITS",Str.ofString "run_of",Str.ofString "dotted_at",Str.ofString "told_pair",Str.ofString "power_at",Str.ofString "number_at",Str.ofString "quoted_at",Str.ofString "name_at",Str.ofString "point_at",Str.ofString "token_at",Str.ofString "tokens_of",Str.ofString "dummy_list",Str.ofString "named_list",Str.ofString "MAIN_NAME",Str.ofString "BLOCK_NAME",Str.ofString "HEAD_WORDS",Str.ofString "TYPE_WORDS",Str.ofString "SPEC_WORDS",Str.ofString "BLOCK_WORDS",Str.ofString "LAST_OF_LOOP",Str.ofString "PREFIXES",Str.ofString "IMPLICIT_STAGE",Str.ofString "SPEC_STAGE",Str.ofString "DATA_STAGE",Str.ofString "RUN_STAGE",Str.ofString "RawUnit",Str.ofString "UnitMaker",Str.ofString "result_of",Str.ofString "head_unit",Str.ofString "note_label",Str.ofString "turn_arm",Str.ofString "enter",Str.ofString "close_loops",Str.ofString "note_arrays",Str.ofString "add_spec",Str.ofString "add_format",Str.ofString "is_stfunc",Str.ofString "add_stfunc",Str.ofString "add_body",Str.ofString "add_executable",Str.ofString "add_row",Str.ofString "begin_unit",Str.ofString "take_row",Str.ofString "units_of",Str.ofString "_law_kinds",Str.ofString "_law_heads",Str.ofString "_law_names",Str.ofString "_law_dummies",Str.ofString "_law_letters",Str.ofString "_law_digits",Str.ofString "_law_take",Str.ofString "_law_is_name",Str.ofString "_law_named",Str.ofString "_law_length",Str.ofString "_law_function",Str.ofString "_law_head",Str.ofString "_law_end"]
theorem open_:∀ w:World,(fencedOpening treeTable PySem.Challenge.pw_no0290_02 w 10030).map (λ s=>(s.heap,s.gens,s.drawn,s.toks))=some (boot_heap w.params,Array.mk [],boot_drawn,boot_toks):=
 boot_open (by kernel_rfl) (by decide) (λ s=>by kernel_rfl)
theorem size_:∀ w:World,((boot_heap w.params).isNs mainGlobals&&(Array.mk []:Array GenState).size==0,(boot_heap w.params).objs.size,(boot_heap w.params).nsMap mainGlobals "__annotations__")=(true,11,some (.ref 6)):=by
 intro w
 kernel_rfl
theorem look1:∀ (w:World) (os:OsState),(staticsOk (importedModules PySem.Challenge.pw_no0290_02.main.body) (boot_heap w.params) (H1 w.params)&&namesBound PySem.Challenge.pw_no0290_02 (H1 w.params)&&gensDone ⟨H1 w.params,#[],{},1431,os⟩&&laidKept (boot_heap w.params) (H1 w.params))=true:=by
 intro w os
 kernel_rfl
theorem look3:∀ (w:World) (os:OsState),kas.map (Heap.get? (Shared.heap ⟨H1 w.params,#[],{},1431,os⟩))=(KP w.params).map λ p=>some p.2:=by
 intro w os
 kernel_rfl
theorem look2:∀ (w:World) (os:OsState),openSeen qv loose (importedModules PySem.Challenge.pw_no0290_02.main.body) (λ s=>xlAt qv [] s&&recOk [] s) true ⟨H1 w.params,#[],{},1431,os⟩=openGood qv loose:=by
 intro w os
 rw[PySem.W.Fast.te4187177175401517315]
 kernel_rfl
abbrev pwH:=PySem.Challenge.pw_no0290_02
abbrev rw_:=PySem.Challenge.rw_no0290_02
noncomputable def Yg:Hook:=kHook KP kas (λ _=>by kernel_rfl)
theorem left_:LeftO pwH qv loose (λ s=>xlAt qv [] s&&recOk [] s) (Hook.obs Yg) (Hook.val Yg) 10030:=
 LeftO.of_pieces (open_:=open_) (size:=size_) (run:=run_) (le:=by decide)
  (looks:=λ w=>funext λ os=>looks_pair (look1 w os) (looks_pair (look2 w os) (look3 w os)))
theorem said_:OpenLaw.wellSaid rw_=true:=by
 rw[PySem.W.Fast.te9446332074065402090]
 kernel_rfl
noncomputable def z3h:Stmt->DefRec
 | .FunctionDef n a b _ _ _ sc _ _ p=>⟨n,a,b,sc,p⟩
 | _=>⟨"",⟨[],[],none,[],[],none,[]⟩,[],default,⟨0,0,0,0⟩⟩
noncomputable def lawRec:DefRec:=z3h (bd 136)
theorem def_:defOf qv (OpenRow.toRowW (OpenLaw.row rw_)).name=some (lawRec,[]):=by kernel_rfl
theorem ok_:(chainsOk qv&&opensWell (OpenRow.toRowW (OpenLaw.row rw_)).prog&&(frees (OpenRow.toRowW (OpenLaw.row rw_))&&(OpenRow.toRowW (OpenLaw.row rw_)).within.isEmpty))=true:=by decide +kernel
theorem z2K(hc:WalkO qv loose (XL qv []) (Hook.says Yg) (OpenRow.toRowW (OpenLaw.row rw_)) lawRec [] (λ f vs=>PySem.call f vs))(hw:(OpenRow.toRowW (OpenLaw.row rw_)).promised):rw_.Holds:=by
 refine holds_law said_ λ said=>?_
 refine holds_open (q:=qv) (loose:=loose) (Xt:=λ s=>xlAt qv [] s&&recOk [] s) (XP:=XL qv []) (Yf:=Hook.obs Yg) (Ya:=Hook.val Yg) (YP:=Hook.says Yg) (N:=10030) left_ (Hook.of Yg) (Hook.keeps Yg)
  (λ s e=>xl_of s (Bool.and_eq_true_iff.mp e).1) XL.keeps def_ (by kernel_rfl) (by kernel_rfl) (λ s e=>recFacts_of (Bool.and_eq_true_iff.mp e).2) (by rfl) said ok_ ⟨rfl,rfl,rfl,rfl,rfl,by decide +kernel⟩ hw hc
theorem wit_:(OpenRow.toRowW (OpenLaw.row rw_)).promised:=by w_witness2
end
theorem n1{α:Type _}{a:α}{C:Prop}(h:none=some a):C:=nomatch h
theorem n2{α:Type _}{a:α}{C:Prop}(h:some a=none):C:=nomatch h
theorem tf{C:Prop}(h:true=false):C:=nomatch h
theorem ft{C:Prop}(h:false=true):C:=nomatch h
theorem so{α:Type _}{a b:α}{C:Prop}(h:some a=some b)(k:a=b->C):C:=k (Option.some.inj h)
inductive Ex2{α0 α1:Type}(P:α0->α1->Prop):Prop where | mk (a0:α0) (a1:α1):P a0 a1->Ex2 P
inductive Ex3{α0 α1 α2:Type}(P:α0->α1->α2->Prop):Prop where | mk (a0:α0) (a1:α1) (a2:α2):P a0 a1 a2->Ex3 P
inductive Ex4{α0 α1 α2 α3:Type}(P:α0->α1->α2->α3->Prop):Prop where | mk (a0:α0) (a1:α1) (a2:α2) (a3:α3):P a0 a1 a2 a3->Ex4 P
inductive Ex5{α0 α1 α2 α3 α4:Type}(P:α0->α1->α2->α3->α4->Prop):Prop where | mk (a0:α0) (a1:α1) (a2:α2) (a3:α3) (a4:α4):P a0 a1 a2 a3 a4->Ex5 P
inductive Ex6{α0 α1 α2 α3 α4 α5:Type}(P:α0->α1->α2->α3->α4->α5->Prop):Prop where | mk (a0:α0) (a1:α1) (a2:α2) (a3:α3) (a4:α4) (a5:α5):P a0 a1 a2 a3 a4 a5->Ex6 P
inductive Ex7{α0 α1 α2 α3 α4 α5 α6:Type}(P:α0->α1->α2->α3->α4->α5->α6->Prop):Prop where | mk (a0:α0) (a1:α1) (a2:α2) (a3:α3) (a4:α4) (a5:α5) (a6:α6):P a0 a1 a2 a3 a4 a5 a6->Ex7 P
inductive Ex8{α0 α1 α2 α3 α4 α5 α6 α7:Type}(P:α0->α1->α2->α3->α4->α5->α6->α7->Prop):Prop where | mk (a0:α0) (a1:α1) (a2:α2) (a3:α3) (a4:α4) (a5:α5) (a6:α6) (a7:α7):P a0 a1 a2 a3 a4 a5 a6 a7->Ex8 P
inductive Ex9{α0 α1 α2 α3 α4 α5 α6 α7 α8:Type}(P:α0->α1->α2->α3->α4->α5->α6->α7->α8->Prop):Prop where | mk (a0:α0) (a1:α1) (a2:α2) (a3:α3) (a4:α4) (a5:α5) (a6:α6) (a7:α7) (a8:α8):P a0 a1 a2 a3 a4 a5 a6 a7 a8->Ex9 P
inductive Ex10{α0 α1 α2 α3 α4 α5 α6 α7 α8 α9:Type}(P:α0->α1->α2->α3->α4->α5->α6->α7->α8->α9->Prop):Prop where | mk (a0:α0) (a1:α1) (a2:α2) (a3:α3) (a4:α4) (a5:α5) (a6:α6) (a7:α7) (a8:α8) (a9:α9):P a0 a1 a2 a3 a4 a5 a6 a7 a8 a9->Ex10 P
inductive Ex11{α0 α1 α2 α3 α4 α5 α6 α7 α8 α9 α10:Type}(P:α0->α1->α2->α3->α4->α5->α6->α7->α8->α9->α10->Prop):Prop where | mk (a0:α0) (a1:α1) (a2:α2) (a3:α3) (a4:α4) (a5:α5) (a6:α6) (a7:α7) (a8:α8) (a9:α9) (a10:α10):P a0 a1 a2 a3 a4 a5 a6 a7 a8 a9 a10->Ex11 P
inductive Ex12{α0 α1 α2 α3 α4 α5 α6 α7 α8 α9 α10 α11:Type}(P:α0->α1->α2->α3->α4->α5->α6->α7->α8->α9->α10->α11->Prop):Prop where | mk (a0:α0) (a1:α1) (a2:α2) (a3:α3) (a4:α4) (a5:α5) (a6:α6) (a7:α7) (a8:α8) (a9:α9) (a10:α10) (a11:α11):P a0 a1 a2 a3 a4 a5 a6 a7 a8 a9 a10 a11->Ex12 P
inductive A3(p0 p1 p2:Prop):Prop where | mk:p0->p1->p2->A3 p0 p1 p2
inductive A4(p0 p1 p2 p3:Prop):Prop where | mk:p0->p1->p2->p3->A4 p0 p1 p2 p3
inductive A5(p0 p1 p2 p3 p4:Prop):Prop where | mk:p0->p1->p2->p3->p4->A5 p0 p1 p2 p3 p4
inductive A6(p0 p1 p2 p3 p4 p5:Prop):Prop where | mk:p0->p1->p2->p3->p4->p5->A6 p0 p1 p2 p3 p4 p5
inductive A7(p0 p1 p2 p3 p4 p5 p6:Prop):Prop where | mk:p0->p1->p2->p3->p4->p5->p6->A7 p0 p1 p2 p3 p4 p5 p6
inductive A9(p0 p1 p2 p3 p4 p5 p6 p7 p8:Prop):Prop where | mk:p0->p1->p2->p3->p4->p5->p6->p7->p8->A9 p0 p1 p2 p3 p4 p5 p6 p7 p8
inductive A10(p0 p1 p2 p3 p4 p5 p6 p7 p8 p9:Prop):Prop where | mk:p0->p1->p2->p3->p4->p5->p6->p7->p8->p9->A10 p0 p1 p2 p3 p4 p5 p6 p7 p8 p9
@[elab_as_elim] theorem rwl{α:Sort _}{a b:α}{M:α->Prop}(h:a=b)(k:M b):M a:=h ▸ k
@[elab_as_elim] theorem rwr{α:Sort _}{a b:α}{M:α->Prop}(h:b=a)(k:M b):M a:=h ▸ k
variable {α β:Type}{d i j k:Nat}{y:V}{M I M' I':Led}{v:Value}{t:Expr}{H H':Hp}{l al:List (List Nat×V)}{r:Bool}{s is p q nm:List Nat}{all xs:List V}{L:Lc}{m m' mg mb:Str->Option Value}{c:Cx}{w:World}{vs:List Value}{es:List DictEntry}{ob:Obj}{μ:List Addr}{ds acc:List (List Nat)}{h h' h₀:Heap}{Q X X':Value->Shared->Prop}{kvs:List (Str×Value)}{A:Around}{ns:List Int}{pos p1 p2:Pos}{ts:List Expr}{C D:Addr}{rest:List (Addr×Obj)}{od:Option (List (List Nat))}{body:List Stmt}
inductive V where
 | none | bool (b:Bool) | int (i:Int) | str (s:List Nat)
 | tup (l:List V)
 | ref (i:Nat)
 | fn (k:Nat)
 | cls (k:Nat)
 | exc (k:Nat) (d:Nat)
 | clst (l:List V)
 | cdct (l:List (List Nat×Int))
 deriving Inhabited
mutual
noncomputable def V.beq:V->V->Bool
 | .none,.none=>true
 | .bool a,.bool b=>a==b
 | .int a,.int b=>a==b
 | .str a,.str b=>a==b
 | .tup a,.tup b=>V.beqL a b
 | .ref a,.ref b=>a==b
 | .fn a,.fn b=>a==b
 | .cls a,.cls b=>a==b
 | .exc a d,.exc b e=>a==b&&d==e
 | .clst a,.clst b=>V.beqL a b
 | .cdct a,.cdct b=>a==b
 | _,_=>false
noncomputable def V.beqL:List V->List V->Bool
 | [],[]=>true
 | a::r,b::q=>V.beq a b&&V.beqL r q
 | _,_=>false
end
theorem V.beqB{a b:Bool}(h:(a&&b)=true):a=true/\b=true:=Bool.and_eq_true_iff.mp h
theorem V.beq_self(a:V):V.beq a a=true:=
 V.rec (motive_1:=λ a=>V.beq a a=true) (motive_2:=λ l=>V.beqL l l=true) rfl beq_self_eq_true beq_self_eq_true beq_self_eq_true (λ _ h=>h) beq_self_eq_true beq_self_eq_true beq_self_eq_true
  (λ a d=>Bool.and_eq_true_iff.mpr ⟨beq_self_eq_true a,beq_self_eq_true d⟩) (λ _ h=>h) beq_self_eq_true rfl (λ _ _ h g=>Bool.and_eq_true_iff.mpr ⟨h,g⟩) a
theorem V.beqL_self:∀ a:List V,V.beqL a a=true
 | []=>rfl
 | a::r=>Bool.and_eq_true_iff.mpr ⟨V.beq_self a,V.beqL_self r⟩
theorem V.beq_eq(a b:V)(h:V.beq a b=true):a=b:=
 V.rec (motive_1:=λ a=>∀ b,V.beq a b=true->a=b) (motive_2:=λ l=>∀ b,V.beqL l b=true->l=b) (λ b h=>by cases b<;>first | rfl | cases h) (λ _ b h=>by cases b<;>first | exact congrArg V.bool (eq_of_beq h) | cases h)
  (λ _ b h=>by cases b<;>first | exact congrArg V.int (eq_of_beq h) | cases h) (λ _ b h=>by cases b<;>first | exact congrArg V.str (eq_of_beq h) | cases h) (λ _ q b h=>by cases b<;>first | exact congrArg V.tup (q _ h) | cases h)
  (λ _ b h=>by cases b<;>first | exact congrArg V.ref (eq_of_beq h) | cases h) (λ _ b h=>by cases b<;>first | exact congrArg V.fn (eq_of_beq h) | cases h) (λ _ b h=>by cases b<;>first | exact congrArg V.cls (eq_of_beq h) | cases h)
  (λ _ _ b h=>by cases b<;>first | exact congr (congrArg V.exc (eq_of_beq (V.beqB h).1)) (eq_of_beq (V.beqB h).2) | cases h) (λ _ q b h=>by cases b<;>first | exact congrArg V.clst (q _ h) | cases h)
  (λ _ b h=>by cases b<;>first | exact congrArg V.cdct (eq_of_beq h) | cases h) (λ b h=>by cases b<;>first | rfl | cases h) (λ _ _ p q b h=>by cases b<;>first | exact congr (congrArg List.cons (p _ (V.beqB h).1)) (q _ (V.beqB h).2) | cases h) a b h
theorem V.beqL_eq:∀ a b:List V,V.beqL a b=true->a=b
 | [],b,h=>by cases b<;>first | rfl | cases h
 | a::r,b,h=>by cases b<;>first | exact congr (congrArg List.cons (V.beq_eq _ _ (V.beqB h).1)) (V.beqL_eq _ _ (V.beqB h).2) | cases h
inductive O where
 | lst (l:List V)
 | dct (l:List (List Nat×V))
 | att (l:List (List Nat×V))
 | inst (k:Nat) (d:Nat)
noncomputable def Vn:List (List Nat×V)->List (List Nat×V)->Bool
 | [],[]=>true
 | (a,v)::r,(b,u)::q=>a==b&&V.beq v u&&Vn r q
 | _,_=>false
theorem qh:∀ l,Vn l l=true
 | []=>rfl
 | (a,v)::r=>Bool.and_eq_true_iff.mpr ⟨Bool.and_eq_true_iff.mpr ⟨beq_self_eq_true a,V.beq_self v⟩,qh r⟩
theorem ka:∀ a b,Vn a b=true->a=b
 | [],b,h=>by cases b<;>first | rfl | cases h
 | (a,v)::r,b,h=>by
  cases b with
  | nil=>cases h
  | cons p q=>exact congr (congrArg List.cons (congr (congrArg Prod.mk (eq_of_beq (V.beqB (V.beqB h).1).1)) (V.beq_eq _ _ (V.beqB (V.beqB h).1).2))) (ka _ _ (V.beqB h).2)
noncomputable def O.beq:O->O->Bool
 | .lst a,.lst b=>V.beqL a b
 | .dct a,.dct b=>Vn a b
 | .att a,.att b=>Vn a b
 | .inst a d,.inst b e=>a==b&&d==e
 | _,_=>false
theorem O.beq_self(a:O):O.beq a a=true:=by cases a<;>first | exact V.beqL_self _ | exact qh _ | exact Bool.and_eq_true_iff.mpr ⟨beq_self_eq_true _,beq_self_eq_true _⟩
theorem O.beq_eq(a b:O)(h:O.beq a b=true):a=b:=by
 cases a<;>cases b<;>first | cases h;done | exact congrArg O.lst (V.beqL_eq _ _ h) | exact congrArg O.dct (ka _ _ h) | exact congrArg O.att (ka _ _ h) | exact congr (congrArg O.inst (eq_of_beq (V.beqB h).1)) (eq_of_beq (V.beqB h).2)
abbrev Hp:=List O
abbrev Lc:=List (Option V)
noncomputable def wj:Hp->Hp->Bool
 | [],_=>true
 | a::r,b::q=>O.beq a b&&wj r q
 | _::_,[]=>false
theorem Zc:∀ (H J:Hp),wj H (H++J)=true
 | [],_=>rfl
 | a::r,J=>by simp [wj,O.beq_self,Zc r J]
theorem kI(H:Hp):wj H H=true:=by have:=Zc H [];rwa [List.append_nil] at this
theorem wi:∀ {H G:Hp},wj H G=true->∃ J,G=H++J
 | [],G,_=>⟨G,rfl⟩
 | a::r,[],h=>by simp [wj] at h
 | a::r,b::q,h=>by
  simp only[wj,Bool.and_eq_true] at h
  obtain⟨J,rfl⟩:=wi h.2
  exact⟨J,by rw[O.beq_eq _ _ h.1];rfl⟩
inductive R(α:Type) where
 | ok (a:α) (H:Hp)
 | exc (k:Nat) (d:Nat) (H:Hp)
 | bad
noncomputable def R.bind{α β:Type}(r:R α)(f:α->Hp->R β):R β:=match r with
 | .ok a H=>f a H
 | .exc k d H=>.exc k d H
 | .bad=>.bad
@[simp] theorem R.bind_ok(a:α)(H:Hp)(f:α->Hp->R β):(R.ok a H).bind f=f a H:=rfl
@[simp] theorem R.bind_exc(k d:Nat)(H:Hp)(f:α->Hp->R β):(R.exc k d H:R α).bind f=.exc k d H:=rfl
@[simp] theorem R.bind_bad(f:α->Hp->R β):(R.bad:R α).bind f=.bad:=rfl
inductive Bop where | add | sub | mul | mod | pow
inductive Cop where | eq | ne | lt | le | gt | ge | is_ | isnot | in_ | notin
inductive Bi where | len | ord | max
inductive Me where | replace | find | split | count | get
inductive E where
 | cst (v:V)
 | loc (i:Nat)
 | glb (i:Nat)
 | bop (k:Bop) (a b:E)
 | cmp (k:Cop) (a b:E)
 | cmp2 (k₁ k₂:Cop) (a b c:E)
 | and_ (a b:E) | or_ (a b:E) | not_ (a:E) | neg (a:E)
 | ite (c a b:E)
 | bi (k:Bi) (as:E)
 | int_ (a:E)
 | call (f:E) (as:E)
 | me (k:Me) (o:E) (as:E)
 | attr (o:E) (n:List Nat)
 | idx (o i:E)
 | slc (o lo hi:E)
 | inSl (a l k:E)
 | tup (as:E) | lst (as:E) | dct (ks vs:E)
 | nil | cons (a r:E)
set_option genCtorIdx false in
inductive S where
 | asg (i:Nat) (e:E)
 | asgT (is:List Nat) (e:E)
 | asgA (o:E) (n:List Nat) (e:E)
 | aug (i:Nat) (k:Bop) (e:E)
 | app (o a:E)
 | ex (e:E)
 | if_ (c:E) (t e:S)
 | whl (c:E) (b:S)
 | forE (is:List Nat) (src:E) (b:S)
 | forR (i:Nat) (as:E) (b:S)
 | ret (e:E)
 | rai (k:Nat) (as:E)
 | try_ (is:List Nat) (e:E) (k:Nat) (i:Nat) (h:S)
 | cont | pass | bad
 | nil | cons (s r:S)
inductive Out where
 | next (L:Lc) (H:Hp)
 | cont (L:Lc) (H:Hp)
 | ret (v:V) (H:Hp)
 | exc (k:Nat) (d:Nat) (H:Hp)
 | bad
noncomputable def zE(i:Int):Bool:=decide (i.natAbs<2 ^ 60)
noncomputable def ii{α:Type}(d:α)(x y:V)(f:Int->Int->α):α:=match x with
 | .int a=>match y with
  | .int b=>f a b
  | _=>d
 | _=>d
theorem ZG{d:α}{x:V}{f:Int->Int->α}(P:α->Prop){M:V->V->Prop}(p:P (ii d x y f))(n:P d->False)(k:∀ a b,P (f a b)->M (.int a) (.int b)):M x y:=by
 cases x<;>first | exact(n p).elim | skip
 cases y<;>first | exact(n p).elim | skip
 exact k _ _ p
noncomputable def ss{α:Type}(d:α)(x y:V)(f:List Nat->List Nat->α):α:=match x with
 | .str a=>match y with
  | .str b=>f a b
  | _=>d
 | _=>d
theorem ss_e{d:α}{x:V}{f:List Nat->List Nat->α}(P:α->Prop){M:V->V->Prop}(p:P (ss d x y f))(n:P d->False)(k:∀ a b,P (f a b)->M (.str a) (.str b)):M x y:=by
 cases x<;>first | exact(n p).elim | skip
 cases y<;>first | exact(n p).elim | skip
 exact k _ _ p
noncomputable def xT(k:Bop)(x y:V)(H:Hp):R V:=match k with
 | .add=>match x with
  | .int _=>ii .bad x y λ a b=>.ok (.int (a+b)) H
  | .str _=>ss .bad x y λ a b=>if decide (a.length+b.length<2 ^ 20) then .ok (.str (a++b)) H else .bad
  | .ref a=>match y with
   | .ref b=>match H[a]? with
    | some (.lst x)=>match H[b]? with
     | some (.lst y)=>if decide (x.length+y.length<2 ^ 20) then .ok (.ref H.length) (H++[.lst (x++y)]) else .bad
     | _=>.bad
    | _=>.bad
   | _=>.bad
  | _=>.bad
 | .sub=>ii .bad x y λ a b=>.ok (.int (a-b)) H
 | .mul=>ii .bad x y λ a b=>if zE a||zE b then .ok (.int (a*b)) H else .bad
 | .mod=>ii .bad x y λ a b=>if decide (0<b) then .ok (.int (a % b)) H else .bad
 | .pow=>.bad
noncomputable def z0(s:List Nat):Str:=⟨s.toArray⟩
noncomputable def K9:V->Option PyData
 | .none=>some .none
 | .bool b=>some (.bool b)
 | .int i=>some (.int i)
 | .str s=>some (.str (z0 s))
 | _=>none
noncomputable def vq(a:Option PyData)(b:Option (List PyData)):Option (List PyData):=match a with
 | some d=>match b with
  | some ds=>some (d::ds)
  | none=>none
 | none=>none
noncomputable def vX(f:V->Option PyData)(l:List V):Option (List PyData):=l.rec (some []) λ v _ r=>vq (f v) r
noncomputable def YJ(f:V->Option PyData)(o:Option O):Option PyData:=match o with
 | some o=>match o with
  | .lst l=>(vX f l).map .list
  | _=>none
 | none=>none
noncomputable def stepD(f:V->Option PyData)(H:Hp)(v:V):Option PyData:=match v with
 | .tup l=>(vX f l).map .tuple
 | .ref i=>YJ f H[i]?
 | v=>K9 v
noncomputable def toD(n:Nat)(H:Hp)(v:V):Option PyData:=n.rec (motive:=λ _=>V->Option PyData) K9 (λ _ f=>stepD f H) v
noncomputable abbrev jp(n:Nat)(H:Hp)(l:List V):Option (List PyData):=vX (toD n H) l
theorem yL(n:Nat)(H:Hp):toD n H .none=some .none:=by cases n<;>rfl
theorem yJ(n:Nat)(H:Hp)(b:Bool):toD n H (.bool b)=some (.bool b):=by cases n<;>rfl
theorem w8(n:Nat)(H:Hp)(i:Int):toD n H (.int i)=some (.int i):=by cases n<;>rfl
theorem ye(n:Nat)(H:Hp)(s:List Nat):toD n H (.str s)=some (.str (z0 s)):=by cases n<;>rfl
theorem w0(n:Nat)(H:Hp)(l:List V):toD (n+1) H (.tup l)=(jp n H l).map .tuple:=rfl
theorem xL(n:Nat)(H:Hp)(i:Nat):toD (n+1) H (.ref i)=YJ (toD n H) H[i]?:=rfl
theorem xZ(f:V->Option PyData)(l:List V):YJ f (some (.lst l))=(vX f l).map .list:=rfl
theorem yP(f:V->Option PyData):vX f []=some []:=rfl
theorem y6(f:V->Option PyData)(v:V)(r:List V):vX f (v::r)=vq (f v) (vX f r):=rfl
theorem y7(d:PyData)(ds:List PyData):vq (some d) (some ds)=some (d::ds):=rfl
noncomputable def eqD(H:Hp)(a b:V):Option Bool:=match toD 4 H a with
 | some x=>match toD 4 H b with
  | some y=>some (PyData.eqv x y)
  | none=>none
 | none=>none
noncomputable def eqV(H:Hp)(a b:V):Option Bool:=match a with
 | .str x=>match b with
  | .str y=>some (x==y)
  | _=>eqD H a b
 | .int x=>match b with
  | .int y=>some (x==y)
  | _=>eqD H a b
 | _=>eqD H a b
noncomputable def str?(v:V):Option (List Nat):=match v with
 | .str t=>some t
 | _=>none
noncomputable def int?(v:V):Option Int:=match v with
 | .int t=>some t
 | _=>none
theorem str?_inv{v:V}{t:List Nat}(h:str? v=some t):v=.str t:=by cases v<;>first | exact n1 h | exact congrArg V.str (Option.some.inj h)
theorem int?_inv{v:V}{t:Int}(h:int? v=some t):v=.int t:=by cases v<;>first | exact n1 h | exact congrArg V.int (Option.some.inj h)
noncomputable def inG(H:Hp)(a:V)(l:List V):Option Bool:=(toD 4 H a).bind λ d=>(jp 3 H l).map λ ds=>ds.any λ e=>PyData.eqv e d
noncomputable def in1(s t:List Nat):Option Bool:=match t with
 | []=>none
 | c::r=>match r with
  | []=>some (s.contains c)
  | _::_=>none
noncomputable def inO(H:Hp)(a:V)(o:Option O):Option Bool:=match o with
 | some o=>match o with
  | .lst l=>inG H a l
  | .dct l=>(str? a).map λ x=>l.any λ p=>p.1==x
  | _=>none
 | none=>none
noncomputable def inV(H:Hp)(a b:V):Option Bool:=match b with
 | .str s=>(str? a).bind (in1 s)
 | .tup l=>inG H a l
 | .ref i=>inO H a H[i]?
 | _=>none
theorem WV{a:V}{l:List V}(h:inG H a l=some r):∃ d ds,toD 4 H a=some d/\jp 3 H l=some ds/\(ds.any λ e=>PyData.eqv e d)=r:=
 (Option.bind_eq_some_iff.mp h).elim λ d e=>(Option.map_eq_some_iff.mp e.2).elim λ ds g=>⟨d,ds,e.1,g.1,g.2⟩
theorem JX{t:List Nat}(h:in1 s t=some r):∃ c,t=[c]/\s.contains c=r:=by
 cases t with
 | nil=>exact n1 h
 | cons c q=>cases q with
  | nil=>exact⟨c,rfl,Option.some.inj h⟩
  | cons _ _=>exact n1 h
noncomputable def isN_:V->Option Bool
 | .none=>some true
 | .fn _ | .cls _ | .clst _ | .cdct _=>none
 | _=>some false
noncomputable def onNo(y:V)(f:Option Bool):Option Bool:=match y with
 | .none=>f
 | _=>none
noncomputable def zd(k:Cop)(a b:V)(H:Hp):Option Bool:=match k with
 | .eq=>eqV H a b
 | .ne=>(eqV H a b).map (!·)
 | .lt=>ii none a b λ a b=>some (decide (a<b))
 | .le=>match a with
  | .str _=>ss none a b λ a b=>some (!decide (b<a))
  | _=>ii none a b λ a b=>some (decide (a<=b))
 | .gt=>ii none a b λ a b=>some (decide (b<a))
 | .ge=>ii none a b λ a b=>some (decide (b<=a))
 | .is_=>onNo b (isN_ a)
 | .isnot=>onNo b ((isN_ a).map (!·))
 | .in_=>inV H a b
 | .notin=>(inV H a b).map (!·)
noncomputable def w9(H:Hp):V->Option Bool
 | .none=>some false
 | .bool b=>some b
 | .ref i=>match H[i]? with
  | some (.lst l)=>some (!l.isEmpty)
  | _=>none
 | _=>none
noncomputable def z8(p:List Nat):List Nat->Nat->Int
 | [],k=>if p=[] then k else -1
 | a::r,k=>if p.isPrefixOf (a::r) then k else z8 p r (k+1)
noncomputable def z7(c:Nat):List Nat->List (List Nat)
 | []=>[[]]
 | a::r=>if a==c then[]::z7 c r else match z7 c r with
  | []=>[[a]]
  | x::q=>(a::x)::q
noncomputable def lenO(v:V)(H:Hp):Option V:=match v with
 | .str s=>some (.int s.length)
 | .ref i=>match H[i]? with | some (.lst l)=>some (.int l.length) | _=>none
 | .clst l=>if decide (l.length<2 ^ 20) then some (.int l.length) else none
 | _=>none
noncomputable def ordO(v:V):Option V:=match v with
 | .str s=>match s with
  | []=>none
  | c::r=>match r with
   | []=>some (.int c)
   | _::_=>none
 | _=>none
noncomputable def biV(k:Bi)(xs:List V)(H:Hp):Option V:=match xs with
 | []=>none
 | v::r=>match r with
  | []=>match k with
   | .len=>lenO v H
   | .ord=>ordO v
   | .max=>none
  | u::r=>match k with
   | .max=>match r with
    | []=>ii none v u λ a b=>some (.int (if a<b then b else a))
    | _::_=>none
   | .len=>none
   | .ord=>none
noncomputable def meV:Me->V->List V->Hp->R V
 | .replace,.str s,[.str [a],.str []],H=>.ok (.str (s.filter λ c=>c !=a)) H
 | .find,.str s,[.str p],H=>if p=[] then .bad else .ok (.int (z8 p s 0)) H
 | .split,.str s,[.str [c]],H=>.ok (.ref H.length) (H++[.lst ((z7 c s).map .str)])
 | .count,.str s,[.str [c]],H=>.ok (.int (s.count c)) H
 | .get,.cdct l,[.str x,d],H=>.ok (match l.lookup x with | some i=>.int i | none=>d) H
 | _,_,_,_=>.bad
noncomputable def adj(n:Nat)(i:Int):Nat:=if i<0 then(i+n).toNat else min i.toNat n
noncomputable def wY:V->V->V->Option V
 | .str s,lo,hi=>match lo,hi with
  | .none,.int j=>some (.str (s.take (adj s.length j)))
  | .int i,.none=>some (.str (s.drop (adj s.length i)))
  | .int i,.int j=>some (.str ((s.take (adj s.length j)).drop (adj s.length i)))
  | _,_=>none
 | _,_,_=>none
noncomputable def at?{α:Type}(l:List α)(i:Int):Option α:=match i with
 | .ofNat k=>l[k]?
 | .negSucc k=>if k<l.length then l[l.length-(k+1)]? else none
theorem at?_if(l:List α)(i:Int):at? l i=if i<0 then(if 0<=i+l.length then l[(i+l.length).toNat]? else none) else l[i.toNat]?:=by
 cases i with
 | ofNat k=>rw[if_neg (show ¬Int.ofNat k<0 from Int.not_lt.mpr (Int.natCast_nonneg k))];rfl
 | negSucc k=>
  rw[if_pos (Int.negSucc_lt_zero k)]
  show(if k<l.length then _ else _)=_
  by_cases h:k<l.length
  ·have e:Int.negSucc k+(l.length:Int)=((l.length-(k+1):Nat):Int):=Int.subNatNat_of_le h
   rw[if_pos h,e,if_pos (Int.natCast_nonneg _)];rfl
  ·have e:Int.negSucc k+(l.length:Int)=Int.negSucc _:=Int.subNatNat_of_lt (Nat.lt_succ_of_le (Nat.le_of_not_lt h))
   rw[if_neg h,e,if_neg (Int.not_le.mpr (Int.negSucc_lt_zero _))]
noncomputable def zC(H:Hp)(x y:V):Option V:=match x with
 | .str s=>match y with
  | .int i=>(at? s i).map λ c=>.str [c]
  | _=>none
 | .tup l=>match y with
  | .int i=>if zE i then at? l i else none
  | _=>none
 | .ref a=>match y with
  | .int i=>match H[a]? with | some (.lst l)=>at? l i | _=>none
  | .str x=>match H[a]? with | some (.dct l)=>l.lookup x | _=>none
  | _=>none
 | .clst l=>match y with
  | .int i=>if decide (l.length<2 ^ 20) then at? l i else none
  | _=>none
 | _=>none
noncomputable def zN(H:Hp)(n:List Nat):V->Option V
 | .ref a=>match H[a]? with
  | some (.inst _ d)=>match H[d]? with | some (.att l)=>l.lookup n | _=>none
  | _=>none
 | .exc _ d=>match H[d]? with | some (.att l)=>l.lookup n | _=>none
 | _=>none
noncomputable def jr(n:List Nat)(v:V):List (List Nat×V)->List (List Nat×V)
 | []=>[(n,v)]
 | p::r=>if p.1==n then(n,v)::r else p::jr n v r
noncomputable def strs?:List V->Option (List (List Nat))
 | []=>some []
 | .str s::r=>(strs? r).map (s::·)
 | _=>none
noncomputable def setAll:List Nat->List V->Lc->Lc
 | i::is,v::vs,L=>setAll is vs (L.set i (some v))
 | _,_,L=>L
noncomputable def Zj(is:List Nat)(v:V)(L:Lc):Option Lc:=match v with
 | .tup l=>if l.length=is.length then some (setAll is l L) else none
 | _=>none
noncomputable def zS(is:List Nat)(v:V)(L:Lc):Option Lc:=match is with
 | []=>Zj [] v L
 | i::r=>match r with
  | []=>some (L.set i (some v))
  | j::q=>Zj (i::j::q) v L
abbrev Fn:=Nat->List V->Hp->R V
noncomputable def lift{α:Type}(H:Hp):Option α->R α
 | some a=>.ok a H
 | none=>.bad
noncomputable def jx:Me->V->Bool
 | .get,.cdct _=>true
 | .get,_=>false
 | _,.str _=>true
 | _,_=>false
noncomputable def kT:V->Bool
 | .fn _=>true
 | .cls _=>true
 | _=>false
noncomputable def wv(F:Fn)(g:V)(xs:List V)(H:Hp):R V:=match g with
 | .fn k=>F k xs H
 | .cls k=>(F k (.ref (H.length+1)::xs) (H++[.att [],.inst k H.length])).bind λ x H'=>match x with
   | .none=>.ok (.ref (H.length+1)) H'
   | _=>.bad
 | _=>.bad
noncomputable def xp(x y z:V)(H:Hp):Option Bool:=match y,z with
 | .ref i,.int n=>match H[i]? with
  | some (.lst xs)=>if 0<=n then(match toD 4 H x,jp 3 H (xs.take n.toNat) with
   | some d,some ds=>some (ds.any λ e=>PyData.eqv e d)
   | _,_=>none) else none
  | _=>none
 | _,_=>none
noncomputable def keyD:E->Option (List Nat)
 | .cst v=>match v with
  | .str k=>some k
  | _=>none
 | _=>none
noncomputable def Yz(G:Nat->Option V):E->Option V
 | .cst v=>match v with
  | .int i=>some (.int i)
  | _=>none
 | .glb i=>G i
 | _=>none
noncomputable def xy(G:Nat->Option V):E->E->Option (List (List Nat×V))
 | .cons a r,vs=>match vs with
  | .cons v q=>match keyD a with
   | some k=>match Yz G v with
    | some y=>(xy G r q).map ((k,y)::·)
    | none=>none
   | none=>none
  | _=>none
 | .nil,vs=>match vs with
  | .nil=>some []
  | _=>none
 | _,_=>none
noncomputable def Vc(H:Hp)(o:Option (Option V)):R V:=match o with
 | some o=>match o with
  | some v=>.ok v H
  | none=>.bad
 | none=>.bad
noncomputable def JA(H:Hp)(o:Option (List (List Nat×V))):R V:=match o with
 | some l=>if decide (l.map (·.1)).Nodup&&decide (l.length<=15) then .ok (.ref H.length) (H++[.dct l]) else .bad
 | none=>.bad
noncomputable def XG(xs:List V)(H:Hp):R V:=if decide (xs.length<100) then .ok (.tup xs) H else .bad
noncomputable def Vw(xs:List V)(H:Hp):R V:=if decide (xs.length<100) then .ok (.ref H.length) (H++[.lst xs]) else .bad
section
variable (G:Nat->Option V)(F:Fn)
mutual
noncomputable def evE:E->Lc->Hp->R V
 | .cst v,_,H=>.ok v H
 | .loc i,L,H=>Vc H L[i]?
 | .glb i,_,H=>lift H (G i)
 | .bop k a b,L,H=>(evE a L H).bind λ x H=>(evE b L H).bind λ y H=>xT k x y H
 | .cmp k a b,L,H=>(evE a L H).bind λ x H=>(evE b L H).bind λ y H=>lift H ((zd k x y H).map .bool)
 | .cmp2 k₁ k₂ a b c,L,H=>(evE a L H).bind λ x H=>(evE b L H).bind λ y H=>match zd k₁ x y H with
  | some true=>(evE c L H).bind λ z H=>lift H ((zd k₂ y z H).map .bool)
  | some false=>.ok (.bool false) H
  | none=>.bad
 | .and_ a b,L,H=>(evE a L H).bind λ x H=>match x with
  | .bool true=>evE b L H
  | .bool false=>.ok (.bool false) H
  | _=>.bad
 | .or_ a b,L,H=>(evE a L H).bind λ x H=>match x with
  | .bool true=>.ok (.bool true) H
  | .bool false=>evE b L H
  | _=>.bad
 | .not_ a,L,H=>(evE a L H).bind λ x H=>lift H ((w9 H x).map λ b=>.bool (!b))
 | .neg a,L,H=>(evE a L H).bind λ x H=>match x with | .int i=>.ok (.int (-i)) H | _=>.bad
 | .ite c a b,L,H=>(evT c L H).bind λ x H=>match x with | true=>evE a L H | false=>evE b L H
 | .bi k as,L,H=>(evL as L H).bind λ xs H=>lift H (biV k xs H)
 | .int_ a,L,H=>(evE a L H).bind λ x H=>match x with | .str s=>lift H (if decide (s.length<=600) then(intText? (z0 s)).map .int else none) | _=>.bad
 | .call f as,L,H=>(evE f L H).bind λ g H=>match kT g with
  | true=>(evL as L H).bind λ xs H=>wv F g xs H
  | false=>.bad
 | .me k o as,L,H=>(evE o L H).bind λ x H=>match jx k x with
  | true=>(evL as L H).bind λ xs H=>meV k x xs H
  | false=>.bad
 | .attr o n,L,H=>(evE o L H).bind λ x H=>lift H (zN H n x)
 | .idx o i,L,H=>(evE o L H).bind λ x H=>(evE i L H).bind λ y H=>lift H (zC H x y)
 | .slc o lo hi,L,H=>(evE o L H).bind λ x H=>(evE lo L H).bind λ y H=>(evE hi L H).bind λ z H=>lift H (wY x y z)
 | .inSl a l k,L,H=>(evE a L H).bind λ x H=>(evE l L H).bind λ y H=>(evE k L H).bind λ z H=>lift H ((xp x y z H).map .bool)
 | .tup as,L,H=>(evL as L H).bind XG
 | .lst as,L,H=>(evL as L H).bind Vw
 | .dct ks vs,_,H=>JA H (xy G ks vs)
 | .nil,_,_=>.bad
 | .cons ..,_,_=>.bad
noncomputable def evL:E->Lc->Hp->R (List V)
 | .nil,_,H=>.ok [] H
 | .cons a r,L,H=>(evE a L H).bind λ x H=>(evL r L H).bind λ xs H=>.ok (x::xs) H
 | _,_,_=>.bad
noncomputable def evT:E->Lc->Hp->R Bool
 | .not_ a,L,H=>(evT a L H).bind λ x H=>.ok (!x) H
 | .and_ a b,L,H=>(evT a L H).bind λ x H=>match x with | true=>evT b L H | false=>.ok false H
 | .or_ a b,L,H=>(evT a L H).bind λ x H=>match x with | true=>.ok true H | false=>evT b L H
 | .cmp k a b,L,H=>(evE a L H).bind λ x H=>(evE b L H).bind λ y H=>lift H (zd k x y H)
 | .cmp2 k₁ k₂ a b c,L,H=>(evE a L H).bind λ x H=>(evE b L H).bind λ y H=>match zd k₁ x y H with
  | some true=>(evE c L H).bind λ z H=>lift H (zd k₂ y z H)
  | some false=>.ok false H
  | none=>.bad
 | .loc i,L,H=>(Vc H L[i]?).bind λ x H=>lift H (w9 H x)
 | .call f as,L,H=>((evE f L H).bind λ g H=>match kT g with
  | true=>(evL as L H).bind λ xs H=>wv F g xs H
  | false=>.bad).bind λ x H=>lift H (w9 H x)
 | .idx o i,L,H=>((evE o L H).bind λ x H=>(evE i L H).bind λ y H=>lift H (zC H x y)).bind λ x H=>lift H (w9 H x)
 | .cst (.bool b),_,H=>.ok b H
 | .inSl a l k,L,H=>(evE a L H).bind λ x H=>(evE l L H).bind λ y H=>(evE k L H).bind λ z H=>lift H (xp x y z H)
 | _,_,_=>.bad
end
noncomputable def Out.thn(o:Out)(f:Lc->Hp->Out):Out:=match o with
 | .next L H=>f L H
 | o=>o
noncomputable def Out.turn(o:Out)(f:Lc->Hp->Out):Out:=match o with
 | .next L H=>f L H
 | .cont L H=>f L H
 | o=>o
noncomputable def R.out{α:Type}(r:R α)(f:α->Hp->Out):Out:=match r with
 | .ok a H=>f a H
 | .exc k d H=>.exc k d H
 | .bad=>.bad
noncomputable def zZ(c:Lc->Hp->R Bool)(b:Lc->Hp->Out):Nat->Lc->Hp->Out
 | 0,_,_=>.bad
 | n+1,L,H=>(c L H).out λ x H=>match x with
  | true=>(b L H).turn (zZ c b n)
  | false=>.next L H
noncomputable def Vf(o:Option Lc)(f:Lc->Out):Out:=match o with
 | some L=>f L
 | none=>.bad
noncomputable def zh(is:List Nat)(b:Lc->Hp->Out):List V->Lc->Hp->Out
 | [],L,H=>.next L H
 | v::r,L,H=>Vf (zS is v L) λ L=>(b L H).turn (zh is b r)
noncomputable def xI(H:Hp)(i:Nat)(all:List V):Bool:=match H[i]? with
 | some o=>match o with
  | .lst l=>V.beqL l all
  | _=>false
 | none=>false
noncomputable def w7(H:Hp)(i:Nat)(all:List (List Nat×V)):Bool:=match H[i]? with
 | some o=>match o with
  | .dct l=>Vn l all
  | _=>false
 | none=>false
noncomputable def yR(is:List Nat)(b:Lc->Hp->Out)(i:Nat)(all:List V):List V->Lc->Hp->Out
 | [],L,H=>bif xI H i all then .next L H else .bad
 | v::r,L,H=>bif xI H i all then Vf (zS is v L) λ L=>(b L H).turn (yR is b i all r) else .bad
noncomputable def yu(j:Nat)(b:Lc->Hp->Out)(i:Nat)(all:List (List Nat×V)):List (List Nat×V)->Lc->Hp->Out
 | [],L,H=>bif w7 H i all then .next L H else .bad
 | v::r,L,H=>bif w7 H i all then(b (L.set j (some (.str v.1))) H).turn (yu j b i all r) else .bad
theorem vI(h:xI H i all=true):H[i]?=some (.lst all):=by
 unfold xI at h
 cases e:H[i]? with
 | none=>rw[e] at h;exact ft h
 | some o=>
  rw[e] at h
  cases o<;>first | exact ft h | exact congrArg (λ l=>some (O.lst l)) (V.beqL_eq _ _ h)
theorem YO{all:List (List Nat×V)}(h:w7 H i all=true):H[i]?=some (.dct all):=by
 unfold w7 at h
 cases e:H[i]? with
 | none=>rw[e] at h;exact ft h
 | some o=>
  rw[e] at h
  cases o<;>first | exact ft h | exact congrArg (λ l=>some (O.dct l)) (ka _ _ h)
theorem Yq(h:H[i]?=some (.lst all)):xI H i all=true:=by
 unfold xI;rw[h];exact V.beqL_self all
theorem Xd{all:List (List Nat×V)}(h:H[i]?=some (.dct all)):w7 H i all=true:=by
 unfold w7;rw[h];exact qh all
theorem XD{b:Lc->Hp->Out}(h:H[i]?=some (.lst all)):yR is b i all [] L H=.next L H:=by
 show cond (xI H i all) _ _=_
 rw[Yq h];rfl
theorem vP{b:Lc->Hp->Out}{v:V}{r:List V}{L':Lc}(h:H[i]?=some (.lst all))(hb:zS is v L=some L'):yR is b i all (v::r) L H=(b L' H).turn (yR is b i all r):=by
 show cond (xI H i all) (Vf (zS is v L) _) _=_
 rw[Yq h,hb];rfl
theorem KH{b:Lc->Hp->Out}{all:List (List Nat×V)}(h:H[i]?=some (.dct all)):yu j b i all [] L H=.next L H:=by
 show cond (w7 H i all) _ _=_
 rw[Xd h];rfl
theorem WI{b:Lc->Hp->Out}{all:List (List Nat×V)}{v:List Nat×V}{r:List (List Nat×V)}(h:H[i]?=some (.dct all)):yu j b i all (v::r) L H=(b (L.set j (some (.str v.1))) H).turn (yu j b i all r):=by
 show cond (w7 H i all) _ _=_
 rw[Xd h];rfl
theorem ZD{b:Lc->Hp->Out}{v:V}{r:List V}{L':Lc}(hb:zS is v L=some L'):zh is b (v::r) L H=(b L' H).turn (zh is b r):=by
 show Vf (zS is v L) _=_
 rw[hb];rfl
theorem z2A(j:Nat)(b:Lc->Hp->Out)(v:V)(r:List V)(L:Lc)(H:Hp):zh [j] b (v::r) L H=(b (L.set j (some v)) H).turn (zh [j] b r):=rfl
noncomputable def zb(a:Int):Nat->List V
 | 0=>[]
 | n+1=>.int a::zb (a+1) n
noncomputable def Wd(k c:Nat):Bool:=k==c||c==0
noncomputable def txt:List Nat:=@"text"
noncomputable def ao1(xs:List V):Option (List (List Nat×V)):=match xs with
 | []=>none
 | v::r=>match r with
  | []=>(str? v).map λ t=>[(txt,.str t)]
  | _::_=>none
noncomputable def ao2(n:List Nat)(xs:List V):Option (List (List Nat×V)):=match xs with
 | []=>none
 | v::r=>match r with
  | []=>none
  | u::r=>match r with
   | []=>(int? v).bind λ i=>(str? u).map λ t=>[(txt,.str t),(n,.int i)]
   | _::_=>none
noncomputable def zJ(k:Nat)(xs:List V):Option (List (List Nat×V)):=bif k.beq 1 then ao2 @"line" xs else bif k.beq 2 then ao2 @"at" xs else bif k.beq 3 then ao1 xs else none
theorem xN(l:Int)(t:List Nat):zJ 1 [.int l,.str t]=some [(txt,.str t),(@"line",.int l)]:=rfl
theorem xW(l:Int)(t:List Nat):zJ 2 [.int l,.str t]=some [(txt,.str t),(@"at",.int l)]:=rfl
theorem xV(t:List Nat):zJ 3 [.str t]=some [(txt,.str t)]:=rfl
theorem Wc(h:ao1 xs=some al):∃ t,xs=[.str t]/\[(txt,.str t)]=al:=by
 cases xs with
 | nil=>exact n1 h
 | cons v r=>cases r with
  | cons _ _=>exact n1 h
  | nil=>exact(Option.map_eq_some_iff.mp h).elim λ t e=>⟨t,congrArg (λ v=>[v]) (str?_inv e.1),e.2⟩
theorem Y4{n:List Nat}(h:ao2 n xs=some al):∃ i t,xs=[.int i,.str t]/\[(txt,.str t),(n,.int i)]=al:=by
 cases xs with
 | nil=>exact n1 h
 | cons v r=>cases r with
  | nil=>exact n1 h
  | cons u r=>cases r with
   | cons _ _=>exact n1 h
   | nil=>exact(Option.bind_eq_some_iff.mp h).elim λ i e=>(Option.map_eq_some_iff.mp e.2).elim λ t g=>⟨i,t,by rw[int?_inv e.1,str?_inv g.1],g.2⟩
theorem Vj(h:zJ k xs=some al):xs.length<=2:=by
 have h2:∀ n,ao2 n xs=some al->xs.length<=2:=λ n h=>(Y4 h).elim λ _ e=>e.elim λ _ e=>e.1 ▸ Nat.le_refl 2
 have h1:ao1 xs=some al->xs.length<=2:=λ h=>(Wc h).elim λ _ e=>e.1 ▸ Nat.le_succ 1
 revert h
 unfold zJ
 cases k.beq 1<;>cases k.beq 2<;>cases k.beq 3<;>intro h<;>first | exact n1 h | exact h2 _ h | exact h1 h
noncomputable def kQ(H:Hp):V->Bool
 | .ref i=>match H[i]? with
  | some (.lst _)=>true
  | _=>false
 | _=>false
noncomputable def qG(k:Bop)(v:V):Bool:=match k with
 | .add=>match v with
  | .int _=>true
  | .str _=>true
  | _=>false
 | .sub=>match v with
  | .int _=>true
  | _=>false
 | .mul=>false
 | .mod=>false
 | .pow=>false
noncomputable def z08(is:List Nat)(b:Lc->Hp->Out)(i:Nat)(o:Option O)(L:Lc)(H:Hp):Out:=match o with
 | some o=>match o with
  | .lst l=>yR is b i l l L H
  | .dct l=>match is with
   | j::r=>match r with
    | []=>yu j b i l l L H
    | _=>.bad
   | []=>.bad
  | _=>.bad
 | none=>.bad
noncomputable def forV(is:List Nat)(b:Lc->Hp->Out)(v:V)(L:Lc)(H:Hp):Out:=match v with
 | .str s=>zh is b (s.map λ c=>.str [c]) L H
 | .tup l=>zh is b l L H
 | .clst l=>zh is b l L H
 | .ref i=>z08 is b i H[i]? L H
 | _=>.bad
noncomputable def bndK(H:Hp)(o:Option Lc):Out:=match o with
 | some L=>.next L H
 | none=>.bad
noncomputable def YG(o:Out):Out:=match o with
 | .next _ _=>.bad
 | .cont _ _=>.bad
 | o=>o
noncomputable def tryK(r:R V)(f:V->Hp->Out)(g:Nat->Nat->Hp->Out):Out:=match r with
 | .ok v H=>f v H
 | .exc c d H=>g c d H
 | .bad=>.bad
noncomputable def ifK(t e:Lc->Hp->Out)(L:Lc)(b:Bool)(H:Hp):Out:=match b with
 | true=>t L H
 | false=>e L H
variable (W:Nat)
noncomputable def evS:S->Lc->Hp->Out
 | .asg i e,L,H=>(evE G F e L H).out λ v H=>.next (L.set i (some v)) H
 | .asgT is e,L,H=>(evE G F e L H).out λ v H=>match v with
  | .tup l=>if l.length=is.length then .next (setAll is l L) H else .bad
  | _=>.bad
 | .asgA o n e,L,H=>(evE G F e L H).out λ v H=>(evE G F o L H).out λ x H=>match x with
  | .ref a=>match H[a]? with
   | some (.inst _ d)=>match H[d]? with
    | some (.att l)=>if decide (l.length<100) then .next L (H.set d (.att (jr n v l))) else .bad
    | _=>.bad
   | _=>.bad
  | _=>.bad
 | .aug i k e,L,H=>match L[i]? with
  | some (some x)=>match qG k x with
   | true=>(evE G F e L H).out λ y H=>(xT k x y H).out λ v H=>.next (L.set i (some v)) H
   | false=>.bad
  | _=>.bad
 | .app o a,L,H=>(evE G F o L H).out λ x H=>match kQ H x with
  | true=>(evE G F a L H).out λ v H=>match x with
   | .ref i=>match H[i]? with
    | some (.lst l)=>if decide (l.length<2 ^ 20) then .next L (H.set i (.lst (l++[v]))) else .bad
    | _=>.bad
   | _=>.bad
  | false=>.bad
 | .ex e,L,H=>(evE G F e L H).out λ v H=>match v with
  | .none=>.next L H
  | _=>.bad
 | .if_ c t e,L,H=>(evT G F c L H).out (ifK (evS t) (evS e) L)
 | .whl c b,L,H=>zZ (λ L H=>evT G F c L H) (λ L H=>evS b L H) W L H
 | .forE is src b,L,H=>(evE G F src L H).out λ v H=>forV is (evS b) v L H
 | .forR i as b,L,H=>(evL G F as L H).out λ xs H=>match xs with
  | [.int n]=>if decide (n<2 ^ 20)&&zE n then zh [i] (λ L H=>evS b L H) (zb 0 n.toNat) L H else .bad
  | [.int a,.int n]=>if decide (n<2 ^ 20)&&decide (0<=a)&&decide (a<2 ^ 20)&&zE n then zh [i] (λ L H=>evS b L H) (zb a (n-a).toNat) L H else .bad
  | _=>.bad
 | .ret e,L,H=>(evE G F e L H).out λ v H=>.ret v H
 | .rai k as,L,H=>(evL G F as L H).out λ xs H=>match zJ k xs with
  | some l=>.exc k H.length (H++[.att l])
  | none=>.bad
 | .try_ is e k i h,L,H=>tryK (evE G F e L H) (λ v H=>bndK H (zS is v L)) λ c d H=>if Wd c k&&!(k==0&&c==1) then YG (evS h (L.set i (some (.exc c d))) H) else .bad
 | .cont,L,H=>.cont L H
 | .pass,L,H=>.next L H
 | .bad,_,_=>.bad
 | .nil,L,H=>.next L H
 | .cons s r,L,H=>(evS s L H).thn λ L H=>evS r L H
structure XFn where
 name:String
 np:Nat
 names:List String
 pure_:Bool
 body:S
noncomputable def V.flatIn:V->Bool
 | .ref _=>false
 | .exc ..=>false
 | .tup l=>flatL l
 | .clst l=>flatL l
 | _=>true
where flatL:List V->Bool
 | []=>true
 | v::r=>v.flatIn&&flatL r
noncomputable def yt(f:XFn)(H:Hp)(o:Out):R V:=match o with
 | .next _ H'=>if f.pure_ then(if wj H H' then .ok .none H else .bad) else .ok .none H'
 | .ret v H'=>if f.pure_ then(if wj H H'&&v.flatIn then .ok v H else .bad) else .ok v H'
 | .exc k d H'=>.exc k d H'
 | _=>.bad
noncomputable def yB(H:Hp)(o:Out):R V:=match o with
 | .next _ _=>.ok .none H
 | .ret v _=>if v.flatIn then .ok v H else .bad
 | .exc k d H'=>match H'[d]? with
  | some (.att l)=>if V.flatIn.flatL (l.map (·.2)) then .exc k H.length (H++[.att l]) else .bad
  | _=>.bad
 | _=>.bad
variable (fns:List XFn)(prim:Nat->Option (List V->Option V))
noncomputable def evN:Nat->Fn
 | 0=>λ _ _ _=>.bad
 | n+1=>λ k args H=>match prim k with
  | some p=>lift H (p args)
  | none=>match fns[k]? with
  | some f=>if args.length=f.np then(match f.pure_&&V.flatIn.flatL args with
    | true=>yB H (evS G (evN n) W f.body (args.map some++List.replicate (f.names.length-f.np) none) [])
    | false=>yt f H (evS G (evN n) W f.body (args.map some++List.replicate (f.names.length-f.np) none) H)) else .bad
  | none=>.bad
noncomputable def lenV:List V->Option V
 | [.str []]=>some .none
 | [.str (c::inner)]=>if c !=42 then some (.bool false) else
  if inner.take 1==[40]&&inner.drop (inner.length-1)==[41]&&decide (2<inner.length)&&((inner.drop 1).take (inner.length-2)==[42]) then some (.str [42]) else
  if inner.take 1==[40]&&inner.drop (inner.length-1)==[41]&&decide (2<inner.length)&&isNameB ((inner.drop 1).take (inner.length-2)) then some (.tup [.str @"name",.str ((inner.drop 1).take (inner.length-2))]) else
  let i:=if inner.take 1==[40]&&inner.drop (inner.length-1)==[41]&&decide (2<inner.length) then(inner.drop 1).take (inner.length-2) else inner
  if i==[]||i.any (λ c=>!(decide (48<=c)&&decide (c<=57))) then some (.bool false) else some (.tup [.str @"int",.int (i.foldl (λ n c=>n*10+(c-48)) 0:Nat)])
 | _=>none
where
 upB (c:Nat):Bool:=decide (65<=c)&&decide (c<=90)
 dgB (c:Nat):Bool:=decide (48<=c)&&decide (c<=57)
 isNameB (s:List Nat):Bool:=(match s with | []=>false | c::_=>upB c)&&s.all (λ c=>upB c||dgB c)&&decide (s.length<7)
end
theorem ieq(a b:Nat):(((a:Nat):Int)==((b:Nat):Int))=(a==b):=decide_eq_decide.mpr Int.ofNat_inj
theorem ilt(a b:Nat):decide ((a:Int)<(b:Int))=decide (a<b):=decide_eq_decide.mpr Int.ofNat_lt
theorem dlt{s:List α}{m:Nat}(h:s.length<m):(s.drop k).length<m:=Nat.lt_of_le_of_lt (List.length_drop ▸ Nat.sub_le _ _) h
theorem dle{s:List α}{m:Nat}(h:s.length<=m):(s.drop k).length<=m:=Nat.le_trans (List.length_drop ▸ Nat.sub_le _ _) h
theorem tle{s:List α}{m:Nat}(h:s.length<=m):(s.take k).length<=m:=Nat.le_trans (List.length_take ▸ Nat.min_le_right _ _) h
theorem tlt{s:List α}{m:Nat}(h:s.length<m):(s.take k).length<m:=Nat.lt_of_le_of_lt (List.length_take ▸ Nat.min_le_right _ _) h
theorem z1i(n:Nat):adj n (-1)=n-1:=(congrArg Int.toNat (Int.add_comm _ _)).trans (Int.toNat_sub n 1)
theorem wT(n i:Nat):adj n (i:Int)=min i n:=by
 unfold adj
 rw[if_neg (Int.not_lt.mpr (Int.natCast_nonneg i))];rfl
theorem Kf{n:Nat}(h:i<=n):adj n (i:Int)=i:=(wT n i).trans (Nat.min_eq_left h)
theorem Wk{n:Nat}(h:i<n):adj n ((i:Int)+1)=i+1:=(wT n (i+1)).trans (Nat.min_eq_left h)
theorem z3q(n:Nat)(i:Int):adj n i<=n:=by
 unfold adj
 by_cases h:i<0
 ·rw[if_pos h];exact Int.toNat_le.mpr (Int.add_le_of_le_sub_right (by rw[Int.sub_self];exact Int.le_of_lt h))
 ·rw[if_neg h];exact Nat.min_le_right _ _
theorem z0a{n:Nat}(i:Int):max (0:Int) (min (if i<0 then i+n else i) (n:Int))=(adj n i:Int):=by
 by_cases h:i<0
 ·unfold adj
  rw[if_pos h,if_pos h,Int.min_eq_left (Int.add_le_of_le_sub_right (by rw[Int.sub_self];exact Int.le_of_lt h)),Int.max_comm,Int.ofNat_toNat]
 ·obtain⟨k,rfl⟩:=Int.eq_ofNat_of_zero_le (Int.not_lt.mp h)
  rw[if_neg h,wT]
  rcases Nat.le_total k n with q | q
  ·rw[Nat.min_eq_left q,Int.min_eq_left (Int.ofNat_le.mpr q),Int.max_eq_right (Int.natCast_nonneg k)]
  ·rw[Nat.min_eq_right q,Int.min_eq_right (Int.ofNat_le.mpr q),Int.max_eq_right (Int.natCast_nonneg n)]
theorem p20:(2:Int) ^ 20=((1048576:Nat):Int):=by decide
theorem lt20{n:Nat}(h:n<1000):(n:Int)<2 ^ 20:=by rw[p20];exact Int.ofNat_lt.mpr (Nat.lt_trans h (by decide))
theorem z1r(n k:Nat):(-1-(k:Int))+(n:Int)=(n:Int)-((k+1:Nat):Int):=by
 rw[Int.sub_eq_add_neg,Int.add_assoc,Int.add_comm,Int.add_comm (-(k:Int)),Int.add_assoc,←Int.neg_add];rfl
theorem neg_k{n:Nat}:((-1-(k:Int))+(n:Int)).toNat=n-1-k:=by
 rw[z1r,Int.toNat_sub,Nat.sub_sub,Nat.add_comm 1 k]
theorem z3x{n:Nat}(h:k<n):(0:Int)<=(-1-(k:Int))+(n:Int):=by rw[z1r];exact Int.sub_nonneg.mpr (Int.ofNat_le.mpr h)
theorem z2U(k:Nat):(-1-(k:Int))<0:=Int.sub_neg_of_lt (Int.lt_of_lt_of_le (by decide) (Int.natCast_nonneg k))
theorem last{l:List α}(h:l≠[]):∃ c,l[l.length-1]?=some c:=⟨_,List.getElem?_eq_getElem (Nat.sub_lt (List.length_pos_iff.mpr h) Nat.one_pos)⟩
theorem nlt{a b:Nat}(h:b<=a):decide (((a:Nat):Int)<((b:Nat):Int))=false:=(ilt a b).trans (decide_eq_false (Nat.not_lt.mpr h))
theorem ylt{a b:Nat}(h:a<b):decide (((a:Nat):Int)<((b:Nat):Int))=true:=(ilt a b).trans (decide_eq_true h)
theorem ln1{n a b m:Nat}(h:n<=b-a)(hb:b<m):n<m:=Nat.lt_of_le_of_lt (Nat.le_trans h (Nat.sub_le b a)) hb
theorem QJ(a r:Nat):((a+r:Nat):Int)-(a:Int)=(r:Int):=Int.sub_eq_iff_eq_add'.mpr rfl
theorem Qk{p:Nat->Bool}{c:Nat}{l:List Nat}(h:c∈l.takeWhile p):p c=true:=List.all_eq_true.mp List.all_takeWhile c h
theorem lx1{n a f:Nat}(h:n-a<=f+1)(hk:1<=k):n-(a+k)<=f:=Nat.le_trans (Nat.sub_le_sub_left (Nat.add_le_add_left hk a) n) (Nat.pred_le_pred h)
theorem lx2{l:List α}{x:α}{f m:Nat}(h:l.length+(f+1)<m):(l++[x]).length+f<m:=Nat.lt_of_le_of_lt (Nat.le_of_eq ((congrArg (·+f) List.length_append).trans (Nat.add_right_comm l.length 1 f))) h
theorem ud{a w b k' r:Nat}(h:a+b+k<r)(hw:w+k'<=k):a+w+b+k'<r:=by
 rw[Nat.add_right_comm a,Nat.add_assoc];exact Nat.lt_of_le_of_lt (Nat.add_le_add_left hw _) h
theorem so_f{c a:Nat}{r:List Nat}(h:(a==c)=false){x:List Nat}{q:List (List Nat)}(hq:z7 c r=x::q):z7 c (a::r)=(a::x)::q:=by
 show(if (a==c)=true then _ else(match z7 c r with | []=>[[a]] | x::q=>(a::x)::q))=_
 rw[h,hq];rfl
theorem so_t{c a:Nat}{r:List Nat}(h:(a==c)=true):z7 c (a::r)=[]::z7 c r:=if_pos h
theorem so_c(c:Nat)(s:List Nat):∃ x q,z7 c s=x::q/\x=s.takeWhile (· !=c)/\q.length<=s.length:=by
 induction s with
 | nil=>exact⟨[],[],rfl,rfl,Nat.le_refl _⟩
 | cons a r ih=>
  obtain⟨x,q,h1,h2,h3⟩:=ih
  cases h:a==c with
  | true=>exact⟨[],z7 c r,so_t h,by rw[List.takeWhile_cons,bne,h];rfl,by rw[h1];exact Nat.succ_le_succ h3⟩
  | false=>exact⟨a::x,q,so_f h h1,by rw[List.takeWhile_cons,bne,h,h2];rfl,Nat.le_succ_of_le h3⟩
theorem i_{P:α->Prop}{c:Prop}[Decidable c]{a b:α}(h:P a)(k:P b):P (if c then a else b):=by
 by_cases q:c
 ·rw[if_pos q];exact h
 ·rw[if_neg q];exact k
theorem gs_{α:Type _}{l:List α}{a:α}(h:l[i]?=some a):∃ h:i<l.length,l[i]=a:=List.getElem?_eq_some_iff.mp h
theorem gn_{α:Type _}{l:List α}(h:l[i]?=none):l.length<=i:=List.getElem?_eq_none_iff.mp h
theorem ma_{α:Type _}{a:α}{s t:List α}(h:a∈s++t):a∈s\/a∈t:=List.mem_append.mp h
theorem mc_{α:Type _}{a b:α}{l:List α}(h:a∈b::l):a=b\/a∈l:=List.mem_cons.mp h
theorem om_{α β:Type _}{f:α->β}{o:Option α}{b:β}(h:o.map f=some b):∃ a,o=some a/\f a=b:=Option.map_eq_some_iff.mp h
theorem la_{α:Type _}{p:α->Bool}{l:List α}(h:l.all p=true):∀ x∈l,p x=true:=List.all_eq_true.mp h
theorem bm_{a b:Bool}(h:a=true/\b=true):(a&&b)=true:=Bool.and_eq_true_iff.mpr h
theorem be_{α:Type _}[BEq α][LawfulBEq α]{a b:α}(h:(a==b)=true):a=b:=eq_of_beq h
theorem bn_{α:Type _}[BEq α][LawfulBEq α]{a b:α}(h:a≠b):(a==b)=false:=beq_eq_false_iff_ne.mpr h
theorem ne_{α:Type _}[BEq α][LawfulBEq α]{a b:α}(h:(a==b)=false):a≠b:=beq_eq_false_iff_ne.mp h
section
open PyProof.Rows PySem.W
theorem A2{a b:Bool}(h:(a&&b)=true):a=true/\b=true:=by cases a<;>cases b<;>first | exact⟨rfl,rfl⟩ | cases h
theorem K2{a b:Bool}{P:Prop}(h:(a&&b)=true)(k:a=true->b=true->P):P:=k (A2 h).1 (A2 h).2
theorem K3{a b c:Bool}{P:Prop}(h:(a&&b&&c)=true)(k:a=true->b=true->c=true->P):P:=K2 h λ h d=>K2 h λ a b=>k a b d
theorem K4{a b c d:Bool}{P:Prop}(h:(a&&b&&c&&d)=true)(k:a=true->b=true->c=true->d=true->P):P:=K2 h λ h d=>K3 h λ a b c=>k a b c d
theorem K5{a b c d e:Bool}{P:Prop}(h:(a&&b&&c&&d&&e)=true)(k:a=true->b=true->c=true->d=true->e=true->P):P:=K2 h λ h d=>K4 h λ a b c e=>k a b c e d
theorem nB{a:Bool}(h:(!a)=true):a=false:=by cases a<;>first | rfl | cases h
@[elab_as_elim] theorem eB[BEq α][LawfulBEq α]{a b:α}{M:α->Prop}(h:(a==b)=true)(k:M b):M a:=eq_of_beq h ▸ k
noncomputable def onO{α:Type}(o:Option α)(f:α->Bool):Bool:=match o with
 | some a=>f a
 | none=>false
@[elab_as_elim] theorem eO{o:Option α}{f:α->Bool}{M:Option α->Prop}(h:onO o f=true)(k:∀ a,f a=true->M (some a)):M o:=by
 cases o with
 | none=>cases h
 | some a=>exact k a h
noncomputable def Vk(t:Expr)(f:BoolOp->List Expr->Bool):Bool:=if h:t.ctorIdx=0 then Expr.BoolOp.elim (motive_1:=λ _=>Bool) t h (λ x0 x1 _=>f x0 x1) else false
@[elab_as_elim] theorem eBo{f:BoolOp->List Expr->Bool}{M:Expr->Prop}(h:Vk t f=true)(k:∀ x0 x1 x2,f x0 x1=true->M (.BoolOp x0 x1 x2)):M t:=by
 unfold Vk at h
 by_cases e:t.ctorIdx=0
 ·rw[dif_pos e] at h;exact Expr.BoolOp.elim (motive_1:=λ t=>∀ e,Expr.BoolOp.elim (motive_1:=λ _=>Bool) t e (λ x0 x1 _=>f x0 x1)=true->M t) t e (λ x0 x1 x2 _ h=>k x0 x1 x2 h) e h
 ·rw[dif_neg e] at h;cases h
noncomputable def Qv(t:Expr)(f:Expr->Operator->Expr->Bool):Bool:=if h:t.ctorIdx=2 then Expr.BinOp.elim (motive_1:=λ _=>Bool) t h (λ x0 x1 x2 _=>f x0 x1 x2) else false
@[elab_as_elim] theorem eBin{f:Expr->Operator->Expr->Bool}{M:Expr->Prop}(h:Qv t f=true)(k:∀ x0 x1 x2 x3,f x0 x1 x2=true->M (.BinOp x0 x1 x2 x3)):M t:=by
 unfold Qv at h
 by_cases e:t.ctorIdx=2
 ·rw[dif_pos e] at h;exact Expr.BinOp.elim (motive_1:=λ t=>∀ e,Expr.BinOp.elim (motive_1:=λ _=>Bool) t e (λ x0 x1 x2 _=>f x0 x1 x2)=true->M t) t e (λ x0 x1 x2 x3 _ h=>k x0 x1 x2 x3 h) e h
 ·rw[dif_neg e] at h;cases h
noncomputable def Qm(t:Expr)(f:UnaryOp->Expr->Bool):Bool:=if h:t.ctorIdx=3 then Expr.UnaryOp.elim (motive_1:=λ _=>Bool) t h (λ x0 x1 _=>f x0 x1) else false
@[elab_as_elim] theorem eUn{f:UnaryOp->Expr->Bool}{M:Expr->Prop}(h:Qm t f=true)(k:∀ x0 x1 x2,f x0 x1=true->M (.UnaryOp x0 x1 x2)):M t:=by
 unfold Qm at h
 by_cases e:t.ctorIdx=3
 ·rw[dif_pos e] at h;exact Expr.UnaryOp.elim (motive_1:=λ t=>∀ e,Expr.UnaryOp.elim (motive_1:=λ _=>Bool) t e (λ x0 x1 _=>f x0 x1)=true->M t) t e (λ x0 x1 x2 _ h=>k x0 x1 x2 h) e h
 ·rw[dif_neg e] at h;cases h
noncomputable def onIf(t:Expr)(f:Expr->Expr->Expr->Bool):Bool:=if h:t.ctorIdx=5 then Expr.IfExp.elim (motive_1:=λ _=>Bool) t h (λ x0 x1 x2 _=>f x0 x1 x2) else false
@[elab_as_elim] theorem eIf{f:Expr->Expr->Expr->Bool}{M:Expr->Prop}(h:onIf t f=true)(k:∀ x0 x1 x2 x3,f x0 x1 x2=true->M (.IfExp x0 x1 x2 x3)):M t:=by
 unfold onIf at h
 by_cases e:t.ctorIdx=5
 ·rw[dif_pos e] at h;exact Expr.IfExp.elim (motive_1:=λ t=>∀ e,Expr.IfExp.elim (motive_1:=λ _=>Bool) t e (λ x0 x1 x2 _=>f x0 x1 x2)=true->M t) t e (λ x0 x1 x2 x3 _ h=>k x0 x1 x2 x3 h) e h
 ·rw[dif_neg e] at h;cases h
noncomputable def onDi(t:Expr)(f:List (Option Expr)->List Expr->Bool):Bool:=if h:t.ctorIdx=6 then Expr.Dict.elim (motive_1:=λ _=>Bool) t h (λ x0 x1 _=>f x0 x1) else false
@[elab_as_elim] theorem eDi{f:List (Option Expr)->List Expr->Bool}{M:Expr->Prop}(h:onDi t f=true)(k:∀ x0 x1 x2,f x0 x1=true->M (.Dict x0 x1 x2)):M t:=by
 unfold onDi at h
 by_cases e:t.ctorIdx=6
 ·rw[dif_pos e] at h;exact Expr.Dict.elim (motive_1:=λ t=>∀ e,Expr.Dict.elim (motive_1:=λ _=>Bool) t e (λ x0 x1 _=>f x0 x1)=true->M t) t e (λ x0 x1 x2 _ h=>k x0 x1 x2 h) e h
 ·rw[dif_neg e] at h;cases h
noncomputable def JR(t:Expr)(f:Expr->List CmpOp->List Expr->Bool):Bool:=if h:t.ctorIdx=15 then Expr.Compare.elim (motive_1:=λ _=>Bool) t h (λ x0 x1 x2 _=>f x0 x1 x2) else false
@[elab_as_elim] theorem eCm{f:Expr->List CmpOp->List Expr->Bool}{M:Expr->Prop}(h:JR t f=true)(k:∀ x0 x1 x2 x3,f x0 x1 x2=true->M (.Compare x0 x1 x2 x3)):M t:=by
 unfold JR at h
 by_cases e:t.ctorIdx=15
 ·rw[dif_pos e] at h;exact Expr.Compare.elim (motive_1:=λ t=>∀ e,Expr.Compare.elim (motive_1:=λ _=>Bool) t e (λ x0 x1 x2 _=>f x0 x1 x2)=true->M t) t e (λ x0 x1 x2 x3 _ h=>k x0 x1 x2 x3 h) e h
 ·rw[dif_neg e] at h;cases h
noncomputable def onCa(t:Expr)(f:Expr->List Expr->List Keyword->Pos->Bool):Bool:=if h:t.ctorIdx=16 then Expr.Call.elim (motive_1:=λ _=>Bool) t h (λ x0 x1 x2 x3=>f x0 x1 x2 x3) else false
@[elab_as_elim] theorem eCa{f:Expr->List Expr->List Keyword->Pos->Bool}{M:Expr->Prop}(h:onCa t f=true)(k:∀ x0 x1 x2 x3,f x0 x1 x2 x3=true->M (.Call x0 x1 x2 x3)):M t:=by
 unfold onCa at h
 by_cases e:t.ctorIdx=16
 ·rw[dif_pos e] at h;exact Expr.Call.elim (motive_1:=λ t=>∀ e,Expr.Call.elim (motive_1:=λ _=>Bool) t e (λ x0 x1 x2 x3=>f x0 x1 x2 x3)=true->M t) t e (λ x0 x1 x2 x3 _ h=>k x0 x1 x2 x3 h) e h
 ·rw[dif_neg e] at h;cases h
noncomputable def onC(t:Expr)(f:Const->Bool):Bool:=if h:t.ctorIdx=19 then Expr.Constant.elim (motive_1:=λ _=>Bool) t h (λ x0 _ _=>f x0) else false
@[elab_as_elim] theorem eC{f:Const->Bool}{M:Expr->Prop}(h:onC t f=true)(k:∀ x0 x1 x2,f x0=true->M (.Constant x0 x1 x2)):M t:=by
 unfold onC at h
 by_cases e:t.ctorIdx=19
 ·rw[dif_pos e] at h;exact Expr.Constant.elim (motive_1:=λ t=>∀ e,Expr.Constant.elim (motive_1:=λ _=>Bool) t e (λ x0 _ _=>f x0)=true->M t) t e (λ x0 x1 x2 _ h=>k x0 x1 x2 h) e h
 ·rw[dif_neg e] at h;cases h
noncomputable def VM(t:Expr)(f:Expr->Str->Pos->Bool):Bool:=if h:t.ctorIdx=20 then Expr.Attribute.elim (motive_1:=λ _=>Bool) t h (λ x0 x1 x2=>f x0 x1 x2) else false
@[elab_as_elim] theorem eAt{f:Expr->Str->Pos->Bool}{M:Expr->Prop}(h:VM t f=true)(k:∀ x0 x1 x2,f x0 x1 x2=true->M (.Attribute x0 x1 x2)):M t:=by
 unfold VM at h
 by_cases e:t.ctorIdx=20
 ·rw[dif_pos e] at h;exact Expr.Attribute.elim (motive_1:=λ t=>∀ e,Expr.Attribute.elim (motive_1:=λ _=>Bool) t e (λ x0 x1 x2=>f x0 x1 x2)=true->M t) t e (λ x0 x1 x2 _ h=>k x0 x1 x2 h) e h
 ·rw[dif_neg e] at h;cases h
noncomputable def Vg(t:Expr)(f:Expr->Expr->Bool):Bool:=if h:t.ctorIdx=21 then Expr.Subscript.elim (motive_1:=λ _=>Bool) t h (λ x0 x1 _=>f x0 x1) else false
@[elab_as_elim] theorem eSu{f:Expr->Expr->Bool}{M:Expr->Prop}(h:Vg t f=true)(k:∀ x0 x1 x2,f x0 x1=true->M (.Subscript x0 x1 x2)):M t:=by
 unfold Vg at h
 by_cases e:t.ctorIdx=21
 ·rw[dif_pos e] at h;exact Expr.Subscript.elim (motive_1:=λ t=>∀ e,Expr.Subscript.elim (motive_1:=λ _=>Bool) t e (λ x0 x1 _=>f x0 x1)=true->M t) t e (λ x0 x1 x2 _ h=>k x0 x1 x2 h) e h
 ·rw[dif_neg e] at h;cases h
noncomputable def onN(t:Expr)(f:Str->Bool):Bool:=if h:t.ctorIdx=23 then Expr.Name.elim (motive_1:=λ _=>Bool) t h (λ x0 _=>f x0) else false
@[elab_as_elim] theorem eN{f:Str->Bool}{M:Expr->Prop}(h:onN t f=true)(k:∀ x0 x1,f x0=true->M (.Name x0 x1)):M t:=by
 unfold onN at h
 by_cases e:t.ctorIdx=23
 ·rw[dif_pos e] at h;exact Expr.Name.elim (motive_1:=λ t=>∀ e,Expr.Name.elim (motive_1:=λ _=>Bool) t e (λ x0 _=>f x0)=true->M t) t e (λ x0 x1 _ h=>k x0 x1 h) e h
 ·rw[dif_neg e] at h;cases h
noncomputable def onLi(t:Expr)(f:List Expr->Bool):Bool:=if h:t.ctorIdx=24 then Expr.List.elim (motive_1:=λ _=>Bool) t h (λ x0 _=>f x0) else false
@[elab_as_elim] theorem eLi{f:List Expr->Bool}{M:Expr->Prop}(h:onLi t f=true)(k:∀ x0 x1,f x0=true->M (.List x0 x1)):M t:=by
 unfold onLi at h
 by_cases e:t.ctorIdx=24
 ·rw[dif_pos e] at h;exact Expr.List.elim (motive_1:=λ t=>∀ e,Expr.List.elim (motive_1:=λ _=>Bool) t e (λ x0 _=>f x0)=true->M t) t e (λ x0 x1 _ h=>k x0 x1 h) e h
 ·rw[dif_neg e] at h;cases h
noncomputable def Vr(t:Expr)(f:List Expr->Bool):Bool:=if h:t.ctorIdx=25 then Expr.Tuple.elim (motive_1:=λ _=>Bool) t h (λ x0 _ _=>f x0) else false
@[elab_as_elim] theorem eTu{f:List Expr->Bool}{M:Expr->Prop}(h:Vr t f=true)(k:∀ x0 x1 x2,f x0=true->M (.Tuple x0 x1 x2)):M t:=by
 unfold Vr at h
 by_cases e:t.ctorIdx=25
 ·rw[dif_pos e] at h;exact Expr.Tuple.elim (motive_1:=λ t=>∀ e,Expr.Tuple.elim (motive_1:=λ _=>Bool) t e (λ x0 _ _=>f x0)=true->M t) t e (λ x0 x1 x2 _ h=>k x0 x1 x2 h) e h
 ·rw[dif_neg e] at h;cases h
noncomputable def z04(t:Expr)(f:Option Expr->Option Expr->Option Expr->Bool):Bool:=if h:t.ctorIdx=26 then Expr.Slice.elim (motive_1:=λ _=>Bool) t h (λ x0 x1 x2 _=>f x0 x1 x2) else false
@[elab_as_elim] theorem eSl{f:Option Expr->Option Expr->Option Expr->Bool}{M:Expr->Prop}(h:z04 t f=true)(k:∀ x0 x1 x2 x3,f x0 x1 x2=true->M (.Slice x0 x1 x2 x3)):M t:=by
 unfold z04 at h
 by_cases e:t.ctorIdx=26
 ·rw[dif_pos e] at h;exact Expr.Slice.elim (motive_1:=λ t=>∀ e,Expr.Slice.elim (motive_1:=λ _=>Bool) t e (λ x0 x1 x2 _=>f x0 x1 x2)=true->M t) t e (λ x0 x1 x2 x3 _ h=>k x0 x1 x2 x3 h) e h
 ·rw[dif_neg e] at h;cases h
noncomputable def onRe(t:Stmt)(f:Option Expr->Bool):Bool:=if h:t.ctorIdx=3 then Stmt.Return.elim (motive_2:=λ _=>Bool) t h (λ x0 _=>f x0) else false
@[elab_as_elim] theorem eRe{t:Stmt}{f:Option Expr->Bool}{M:Stmt->Prop}(h:onRe t f=true)(k:∀ x0 x1,f x0=true->M (.Return x0 x1)):M t:=by
 unfold onRe at h
 by_cases e:t.ctorIdx=3
 ·rw[dif_pos e] at h;exact Stmt.Return.elim (motive_2:=λ t=>∀ e,Stmt.Return.elim (motive_2:=λ _=>Bool) t e (λ x0 _=>f x0)=true->M t) t e (λ x0 x1 _ h=>k x0 x1 h) e h
 ·rw[dif_neg e] at h;cases h
noncomputable def onAs(t:Stmt)(f:List Expr->Expr->Bool):Bool:=if h:t.ctorIdx=5 then Stmt.Assign.elim (motive_2:=λ _=>Bool) t h (λ x0 x1 _=>f x0 x1) else false
@[elab_as_elim] theorem eAs{t:Stmt}{f:List Expr->Expr->Bool}{M:Stmt->Prop}(h:onAs t f=true)(k:∀ x0 x1 x2,f x0 x1=true->M (.Assign x0 x1 x2)):M t:=by
 unfold onAs at h
 by_cases e:t.ctorIdx=5
 ·rw[dif_pos e] at h;exact Stmt.Assign.elim (motive_2:=λ t=>∀ e,Stmt.Assign.elim (motive_2:=λ _=>Bool) t e (λ x0 x1 _=>f x0 x1)=true->M t) t e (λ x0 x1 x2 _ h=>k x0 x1 x2 h) e h
 ·rw[dif_neg e] at h;cases h
noncomputable def onAu(t:Stmt)(f:Expr->Operator->Expr->Bool):Bool:=if h:t.ctorIdx=7 then Stmt.AugAssign.elim (motive_2:=λ _=>Bool) t h (λ x0 x1 x2 _=>f x0 x1 x2) else false
@[elab_as_elim] theorem eAu{t:Stmt}{f:Expr->Operator->Expr->Bool}{M:Stmt->Prop}(h:onAu t f=true)(k:∀ x0 x1 x2 x3,f x0 x1 x2=true->M (.AugAssign x0 x1 x2 x3)):M t:=by
 unfold onAu at h
 by_cases e:t.ctorIdx=7
 ·rw[dif_pos e] at h;exact Stmt.AugAssign.elim (motive_2:=λ t=>∀ e,Stmt.AugAssign.elim (motive_2:=λ _=>Bool) t e (λ x0 x1 x2 _=>f x0 x1 x2)=true->M t) t e (λ x0 x1 x2 x3 _ h=>k x0 x1 x2 x3 h) e h
 ·rw[dif_neg e] at h;cases h
noncomputable def z0q(t:Stmt)(f:Expr->Expr->List Stmt->List Stmt->Bool):Bool:=if h:t.ctorIdx=9 then Stmt.For.elim (motive_2:=λ _=>Bool) t h (λ x0 x1 x2 x3 _=>f x0 x1 x2 x3) else false
@[elab_as_elim] theorem eFo{t:Stmt}{f:Expr->Expr->List Stmt->List Stmt->Bool}{M:Stmt->Prop}(h:z0q t f=true)(k:∀ x0 x1 x2 x3 x4,f x0 x1 x2 x3=true->M (.For x0 x1 x2 x3 x4)):M t:=by
 unfold z0q at h
 by_cases e:t.ctorIdx=9
 ·rw[dif_pos e] at h;exact Stmt.For.elim (motive_2:=λ t=>∀ e,Stmt.For.elim (motive_2:=λ _=>Bool) t e (λ x0 x1 x2 x3 _=>f x0 x1 x2 x3)=true->M t) t e (λ x0 x1 x2 x3 x4 _ h=>k x0 x1 x2 x3 x4 h) e h
 ·rw[dif_neg e] at h;cases h
noncomputable def onWh(t:Stmt)(f:Expr->List Stmt->List Stmt->Bool):Bool:=if h:t.ctorIdx=11 then Stmt.While.elim (motive_2:=λ _=>Bool) t h (λ x0 x1 x2 _=>f x0 x1 x2) else false
@[elab_as_elim] theorem eWh{t:Stmt}{f:Expr->List Stmt->List Stmt->Bool}{M:Stmt->Prop}(h:onWh t f=true)(k:∀ x0 x1 x2 x3,f x0 x1 x2=true->M (.While x0 x1 x2 x3)):M t:=by
 unfold onWh at h
 by_cases e:t.ctorIdx=11
 ·rw[dif_pos e] at h;exact Stmt.While.elim (motive_2:=λ t=>∀ e,Stmt.While.elim (motive_2:=λ _=>Bool) t e (λ x0 x1 x2 _=>f x0 x1 x2)=true->M t) t e (λ x0 x1 x2 x3 _ h=>k x0 x1 x2 x3 h) e h
 ·rw[dif_neg e] at h;cases h
noncomputable def Qe(t:Stmt)(f:Expr->List Stmt->List Stmt->Bool):Bool:=if h:t.ctorIdx=12 then Stmt.If.elim (motive_2:=λ _=>Bool) t h (λ x0 x1 x2 _=>f x0 x1 x2) else false
@[elab_as_elim] theorem eIfS{t:Stmt}{f:Expr->List Stmt->List Stmt->Bool}{M:Stmt->Prop}(h:Qe t f=true)(k:∀ x0 x1 x2 x3,f x0 x1 x2=true->M (.If x0 x1 x2 x3)):M t:=by
 unfold Qe at h
 by_cases e:t.ctorIdx=12
 ·rw[dif_pos e] at h;exact Stmt.If.elim (motive_2:=λ t=>∀ e,Stmt.If.elim (motive_2:=λ _=>Bool) t e (λ x0 x1 x2 _=>f x0 x1 x2)=true->M t) t e (λ x0 x1 x2 x3 _ h=>k x0 x1 x2 x3 h) e h
 ·rw[dif_neg e] at h;cases h
noncomputable def onRa(t:Stmt)(f:Option Expr->Option Expr->Bool):Bool:=if h:t.ctorIdx=16 then Stmt.Raise.elim (motive_2:=λ _=>Bool) t h (λ x0 x1 _=>f x0 x1) else false
@[elab_as_elim] theorem eRa{t:Stmt}{f:Option Expr->Option Expr->Bool}{M:Stmt->Prop}(h:onRa t f=true)(k:∀ x0 x1 x2,f x0 x1=true->M (.Raise x0 x1 x2)):M t:=by
 unfold onRa at h
 by_cases e:t.ctorIdx=16
 ·rw[dif_pos e] at h;exact Stmt.Raise.elim (motive_2:=λ t=>∀ e,Stmt.Raise.elim (motive_2:=λ _=>Bool) t e (λ x0 x1 _=>f x0 x1)=true->M t) t e (λ x0 x1 x2 _ h=>k x0 x1 x2 h) e h
 ·rw[dif_neg e] at h;cases h
noncomputable def onTr(t:Stmt)(f:List Stmt->List ExceptHandler->List Stmt->List Stmt->Bool):Bool:=if h:t.ctorIdx=17 then Stmt.Try.elim (motive_2:=λ _=>Bool) t h (λ x0 x1 x2 x3 _=>f x0 x1 x2 x3) else false
@[elab_as_elim] theorem eTr{t:Stmt}{f:List Stmt->List ExceptHandler->List Stmt->List Stmt->Bool}{M:Stmt->Prop}(h:onTr t f=true)(k:∀ x0 x1 x2 x3 x4,f x0 x1 x2 x3=true->M (.Try x0 x1 x2 x3 x4)):M t:=by
 unfold onTr at h
 by_cases e:t.ctorIdx=17
 ·rw[dif_pos e] at h;exact Stmt.Try.elim (motive_2:=λ t=>∀ e,Stmt.Try.elim (motive_2:=λ _=>Bool) t e (λ x0 x1 x2 x3 _=>f x0 x1 x2 x3)=true->M t) t e (λ x0 x1 x2 x3 x4 _ h=>k x0 x1 x2 x3 x4 h) e h
 ·rw[dif_neg e] at h;cases h
noncomputable def z0x(t:Stmt)(f:Expr->Bool):Bool:=if h:t.ctorIdx=24 then Stmt.Expr.elim (motive_2:=λ _=>Bool) t h (λ x0 _=>f x0) else false
@[elab_as_elim] theorem eEx{t:Stmt}{f:Expr->Bool}{M:Stmt->Prop}(h:z0x t f=true)(k:∀ x0 x1,f x0=true->M (.Expr x0 x1)):M t:=by
 unfold z0x at h
 by_cases e:t.ctorIdx=24
 ·rw[dif_pos e] at h;exact Stmt.Expr.elim (motive_2:=λ t=>∀ e,Stmt.Expr.elim (motive_2:=λ _=>Bool) t e (λ x0 _=>f x0)=true->M t) t e (λ x0 x1 _ h=>k x0 x1 h) e h
 ·rw[dif_neg e] at h;cases h
noncomputable def onPa(t:Stmt)(f:Bool):Bool:=if h:t.ctorIdx=25 then Stmt.Pass.elim (motive_2:=λ _=>Bool) t h (λ _=>f) else false
@[elab_as_elim] theorem ePa{t:Stmt}{f:Bool}{M:Stmt->Prop}(h:onPa t f=true)(k:∀ x0,f=true->M (.Pass x0)):M t:=by
 unfold onPa at h
 by_cases e:t.ctorIdx=25
 ·rw[dif_pos e] at h;exact Stmt.Pass.elim (motive_2:=λ t=>∀ e,Stmt.Pass.elim (motive_2:=λ _=>Bool) t e (λ _=>f)=true->M t) t e (λ x0 _ h=>k x0 h) e h
 ·rw[dif_neg e] at h;cases h
noncomputable def onCo(t:Stmt)(f:Bool):Bool:=if h:t.ctorIdx=27 then Stmt.Continue.elim (motive_2:=λ _=>Bool) t h (λ _=>f) else false
@[elab_as_elim] theorem eCo{t:Stmt}{f:Bool}{M:Stmt->Prop}(h:onCo t f=true)(k:∀ x0,f=true->M (.Continue x0)):M t:=by
 unfold onCo at h
 by_cases e:t.ctorIdx=27
 ·rw[dif_pos e] at h;exact Stmt.Continue.elim (motive_2:=λ t=>∀ e,Stmt.Continue.elim (motive_2:=λ _=>Bool) t e (λ _=>f)=true->M t) t e (λ x0 _ h=>k x0 h) e h
 ·rw[dif_neg e] at h;cases h
noncomputable def j0(t:E)(f:V->Bool):Bool:=if h:t.ctorIdx=0 then E.cst.elim (motive:=λ _=>Bool) t h (λ x0=>f x0) else false
@[elab_as_elim] theorem V9{t:E}{f:V->Bool}{M:E->Prop}(h:j0 t f=true)(k:∀ x0,f x0=true->M (.cst x0)):M t:=by
 unfold j0 at h
 by_cases e:t.ctorIdx=0
 ·rw[dif_pos e] at h;exact E.cst.elim (motive:=λ t=>∀ e,E.cst.elim (motive:=λ _=>Bool) t e (λ x0=>f x0)=true->M t) t e (λ x0 _ h=>k x0 h) e h
 ·rw[dif_neg e] at h;cases h
noncomputable def z1b(t:E)(f:Nat->Bool):Bool:=if h:t.ctorIdx=2 then E.glb.elim (motive:=λ _=>Bool) t h (λ x0=>f x0) else false
@[elab_as_elim] theorem eGlb{t:E}{f:Nat->Bool}{M:E->Prop}(h:z1b t f=true)(k:∀ x0,f x0=true->M (.glb x0)):M t:=by
 unfold z1b at h
 by_cases e:t.ctorIdx=2
 ·rw[dif_pos e] at h;exact E.glb.elim (motive:=λ t=>∀ e,E.glb.elim (motive:=λ _=>Bool) t e (λ x0=>f x0)=true->M t) t e (λ x0 _ h=>k x0 h) e h
 ·rw[dif_neg e] at h;cases h
noncomputable def wV(t:E)(f:Bool):Bool:=if h:t.ctorIdx=22 then E.nil.elim (motive:=λ _=>Bool) t h (f) else false
@[elab_as_elim] theorem eNil{t:E}{f:Bool}{M:E->Prop}(h:wV t f=true)(k:f=true->M (.nil )):M t:=by
 unfold wV at h
 by_cases e:t.ctorIdx=22
 ·rw[dif_pos e] at h;exact E.nil.elim (motive:=λ t=>∀ e,E.nil.elim (motive:=λ _=>Bool) t e (f)=true->M t) t e (λ _ h=>k h) e h
 ·rw[dif_neg e] at h;cases h
noncomputable def qy(t:E)(f:E->E->Bool):Bool:=if h:t.ctorIdx=23 then E.cons.elim (motive:=λ _=>Bool) t h (λ x0 x1=>f x0 x1) else false
@[elab_as_elim] theorem YY{t:E}{f:E->E->Bool}{M:E->Prop}(h:qy t f=true)(k:∀ x0 x1,f x0 x1=true->M (.cons x0 x1)):M t:=by
 unfold qy at h
 by_cases e:t.ctorIdx=23
 ·rw[dif_pos e] at h;exact E.cons.elim (motive:=λ t=>∀ e,E.cons.elim (motive:=λ _=>Bool) t e (λ x0 x1=>f x0 x1)=true->M t) t e (λ x0 x1 _ h=>k x0 x1 h) e h
 ·rw[dif_neg e] at h;cases h
noncomputable def onVi(t:V)(f:Int->Bool):Bool:=if h:t.ctorIdx=2 then V.int.elim (motive_1:=λ _=>Bool) t h (λ x0=>f x0) else false
@[elab_as_elim] theorem eVi{t:V}{f:Int->Bool}{M:V->Prop}(h:onVi t f=true)(k:∀ x0,f x0=true->M (.int x0)):M t:=by
 unfold onVi at h
 by_cases e:t.ctorIdx=2
 ·rw[dif_pos e] at h;exact V.int.elim (motive_1:=λ t=>∀ e,V.int.elim (motive_1:=λ _=>Bool) t e (λ x0=>f x0)=true->M t) t e (λ x0 _ h=>k x0 h) e h
 ·rw[dif_neg e] at h;cases h
noncomputable def VH(t:V)(f:List Nat->Bool):Bool:=if h:t.ctorIdx=3 then V.str.elim (motive_1:=λ _=>Bool) t h (λ x0=>f x0) else false
@[elab_as_elim] theorem eVs{t:V}{f:List Nat->Bool}{M:V->Prop}(h:VH t f=true)(k:∀ x0,f x0=true->M (.str x0)):M t:=by
 unfold VH at h
 by_cases e:t.ctorIdx=3
 ·rw[dif_pos e] at h;exact V.str.elim (motive_1:=λ t=>∀ e,V.str.elim (motive_1:=λ _=>Bool) t e (λ x0=>f x0)=true->M t) t e (λ x0 _ h=>k x0 h) e h
 ·rw[dif_neg e] at h;cases h
noncomputable def Jv(t:V)(f:Bool):Bool:=if h:t.ctorIdx=0 then V.none.elim (motive_1:=λ _=>Bool) t h (f) else false
@[elab_as_elim] theorem eVn{t:V}{f:Bool}{M:V->Prop}(h:Jv t f=true)(k:f=true->M (.none )):M t:=by
 unfold Jv at h
 by_cases e:t.ctorIdx=0
 ·rw[dif_pos e] at h;exact V.none.elim (motive_1:=λ t=>∀ e,V.none.elim (motive_1:=λ _=>Bool) t e (f)=true->M t) t e (λ _ h=>k h) e h
 ·rw[dif_neg e] at h;cases h
noncomputable def onCi(t:Const)(f:Int->Bool):Bool:=if h:t.ctorIdx=2 then Const.int.elim (motive:=λ _=>Bool) t h (λ x0=>f x0) else false
@[elab_as_elim] theorem eCi{t:Const}{f:Int->Bool}{M:Const->Prop}(h:onCi t f=true)(k:∀ x0,f x0=true->M (.int x0)):M t:=by
 unfold onCi at h
 by_cases e:t.ctorIdx=2
 ·rw[dif_pos e] at h;exact Const.int.elim (motive:=λ t=>∀ e,Const.int.elim (motive:=λ _=>Bool) t e (λ x0=>f x0)=true->M t) t e (λ x0 _ h=>k x0 h) e h
 ·rw[dif_neg e] at h;cases h
noncomputable def K6(t:Const)(f:Str->Bool):Bool:=if h:t.ctorIdx=5 then Const.str.elim (motive:=λ _=>Bool) t h (λ x0=>f x0) else false
@[elab_as_elim] theorem eCs{t:Const}{f:Str->Bool}{M:Const->Prop}(h:K6 t f=true)(k:∀ x0,f x0=true->M (.str x0)):M t:=by
 unfold K6 at h
 by_cases e:t.ctorIdx=5
 ·rw[dif_pos e] at h;exact Const.str.elim (motive:=λ t=>∀ e,Const.str.elim (motive:=λ _=>Bool) t e (λ x0=>f x0)=true->M t) t e (λ x0 _ h=>k x0 h) e h
 ·rw[dif_neg e] at h;cases h
noncomputable def on1{α:Type}:List α->(α->Bool)->Bool
 | [],_=>false
 | a::r,f=>match r with
  | []=>f a
  | _::_=>false
noncomputable def on2{α:Type}:List α->(α->α->Bool)->Bool
 | [],_=>false
 | a::r,f=>on1 r λ b=>f a b
noncomputable def onc{α:Type}:List α->(α->List α->Bool)->Bool
 | [],_=>false
 | a::r,f=>f a r
@[elab_as_elim] theorem el1{l:List α}{f:α->Bool}{M:List α->Prop}(h:on1 l f=true)(k:∀ a,f a=true->M [a]):M l:=by
 cases l with
 | nil=>cases h
 | cons a r=>
  cases r with
  | nil=>exact k a h
  | cons=>cases h
@[elab_as_elim] theorem el2{l:List α}{f:α->α->Bool}{M:List α->Prop}(h:on2 l f=true)(k:∀ a b,f a b=true->M [a,b]):M l:=by
 cases l with
 | nil=>cases h
 | cons a r=>exact el1 (M:=λ r=>M (a::r)) h λ b=>k a b
@[elab_as_elim] theorem ec{l:List α}{f:α->List α->Bool}{M:List α->Prop}(h:onc l f=true)(k:∀ a r,f a r=true->M (a::r)):M l:=by
 cases l with
 | nil=>cases h
 | cons a r=>exact k a r h
noncomputable def qX{α:Type}:List α->Bool
 | []=>true
 | _::_=>false
@[elab_as_elim] theorem eL{l:List α}{M:List α->Prop}(h:qX l=true)(k:M []):M l:=by
 cases l with
 | nil=>exact k
 | cons=>cases h
noncomputable def noO{α:Type}:Option α->Bool
 | none=>true
 | some _=>false
@[elab_as_elim] theorem eNo{l:Option α}{M:Option α->Prop}(h:noO l=true)(k:M none):M l:=by
 cases l with
 | none=>exact k
 | some=>cases h
end
noncomputable def qo:S:=((.if_ (.cmp2 .le .le (.cst (.str [97])) (.loc 0) (.cst (.str [122]))) ((.ret .nil)>>.nil) .nil)>>(.ret (.loc 0))>>.nil)
noncomputable def wz:S:=((.asg 2 (.neg (.cst (.int 1))))>>(.asg 3 (.loc 1))>>(.whl (.and_ (.cmp .lt (.loc 3) (.bi .len ((.loc 0)>>.nil))) (.or_ (.cmp .eq (.idx (.loc 0) (.loc 3)) (.cst (.str [32]))) (.cmp .in_ (.idx (.loc 0) (.loc 3)) (.glb 1)))) ((.if_ (.cmp .ne (.idx (.loc 0) (.loc 3)) (.cst (.str [32]))) ((.asg 2 (.bop .add (.bop .mul (.bi .max ((.loc 2)>>(.cst (.int 0))>>.nil)) (.cst (.int 10))) (.me .find (.glb 1) ((.idx (.loc 0) (.loc 3))>>.nil))))>>.nil) .nil)>>(.aug 3 .add (.cst (.int 1)))>>.nil))>>(.if_ (.or_ (.cmp .lt (.loc 2) (.cst (.int 0))) (.cmp .ne (.call (.glb 0) ((.slc (.loc 0) (.loc 3) (.bop .add (.loc 3) (.cst (.int 1))))>>.nil)) (.cst (.str [72])))) ((.ret (.tup ((.neg (.cst (.int 1)))>>(.loc 1)>>.nil)))>>.nil) .nil)>>(.ret (.tup ((.loc 2)>>(.bop .add (.loc 3) (.cst (.int 1)))>>.nil)))>>.nil)
noncomputable def wc:S:=((.asgT [2,3] (.call (.glb 2) ((.loc 0)>>(.loc 1)>>.nil)))>>(.if_ (.cmp .lt (.loc 2) (.cst (.int 0))) ((.ret (.tup ((.cst (.str []))>>(.loc 1)>>.nil)))>>.nil) .nil)>>(.if_ (.or_ (.cmp .eq (.loc 2) (.cst (.int 0))) (.cmp .gt (.loc 2) (.bop .sub (.bi .len ((.loc 0)>>.nil)) (.loc 3)))) ((.rai 2 ((.loc 1)>>(.cst (.str @"a Hollerith count that is too small or too great"))>>.nil))>>.nil) .nil)>>(.asg 4 (.slc (.loc 0) (.loc 3) (.bop .add (.loc 3) (.loc 2))))>>(.ret (.tup ((.bop .add (.bop .add (.cst (.str [39])) .nil) (.cst (.str [39])))>>(.bop .add (.loc 3) (.loc 2))>>.nil)))>>.nil)
noncomputable def qf:S:=((.asg 4 (.idx (.loc 0) (.loc 3)))>>(.if_ (.cmp .eq (.loc 4) (.cst (.str [32]))) ((.aug 3 .add (.cst (.int 1)))>>.cont>>.nil) .nil)>>(.asg 5 (.cst (.str [])))>>(.asg 6 (.loc 3))>>(.if_ (.cmp .eq (.loc 4) (.cst (.str [39]))) ((.asg 6 (.call .nil ((.loc 0)>>(.loc 3)>>.nil)))>>(.asg 5 (.slc (.loc 0) (.loc 3) (.loc 6)))>>.nil) ((.if_ (.and_ (.cmp .in_ (.loc 4) (.glb 1)) (.and_ (.cmp .ne (.loc 2) (.cst (.str []))) (.cmp .in_ (.loc 2) (.glb 3)))) ((.asgT [5,6] (.call (.glb 4) ((.loc 0)>>(.loc 3)>>.nil)))>>.nil) .nil)>>.nil))>>(.if_ (.cmp .eq (.loc 5) (.cst (.str []))) ((.app (.loc 1) (.tup ((.call (.glb 0) ((.loc 4)>>.nil))>>(.cst (.bool false))>>.nil)))>>(.aug 3 .add (.cst (.int 1)))>>.nil) ((.forE [7] (.loc 5) ((.app (.loc 1) (.tup ((.loc 7)>>(.cst (.bool true))>>.nil)))>>.nil))>>(.asg 3 (.loc 6))>>.nil))>>(.asg 2 (.loc 4))>>.nil)
noncomputable def qc:S:=((.asg 1 (.lst .nil))>>(.asg 2 (.cst (.str [])))>>(.asg 3 (.cst (.int 0)))>>(.whl (.cmp .lt (.loc 3) (.bi .len ((.loc 0)>>.nil))) qf)>>(.ret (.loc 1))>>.nil)
noncomputable def vj:S:=((.asg 1 (.cst (.str [])))>>(.forE [2,3] (.call (.glb 5) ((.loc 0)>>.nil)) ((.aug 1 .add (.loc 2))>>.nil))>>(.ret (.loc 1))>>.nil)
noncomputable def kP:S:=((.if_ (.cmp .eq (.loc 4) (.cst (.str [39]))) ((.asg 3 (.not_ (.loc 3)))>>(.app (.loc 1) (.neg (.cst (.int 1))))>>.nil) ((.if_ (.loc 3) ((.app (.loc 1) (.neg (.cst (.int 1))))>>.nil) ((.if_ (.and_ (.cmp .eq (.loc 4) (.cst (.str [40]))) (.cmp .ge (.loc 2) (.cst (.int 0)))) ((.app (.loc 1) (.loc 2))>>(.aug 2 .add (.cst (.int 1)))>>.nil) ((.if_ (.and_ (.cmp .eq (.loc 4) (.cst (.str [41]))) (.cmp .gt (.loc 2) (.cst (.int 0)))) ((.aug 2 .sub (.cst (.int 1)))>>(.app (.loc 1) (.loc 2))>>.nil) ((.if_ (.cmp .eq (.loc 4) (.cst (.str [41]))) ((.asg 2 (.neg (.cst (.int 2))))>>.nil) .nil)>>(.app (.loc 1) (.loc 2))>>.nil))>>.nil))>>.nil))>>.nil))>>.nil)
noncomputable def kG:S:=((.asg 1 (.lst .nil))>>(.asg 2 (.cst (.int 0)))>>(.asg 3 (.cst (.bool false)))>>(.forE [4] (.loc 0) kP)>>(.ret (.loc 1))>>.nil)
noncomputable def yU:S:=((.if_ (.and_ (.cmp .eq (.idx (.loc 0) (.loc 3)) (.cst (.str [41]))) (.cmp .eq (.idx (.loc 2) (.loc 3)) (.idx (.loc 2) (.loc 1)))) ((.ret (.loc 3))>>.nil) .nil)>>.nil)
noncomputable def qj:S:=((.asg 2 (.call (.glb 6) ((.loc 0)>>.nil)))>>(.forR 3 ((.bop .add (.loc 1) (.cst (.int 1)))>>(.bi .len ((.loc 0)>>.nil))>>.nil) yU)>>(.ret (.neg (.cst (.int 1))))>>.nil)
noncomputable def v1:S:=((.if_ (.or_ (.cmp .eq (.slc (.loc 0) (.loc 1) (.bop .add (.loc 1) (.cst (.int 1)))) (.cst (.str []))) (.cmp .notin (.idx (.loc 0) (.loc 1)) (.glb 8))) ((.ret (.loc 1))>>.nil) .nil)>>(.asg 2 (.loc 1))>>(.whl (.and_ (.cmp .lt (.loc 2) (.bi .len ((.loc 0)>>.nil))) (.or_ (.cmp .in_ (.idx (.loc 0) (.loc 2)) (.glb 8)) (.cmp .in_ (.idx (.loc 0) (.loc 2)) (.glb 7)))) ((.aug 2 .add (.cst (.int 1)))>>.nil))>>(.ret (.loc 2))>>.nil)
noncomputable def xY:S:=((.asg 2 (.loc 1))>>(.whl (.and_ (.cmp .lt (.loc 2) (.bi .len ((.loc 0)>>.nil))) (.cmp .in_ (.idx (.loc 0) (.loc 2)) (.glb 7))) ((.aug 2 .add (.cst (.int 1)))>>.nil))>>(.ret (.loc 2))>>.nil)
noncomputable def vD:S:=((.if_ (.cmp .eq (.idx (.loc 1) (.loc 3)) (.neg (.cst (.int 2)))) ((.ret (.cst (.bool false)))>>.nil) .nil)>>(.if_ (.and_ (.cmp .ge (.idx (.loc 1) (.loc 3)) (.cst (.int 0))) (.cmp .eq (.idx (.loc 0) (.loc 3)) (.cst (.str [40])))) ((.aug 2 .add (.cst (.int 1)))>>.nil) .nil)>>(.if_ (.and_ (.cmp .ge (.idx (.loc 1) (.loc 3)) (.cst (.int 0))) (.cmp .eq (.idx (.loc 0) (.loc 3)) (.cst (.str [41])))) ((.aug 2 .sub (.cst (.int 1)))>>.nil) .nil)>>.nil)
noncomputable def xB:S:=((.asg 2 (.cst (.int 0)))>>(.forR 3 ((.bi .len ((.loc 0)>>.nil))>>.nil) vD)>>(.ret (.cmp .eq (.loc 2) (.cst (.int 0))))>>.nil)
noncomputable def j5:S:=((.if_ (.and_ (.cmp .eq (.idx (.loc 1) (.loc 3)) (.cst (.int 0))) (.and_ (.cmp .eq (.idx (.loc 0) (.loc 3)) (.cst (.str [61]))) (.cmp .lt (.loc 2) (.cst (.int 0))))) ((.asg 2 (.loc 3))>>.nil) .nil)>>(.if_ (.and_ (.cmp .eq (.idx (.loc 1) (.loc 3)) (.cst (.int 0))) (.and_ (.cmp .eq (.idx (.loc 0) (.loc 3)) (.cst (.str [44]))) (.cmp .ge (.loc 2) (.cst (.int 0))))) ((.ret (.tup ((.loc 2)>>(.cst (.bool true))>>.nil)))>>.nil) .nil)>>.nil)
noncomputable def wn:S:=((.asg 2 (.neg (.cst (.int 1))))>>(.forR 3 ((.bi .len ((.loc 0)>>.nil))>>.nil) j5)>>(.ret (.tup ((.loc 2)>>(.cst (.bool false))>>.nil)))>>.nil)
noncomputable def Xb:S:=(.if_ (.and_ (.cmp .eq (.loc 2) (.cst (.str @"character"))) (.cmp .eq (.slc (.loc 0) (.loc 3) (.bop .add (.loc 3) (.cst (.int 1)))) (.cst (.str [42])))) ((.asg 3 (.call (.glb 12) ((.loc 0)>>(.bop .add (.loc 3) (.cst (.int 1)))>>.nil)))>>(.if_ (.cmp .eq (.slc (.loc 0) (.loc 3) (.bop .add (.loc 3) (.cst (.int 1)))) (.cst (.str [40]))) ((.asg 3 (.bop .add (.call (.glb 11) ((.loc 0)>>(.loc 3)>>.nil)) (.cst (.int 1))))>>.nil) .nil)>>.nil) .nil)
noncomputable def WD:S:=((.if_ (.cmp .eq (.slc (.loc 0) (.loc 3) (.bop .add (.loc 3) (.cst (.int 8)))) (.cst (.str @"FUNCTION"))) ((.asg 4 (.call (.glb 10) ((.loc 0)>>(.bop .add (.loc 3) (.cst (.int 8)))>>.nil)))>>(.if_ (.and_ (.cmp .gt (.loc 4) (.bop .add (.loc 3) (.cst (.int 8)))) (.cmp .eq (.slc (.loc 0) (.loc 4) (.bop .add (.loc 4) (.cst (.int 1)))) (.cst (.str [40])))) ((.ret (.cst (.str @"function")))>>.nil) .nil)>>.nil) .nil)>>(.ret (.loc 2))>>.nil)
noncomputable def Kx:S:=((.if_ (.cmp .eq (.slc (.loc 0) (.cst .none) (.bi .len ((.loc 1)>>.nil))) (.loc 1)) ((.asg 3 (.bi .len ((.loc 1)>>.nil)))>>Xb>>WD) .nil)>>.nil)
noncomputable def yZ:S:=((.forE [1,2] (.glb 9) Kx)>>(.ret (.cst (.str [])))>>.nil)
noncomputable def Zo:S:=((.if_ (.cmp .eq (.loc 0) (.loc 1)) ((.ret (.loc 2))>>.nil) .nil)>>.nil)
noncomputable def ZP:S:=((.if_ (.cmp .eq (.slc (.loc 0) (.cst .none) (.bi .len ((.loc 1)>>.nil))) (.loc 1)) ((.ret (.loc 2))>>.nil) .nil)>>.nil)
noncomputable def yK:S:=((.forE [1,2] (.glb 15) Zo)>>(.if_ (.cmp .eq (.slc (.loc 0) (.cst .none) (.cst (.int 3))) (.cst (.str @"IF("))) ((.ret (.call .nil ((.loc 0)>>.nil)))>>.nil) .nil)>>(.if_ (.cmp .eq (.slc (.loc 0) (.cst .none) (.cst (.int 7))) (.cst (.str @"ELSEIF("))) ((.ret (.ite (.cmp .eq (.slc (.loc 0) (.bop .add (.call (.glb 11) ((.loc 0)>>(.cst (.int 6))>>.nil)) (.cst (.int 1))) (.cst .none)) (.cst (.str @"THEN"))) (.cst (.str @"elseif")) (.cst (.str []))))>>.nil) .nil)>>(.if_ (.cmp .eq (.slc (.loc 0) (.cst .none) (.cst (.int 4))) (.cst (.str @"GOTO"))) ((.ret (.call .nil ((.loc 0)>>.nil)))>>.nil) .nil)>>(.if_ (.and_ (.cmp .eq (.slc (.loc 0) (.cst .none) (.cst (.int 6))) (.cst (.str @"ASSIGN"))) (.cmp .gt (.call (.glb 12) ((.loc 0)>>(.cst (.int 6))>>.nil)) (.cst (.int 6)))) ((.ret (.cst (.str @"setlabel")))>>.nil) .nil)>>(.forE [1,2] (.glb 14) ZP)>>(.ret (.call (.glb 13) ((.loc 0)>>.nil)))>>.nil)
noncomputable def vi:S:=((.asg 1 (.call (.glb 6) ((.loc 0)>>.nil)))>>(.if_ (.not_ (.call (.glb 18) ((.loc 0)>>(.loc 1)>>.nil))) ((.ret (.cst (.str [])))>>.nil) .nil)>>(.asgT [2,3] (.call (.glb 17) ((.loc 0)>>(.loc 1)>>.nil)))>>(.if_ (.cmp .lt (.loc 2) (.cst (.int 0))) ((.ret (.call (.glb 16) ((.loc 0)>>.nil)))>>.nil) .nil)>>(.if_ (.loc 3) ((.ret (.ite (.call .nil ((.slc (.loc 0) (.cst .none) (.loc 2))>>.nil)) (.cst (.str @"do")) (.cst (.str []))))>>.nil) .nil)>>(.if_ (.call .nil ((.slc (.loc 0) (.cst .none) (.loc 2))>>.nil)) ((.ret (.cst (.str @"assign")))>>.nil) .nil)>>(.if_ (.and_ (.cmp .eq (.slc (.loc 0) (.cst .none) (.cst (.int 3))) (.cst (.str @"IF("))) (.call .nil ((.slc (.loc 0) (.bop .add (.call (.glb 11) ((.loc 0)>>(.cst (.int 2))>>.nil)) (.cst (.int 1))) (.loc 2))>>.nil))) ((.ret (.cst (.str @"lif")))>>.nil) .nil)>>(.ret (.cst (.str [])))>>.nil)
noncomputable def qe:S:=((.if_ (.cmp .lt (.loc 1) (.bi .len ((.loc 0)>>.nil))) ((.ret (.idx (.idx (.loc 0) (.loc 1)) (.cst (.int 0))))>>.nil) .nil)>>(.ret (.cst (.str [])))>>.nil)
noncomputable def Zh:S:=((.ret (.and_ (.cmp .lt (.loc 1) (.bi .len ((.loc 0)>>.nil))) (.and_ (.cmp .eq (.idx (.idx (.loc 0) (.loc 1)) (.cst (.int 0))) (.cst (.str @"OP"))) (.cmp .eq (.idx (.idx (.loc 0) (.loc 1)) (.cst (.int 1))) (.loc 2)))))>>.nil)
noncomputable def qw:S:=((.if_ (.not_ (.call (.glb 19) ((.loc 0)>>(.loc 1)>>(.loc 2)>>.nil))) ((.rai 3 ((.bop .add (.cst (.str @"a mark is missing: ")) (.loc 2))>>.nil))>>.nil) .nil)>>(.ret (.bop .add (.loc 1) (.cst (.int 1))))>>.nil)
noncomputable def wp:S:=((.if_ (.cmp .ne (.call (.glb 20) ((.loc 0)>>(.loc 1)>>.nil)) (.cst (.str @"NAME"))) ((.rai 3 ((.cst (.str @"a name is missing"))>>.nil))>>.nil) .nil)>>(.ret (.tup ((.idx (.idx (.loc 0) (.loc 1)) (.cst (.int 1)))>>(.bop .add (.loc 1) (.cst (.int 1)))>>.nil)))>>.nil)
noncomputable def vf:S:=((.if_ (.cmp .lt (.loc 1) (.bi .len ((.loc 0)>>.nil))) ((.rai 3 ((.cst (.str @"more than a statement"))>>.nil))>>.nil) .nil)>>.nil)
noncomputable def jv:S:=((.if_ (.cmp .ne (.call (.glb 20) ((.loc 0)>>(.loc 1)>>.nil)) (.cst (.str @"OP"))) ((.ret (.cst (.int 0)))>>.nil) .nil)>>(.ret (.me .get (.glb 21) ((.idx (.idx (.loc 0) (.loc 1)) (.cst (.int 1)))>>(.cst (.int 0))>>.nil)))>>.nil)
noncomputable def Y9:S:=((.ret (.call (.glb 22) ((.loc 0)>>(.loc 1)>>(.glb 23)>>.nil)))>>.nil)
noncomputable def ja:S:=((.asgT [3,1] (.call (.glb 27) ((.loc 0)>>(.loc 1)>>(.loc 2)>>.nil)))>>(.asg 4 (.cst (.bool false)))>>(.whl (.cmp .ge (.call (.glb 24) ((.loc 0)>>(.loc 1)>>.nil)) (.loc 2)) ((.asg 5 (.call (.glb 24) ((.loc 0)>>(.loc 1)>>.nil)))>>(.asg 6 (.idx (.idx (.loc 0) (.loc 1)) (.cst (.int 1))))>>(.if_ (.and_ (.cmp .eq (.loc 5) (.glb 25)) (.loc 4)) ((.rai 3 ((.cst (.str @"a relation behind a relation"))>>.nil))>>.nil) .nil)>>(.if_ (.cmp .eq (.loc 5) (.glb 26)) ((.asgT [7,1] (.call (.glb 22) ((.loc 0)>>(.bop .add (.loc 1) (.cst (.int 1)))>>(.glb 26)>>.nil)))>>.nil) ((.asgT [7,1] (.call (.glb 22) ((.loc 0)>>(.bop .add (.loc 1) (.cst (.int 1)))>>(.bop .add (.loc 5) (.cst (.int 1)))>>.nil)))>>.nil))>>(.asg 3 (.tup ((.cst (.str @"bin"))>>(.loc 6)>>(.loc 3)>>(.loc 7)>>.nil)))>>(.asg 4 (.cmp .eq (.loc 5) (.glb 25)))>>.nil))>>(.ret (.tup ((.loc 3)>>(.loc 1)>>.nil)))>>.nil)
noncomputable def jy:S:=((.if_ (.call (.glb 19) ((.loc 0)>>(.loc 1)>>(.cst (.str @".NOT."))>>.nil)) ((.if_ (.cmp .gt (.loc 2) (.glb 30)) ((.rai 3 ((.cst (.str @".NOT. cannot stand here"))>>.nil))>>.nil) .nil)>>(.asgT [3,1] (.call (.glb 22) ((.loc 0)>>(.bop .add (.loc 1) (.cst (.int 1)))>>(.bop .add (.glb 30) (.cst (.int 1)))>>.nil)))>>(.ret (.tup ((.tup ((.cst (.str @"un"))>>(.cst (.str @".NOT."))>>(.loc 3)>>.nil))>>(.loc 1)>>.nil)))>>.nil) .nil)>>(.if_ (.or_ (.call (.glb 19) ((.loc 0)>>(.loc 1)>>(.cst (.str [43]))>>.nil)) (.call (.glb 19) ((.loc 0)>>(.loc 1)>>(.cst (.str [45]))>>.nil))) ((.if_ (.cmp .gt (.loc 2) (.glb 29)) ((.rai 3 ((.cst (.str @"a sign cannot stand here"))>>.nil))>>.nil) .nil)>>(.asg 4 (.idx (.idx (.loc 0) (.loc 1)) (.cst (.int 1))))>>(.asgT [3,1] (.call (.glb 22) ((.loc 0)>>(.bop .add (.loc 1) (.cst (.int 1)))>>(.bop .add (.glb 29) (.cst (.int 1)))>>.nil)))>>(.ret (.tup ((.tup ((.cst (.str @"un"))>>(.loc 4)>>(.loc 3)>>.nil))>>(.loc 1)>>.nil)))>>.nil) .nil)>>(.ret (.call (.glb 28) ((.loc 0)>>(.loc 1)>>.nil)))>>.nil)
noncomputable def qU:S:=((.asg 2 (.call (.glb 20) ((.loc 0)>>(.loc 1)>>.nil)))>>(.if_ (.cmp .eq (.loc 2) (.cst (.str @"NAME"))) ((.ret (.call (.glb 33) ((.loc 0)>>(.loc 1)>>.nil)))>>.nil) .nil)>>(.if_ (.and_ (.cmp .eq (.loc 2) (.cst (.str @"OP"))) (.cmp .eq (.idx (.idx (.loc 0) (.loc 1)) (.cst (.int 1))) (.cst (.str [40])))) ((.ret (.call (.glb 32) ((.loc 0)>>(.loc 1)>>.nil)))>>.nil) .nil)>>(.if_ (.or_ (.cmp .eq (.loc 2) (.cst (.str []))) (.cmp .eq (.loc 2) (.cst (.str @"OP")))) ((.rai 3 ((.cst (.str @"an operand is missing"))>>.nil))>>.nil) .nil)>>(.ret (.tup ((.call (.glb 31) ((.loc 2)>>(.idx (.idx (.loc 0) (.loc 1)) (.cst (.int 1)))>>(.cst (.int 1))>>.nil))>>(.bop .add (.loc 1) (.cst (.int 1)))>>.nil)))>>.nil)
noncomputable def js:S:=((.if_ (.cmp .eq (.loc 0) (.cst (.str @"INT"))) ((.ret (.tup ((.cst (.str @"int"))>>(.bop .mul (.loc 2) (.loc 1))>>.nil)))>>.nil) .nil)>>(.if_ (.cmp .eq (.loc 0) (.cst (.str @"REAL"))) ((.ret (.tup ((.cst (.str @"real"))>>(.bop .mul (.loc 2) (.idx (.loc 1) (.cst (.int 0))))>>(.idx (.loc 1) (.cst (.int 1)))>>.nil)))>>.nil) .nil)>>(.if_ (.cmp .eq (.loc 0) (.cst (.str @"DBLE"))) ((.ret (.tup ((.cst (.str @"dble"))>>(.bop .mul (.loc 2) (.idx (.loc 1) (.cst (.int 0))))>>(.idx (.loc 1) (.cst (.int 1)))>>.nil)))>>.nil) .nil)>>(.if_ (.cmp .eq (.loc 0) (.cst (.str @"LOG"))) ((.ret (.tup ((.cst (.str @"log"))>>(.loc 1)>>.nil)))>>.nil) .nil)>>(.ret (.tup ((.cst (.str @"char"))>>(.loc 1)>>.nil)))>>.nil)
noncomputable def qT:S:=((.if_ (.call (.glb 36) ((.loc 0)>>(.loc 1)>>.nil)) ((.asgT [2,3] (.call .nil ((.loc 0)>>(.bop .add (.loc 1) (.cst (.int 1)))>>.nil)))>>(.asgT [4,5] (.call .nil ((.loc 0)>>(.bop .add (.loc 3) (.cst (.int 1)))>>.nil)))>>(.ret (.tup ((.tup ((.cst (.str @"cplx"))>>(.loc 2)>>(.loc 4)>>.nil))>>(.call (.glb 34) ((.loc 0)>>(.loc 5)>>(.cst (.str [41]))>>.nil))>>.nil)))>>.nil) .nil)>>(.asgT [6,1] (.call (.glb 35) ((.loc 0)>>(.bop .add (.loc 1) (.cst (.int 1)))>>.nil)))>>(.ret (.tup ((.loc 6)>>(.call (.glb 34) ((.loc 0)>>(.loc 1)>>(.cst (.str [41]))>>.nil))>>.nil)))>>.nil)
noncomputable def XE:S:=((.if_ (.or_ (.call (.glb 19) ((.loc 0)>>(.loc 1)>>(.cst (.str [43]))>>.nil)) (.call (.glb 19) ((.loc 0)>>(.loc 1)>>(.cst (.str [45]))>>.nil))) ((.aug 1 .add (.cst (.int 1)))>>.nil) .nil)>>(.if_ (.or_ (.cmp .eq (.call (.glb 20) ((.loc 0)>>(.loc 1)>>.nil)) (.cst (.str @"INT"))) (.cmp .eq (.call (.glb 20) ((.loc 0)>>(.loc 1)>>.nil)) (.cst (.str @"REAL")))) ((.ret (.bop .add (.loc 1) (.cst (.int 1))))>>.nil) .nil)>>(.ret (.neg (.cst (.int 1))))>>.nil)
noncomputable def ZM:S:=((.asg 2 (.call (.glb 37) ((.loc 0)>>(.bop .add (.loc 1) (.cst (.int 1)))>>.nil)))>>(.if_ (.or_ (.cmp .lt (.loc 2) (.cst (.int 0))) (.not_ (.call (.glb 19) ((.loc 0)>>(.loc 2)>>(.cst (.str [44]))>>.nil)))) ((.ret (.cst (.bool false)))>>.nil) .nil)>>(.asg 3 (.call (.glb 37) ((.loc 0)>>(.bop .add (.loc 2) (.cst (.int 1)))>>.nil)))>>(.ret (.and_ (.cmp .ge (.loc 3) (.cst (.int 0))) (.call (.glb 19) ((.loc 0)>>(.loc 3)>>(.cst (.str [41]))>>.nil))))>>.nil)
noncomputable def jw:S:=((.asgT [2,1] (.call (.glb 38) ((.loc 0)>>(.loc 1)>>.nil)))>>(.asg 3 (.tup ((.cst (.str @"name"))>>(.loc 2)>>.nil)))>>(.if_ (.not_ (.call (.glb 19) ((.loc 0)>>(.loc 1)>>(.cst (.str [40]))>>.nil))) ((.ret (.tup ((.loc 3)>>(.loc 1)>>.nil)))>>.nil) .nil)>>(.if_ (.not_ (.call .nil ((.loc 0)>>(.loc 1)>>.nil))) ((.asgT [4,1] (.call .nil ((.loc 0)>>(.loc 1)>>(.cst (.bool false))>>.nil)))>>(.asg 3 (.tup ((.cst (.str @"ref"))>>(.loc 2)>>(.loc 4)>>.nil)))>>.nil) .nil)>>(.if_ (.call (.glb 19) ((.loc 0)>>(.loc 1)>>(.cst (.str [40]))>>.nil)) ((.ret (.call .nil ((.loc 0)>>(.loc 1)>>(.loc 3)>>.nil)))>>.nil) .nil)>>(.ret (.tup ((.loc 3)>>(.loc 1)>>.nil)))>>.nil)
noncomputable def Zw:S:=((.asgT [1,2] (.call (.glb 35) ((.loc 0)>>(.cst (.int 0))>>.nil)))>>(.if_ (.cmp .lt (.loc 2) (.bi .len ((.loc 0)>>.nil))) ((.rai 3 ((.cst (.str @"something behind an expression"))>>.nil))>>.nil) .nil)>>(.ret (.loc 1))>>.nil)
noncomputable def kJ:S:=((.asg 3 (.loc 1))>>(.whl (.and_ (.cmp .lt (.loc 3) (.bi .len ((.loc 0)>>.nil))) (.cmp .in_ (.idx (.loc 0) (.loc 3)) (.loc 2))) ((.aug 3 .add (.cst (.int 1)))>>.nil))>>(.ret (.loc 3))>>.nil)
noncomputable def v8:S:=((.if_ (.or_ (.cmp .ge (.loc 1) (.bi .len ((.loc 0)>>.nil))) (.cmp .notin (.idx (.loc 0) (.loc 1)) (.cst (.str @"ED")))) ((.ret (.tup ((.cst (.str []))>>(.cst (.int 0))>>(.loc 1)>>.nil)))>>.nil) .nil)>>(.asg 2 (.bop .add (.loc 1) (.cst (.int 1))))>>(.if_ (.and_ (.cmp .lt (.loc 2) (.bi .len ((.loc 0)>>.nil))) (.cmp .in_ (.idx (.loc 0) (.loc 2)) (.cst (.str @"+-")))) ((.aug 2 .add (.cst (.int 1)))>>.nil) .nil)>>(.asg 3 (.call (.glb 40) ((.loc 0)>>(.loc 2)>>(.glb 41)>>.nil)))>>(.if_ (.cmp .eq (.loc 3) (.loc 2)) ((.ret (.tup ((.cst (.str []))>>(.cst (.int 0))>>(.loc 1)>>.nil)))>>.nil) .nil)>>(.if_ (.cmp .gt (.bop .sub (.loc 3) (.loc 2)) (.glb 39)) ((.rai 2 ((.loc 1)>>(.cst (.str @"an exponent has too many digits"))>>.nil))>>.nil) .nil)>>(.asg 4 (.int_ (.slc (.loc 0) (.loc 2) (.loc 3))))>>(.if_ (.cmp .eq (.idx (.loc 0) (.bop .add (.loc 1) (.cst (.int 1)))) (.cst (.str [45]))) ((.asg 4 (.neg (.loc 4)))>>.nil) .nil)>>(.ret (.tup ((.idx (.loc 0) (.loc 1))>>(.loc 4)>>(.loc 3)>>.nil)))>>.nil)
noncomputable def wr:S:=((.asg 2 (.call (.glb 40) ((.loc 0)>>(.loc 1)>>(.glb 41)>>.nil)))>>(.asg 3 (.slc (.loc 0) (.loc 1) (.loc 2)))>>(.asg 4 (.cst (.str [])))>>(.asg 5 (.and_ (.cmp .lt (.loc 2) (.bi .len ((.loc 0)>>.nil))) (.and_ (.cmp .eq (.idx (.loc 0) (.loc 2)) (.cst (.str [46]))) (.cmp .eq (.call .nil ((.loc 0)>>(.loc 2)>>.nil)) (.cst (.str []))))))>>(.if_ (.loc 5) ((.asg 6 (.call (.glb 40) ((.loc 0)>>(.bop .add (.loc 2) (.cst (.int 1)))>>(.glb 41)>>.nil)))>>(.asg 4 (.slc (.loc 0) (.bop .add (.loc 2) (.cst (.int 1))) (.loc 6)))>>(.asg 2 (.loc 6))>>.nil) .nil)>>(.asgT [7,8,2] (.call (.glb 42) ((.loc 0)>>(.loc 2)>>.nil)))>>(.if_ (.cmp .gt (.bop .sub (.loc 2) (.loc 1)) (.glb 39)) ((.rai 2 ((.loc 1)>>(.cst (.str @"a number has too many digits"))>>.nil))>>.nil) .nil)>>(.if_ (.and_ (.not_ (.loc 5)) (.cmp .eq (.loc 7) (.cst (.str [])))) ((.ret (.tup ((.tup ((.cst (.str @"INT"))>>(.int_ (.loc 3))>>(.loc 1)>>.nil))>>(.loc 2)>>.nil)))>>.nil) .nil)>>(.asg 9 (.call .nil ((.bop .add (.loc 3) (.loc 4))>>(.bop .sub (.loc 8) (.bi .len ((.loc 4)>>.nil)))>>.nil)))>>(.if_ (.cmp .eq (.loc 7) (.cst (.str [68]))) ((.ret (.tup ((.tup ((.cst (.str @"DBLE"))>>(.loc 9)>>(.loc 1)>>.nil))>>(.loc 2)>>.nil)))>>.nil) .nil)>>(.ret (.tup ((.tup ((.cst (.str @"REAL"))>>(.loc 9)>>(.loc 1)>>.nil))>>(.loc 2)>>.nil)))>>.nil)
noncomputable def qt:S:=((.asg 2 (.call (.glb 40) ((.loc 0)>>(.loc 1)>>(.bop .add (.glb 44) (.glb 41))>>.nil)))>>(.if_ (.cmp .gt (.bop .sub (.loc 2) (.loc 1)) (.glb 43)) ((.rai 2 ((.loc 1)>>(.cst (.str @"a name has more than six signs"))>>.nil))>>.nil) .nil)>>(.ret (.tup ((.tup ((.cst (.str @"NAME"))>>(.slc (.loc 0) (.loc 1) (.loc 2))>>(.loc 1)>>.nil))>>(.loc 2)>>.nil)))>>.nil)
noncomputable def ZX:S:=((.asg 3 (.bop .add (.loc 1) (.cst (.int 1))))>>(.if_ (.and_ (.cmp .in_ (.loc 2) (.cst (.str @"*/"))) (.cmp .eq (.slc (.loc 0) (.loc 3) (.bop .add (.loc 3) (.cst (.int 1)))) (.loc 2))) ((.aug 3 .add (.cst (.int 1)))>>.nil) .nil)>>(.ret (.tup ((.tup ((.cst (.str @"OP"))>>(.slc (.loc 0) (.loc 1) (.loc 3))>>(.loc 1)>>.nil))>>(.loc 3)>>.nil)))>>.nil)
noncomputable def ya:S:=((.asg 2 (.idx (.loc 0) (.loc 1)))>>(.if_ (.cmp .in_ (.loc 2) (.glb 44)) ((.ret (.call (.glb 47) ((.loc 0)>>(.loc 1)>>.nil)))>>.nil) .nil)>>(.if_ (.cmp .in_ (.loc 2) (.glb 41)) ((.ret (.call (.glb 46) ((.loc 0)>>(.loc 1)>>.nil)))>>.nil) .nil)>>(.if_ (.cmp .eq (.loc 2) (.cst (.str [46]))) ((.ret (.call .nil ((.loc 0)>>(.loc 1)>>.nil)))>>.nil) .nil)>>(.if_ (.cmp .eq (.loc 2) (.cst (.str [39]))) ((.ret (.call .nil ((.loc 0)>>(.loc 1)>>.nil)))>>.nil) .nil)>>(.if_ (.cmp .notin (.loc 2) (.glb 45)) ((.rai 2 ((.loc 1)>>(.cst (.str @"a sign that begins nothing"))>>.nil))>>.nil) .nil)>>ZX)
noncomputable def wq:S:=((.asg 1 (.lst .nil))>>(.asg 2 (.cst (.int 0)))>>(.whl (.cmp .lt (.loc 2) (.bi .len ((.loc 0)>>.nil))) ((.asgT [3,2] (.call (.glb 48) ((.loc 0)>>(.loc 2)>>.nil)))>>(.app (.loc 1) (.loc 3))>>.nil))>>(.ret (.loc 1))>>.nil)
noncomputable def xl:S:=((.app (.loc 2) (.loc 3))>>(.if_ (.not_ (.call (.glb 19) ((.loc 0)>>(.loc 1)>>(.cst (.str [44]))>>.nil))) ((.ret (.tup ((.loc 2)>>(.call (.glb 34) ((.loc 0)>>(.loc 1)>>(.cst (.str [41]))>>.nil))>>.nil)))>>.nil) .nil)>>(.aug 1 .add (.cst (.int 1)))>>.nil)
noncomputable def y8:S:=((.if_ (.call (.glb 19) ((.loc 0)>>(.loc 1)>>(.cst (.str [42]))>>.nil)) ((.asg 3 (.cst (.str [42])))>>(.aug 1 .add (.cst (.int 1)))>>.nil) ((.asgT [3,1] (.call (.glb 38) ((.loc 0)>>(.loc 1)>>.nil)))>>(.if_ (.cmp .in_ (.loc 3) (.loc 2)) ((.rai 3 ((.cst (.str @"a dummy argument stands twice"))>>.nil))>>.nil) .nil)>>.nil))>>xl)
noncomputable def yl:S:=((.asg 2 (.lst .nil))>>(.if_ (.not_ (.call (.glb 19) ((.loc 0)>>(.loc 1)>>(.cst (.str [40]))>>.nil))) ((.ret (.tup ((.loc 2)>>(.loc 1)>>.nil)))>>.nil) .nil)>>(.aug 1 .add (.cst (.int 1)))>>(.if_ (.call (.glb 19) ((.loc 0)>>(.loc 1)>>(.cst (.str [41]))>>.nil)) ((.ret (.tup ((.loc 2)>>(.bop .add (.loc 1) (.cst (.int 1)))>>.nil)))>>.nil) .nil)>>(.whl (.cst (.bool true)) y8)>>.nil)
noncomputable def zW:S:=((.asg 1 (.call (.glb 51) ((.loc 0)>>.nil)))>>(.asgT [2,3] (.call (.glb 38) ((.loc 1)>>(.cst (.int 0))>>.nil)))>>(.asgT [4,3] (.call (.glb 50) ((.loc 1)>>(.loc 3)>>.nil)))>>(.ex (.call (.glb 49) ((.loc 1)>>(.loc 3)>>.nil)))>>(.ret (.tup ((.loc 2)>>(.loc 4)>>.nil)))>>.nil)
noncomputable def jE:S:=((.asgA (.loc 0) @"kind" (.loc 1))>>(.asgA (.loc 0) @"name" (.loc 2))>>(.asgA (.loc 0) @"dummies" (.loc 3))>>(.asgA (.loc 0) @"result" (.loc 4))>>(.asgA (.loc 0) @"specs" (.lst .nil))>>(.asgA (.loc 0) @"stfuncs" (.lst .nil))>>(.asgA (.loc 0) @"body" (.lst .nil))>>(.asgA (.loc 0) @"formats" (.dct .nil .nil))>>(.asgA (.loc 0) @"labels" (.dct .nil .nil))>>(.asgA (.loc 0) @"entries" (.dct .nil .nil))>>.nil)
noncomputable def qF:S:=((.asgA (.loc 0) @"unit" (.loc 1))>>(.asgA (.loc 0) @"parsers" (.loc 2))>>(.asgA (.loc 0) @"specs" (.loc 3))>>(.asgA (.loc 0) @"stage" (.cst (.int 0)))>>(.asgA (.loc 0) @"nest" (.lst .nil))>>(.asgA (.loc 0) @"labels" (.dct .nil .nil))>>(.asgA (.loc 0) @"arrays" (.dct .nil .nil))>>.nil)
noncomputable def kY:S:=((.if_ (.cmp .eq (.loc 0) (.loc 1)) ((.ret (.tup ((.loc 2)>>(.cst (.none))>>.nil)))>>.nil) .nil)>>.nil)
noncomputable def yG:S:=((.if_ (.cmp .eq (.loc 0) (.cst (.str []))) ((.ret (.cst (.none)))>>.nil) .nil)>>(.forE [1,2] (.glb 54) kY)>>(.if_ (.cmp .eq (.loc 0) (.cst (.str @"CHARACTER"))) ((.ret (.tup ((.glb 53)>>(.cst (.none))>>.nil)))>>.nil) .nil)>>(.if_ (.cmp .eq (.loc 0) (.cst (.str @"CHARACTER*(*)"))) ((.ret (.tup ((.glb 53)>>(.cst (.str [42]))>>.nil)))>>.nil) .nil)>>(.if_ (.cmp .ne (.slc (.loc 0) (.cst .none) (.cst (.int 10))) (.cst (.str @"CHARACTER*"))) ((.rai 3 ((.cst (.str @"no kind ahead of FUNCTION"))>>.nil))>>.nil) .nil)>>(.ret (.tup ((.glb 53)>>(.call (.glb 52) ((.call (.glb 51) ((.slc (.loc 0) (.cst (.int 10)) (.cst .none))>>.nil))>>.nil))>>.nil)))>>.nil)
noncomputable def zq:S:=((.if_ (.cmp .eq (.loc 0) (.cst (.str @"program"))) ((.asgT [2,3] (.call (.glb 57) ((.slc (.loc 1) (.cst (.int 7)) (.cst .none))>>.nil)))>>(.if_ (.cmp .ne (.bi .len ((.loc 1)>>.nil)) (.bop .add (.cst (.int 7)) (.bi .len ((.loc 2)>>.nil)))) ((.rai 3 ((.cst (.str @"a main program has no arguments"))>>.nil))>>.nil) .nil)>>(.ret (.call (.glb 55) ((.cst (.str @"program"))>>(.loc 2)>>(.lst .nil)>>(.cst (.none))>>.nil)))>>.nil) .nil)>>(.if_ (.cmp .eq (.loc 0) (.cst (.str @"subroutine"))) ((.asgT [2,3] (.call (.glb 57) ((.slc (.loc 1) (.cst (.int 10)) (.cst .none))>>.nil)))>>(.ret (.call (.glb 55) ((.cst (.str @"subroutine"))>>(.loc 2)>>(.loc 3)>>(.cst (.none))>>.nil)))>>.nil) .nil)>>(.if_ (.cmp .eq (.loc 0) (.cst (.str @"blockdata"))) ((.asg 2 (.glb 58))>>(.if_ (.cmp .gt (.bi .len ((.loc 1)>>.nil)) (.cst (.int 9))) ((.asgT [2,3] (.call (.glb 57) ((.slc (.loc 1) (.cst (.int 9)) (.cst .none))>>.nil)))>>(.if_ (.cmp .ne (.bi .len ((.loc 1)>>.nil)) (.bop .add (.cst (.int 9)) (.bi .len ((.loc 2)>>.nil)))) ((.rai 3 ((.cst (.str @"BLOCK DATA has no arguments"))>>.nil))>>.nil) .nil)>>.nil) .nil)>>(.ret (.call (.glb 55) ((.cst (.str @"block"))>>(.loc 2)>>(.lst .nil)>>(.cst (.none))>>.nil)))>>.nil) .nil)>>(.asg 4 (.me .find (.loc 1) ((.cst (.str @"FUNCTION"))>>.nil)))>>(.asgT [2,3] (.call (.glb 57) ((.slc (.loc 1) (.bop .add (.loc 4) (.cst (.int 8))) (.cst .none))>>.nil)))>>(.if_ (.or_ (.cmp .eq (.bi .len ((.loc 1)>>.nil)) (.bop .add (.bop .add (.loc 4) (.cst (.int 8))) (.bi .len ((.loc 2)>>.nil)))) (.cmp .in_ (.cst (.str [42])) (.loc 3))) ((.rai 3 ((.cst (.str @"a function has its arguments in brackets, and no other way back"))>>.nil))>>.nil) .nil)>>(.ret (.call (.glb 55) ((.cst (.str @"function"))>>(.loc 2)>>(.loc 3)>>(.call (.glb 56) ((.slc (.loc 1) (.cst .none) (.loc 4))>>.nil))>>.nil)))>>.nil)
noncomputable def xO:S:=((.if_ (.cmp .eq (.loc 1) (.cst (.int 0))) ((.ret (.cst .none))>>.nil) .nil)>>(.if_ (.cmp .in_ (.loc 1) (.attr (.loc 0) @"labels")) ((.rai 3 ((.cst (.str @"a label stands twice"))>>.nil))>>.nil) .nil)>>.bad>>.nil)
noncomputable def Zp:S:=((.asg 2 (.attr (.loc 0) @"nest"))>>(.asg 3 (.idx (.loc 1) (.cst (.int 0))))>>(.if_ (.cmp .eq (.loc 3) (.cst (.str @"do"))) ((.if_ (.cmp .in_ (.idx (.loc 1) (.cst (.int 1))) (.attr (.loc 0) @"labels")) ((.rai 3 ((.cst (.str @"a loop whose end stands ahead of it"))>>.nil))>>.nil) .nil)>>(.app (.loc 2) (.tup ((.cst (.str @"do"))>>(.idx (.loc 1) (.cst (.int 1)))>>.nil)))>>.nil) ((.if_ (.cmp .eq (.loc 3) (.cst (.str @"if"))) ((.app (.loc 2) (.tup ((.cst (.str @"if"))>>(.cst (.int 0))>>.nil)))>>.nil) ((.if_ (.or_ (.cmp .eq (.loc 3) (.cst (.str @"elseif"))) (.cmp .eq (.loc 3) (.cst (.str @"else")))) ((.ex (.call .nil ((.loc 2)>>(.loc 3)>>.nil)))>>.nil) ((.if_ (.cmp .eq (.loc 3) (.cst (.str @"endif"))) ((.if_ (.or_ (.cmp .eq (.loc 2) (.lst .nil)) (.cmp .ne (.idx (.idx (.loc 2) (.neg (.cst (.int 1)))) (.cst (.int 0))) (.cst (.str @"if")))) ((.rai 3 ((.cst (.str @"END IF without an open block"))>>.nil))>>.nil) .nil)>>.bad>>.nil) ((.if_ (.and_ (.or_ (.cmp .eq (.loc 3) (.cst (.str @"entry"))) (.cmp .eq (.loc 3) (.cst (.str @"end")))) (.cmp .ne (.loc 2) (.lst .nil))) ((.rai 3 ((.cst (.str @"a loop or a block is open"))>>.nil))>>.nil) .nil)>>.nil))>>.nil))>>.nil))>>.nil))>>.nil)
noncomputable def vk:S:=((.asg 4 (.glb 62))>>(.asg 5 (.glb 62))>>(.if_ (.cmp .eq (.loc 2) (.cst (.str @"implicit"))) ((.asg 4 (.glb 59))>>(.asg 5 (.glb 59))>>.nil) ((.if_ (.cmp .eq (.loc 2) (.cst (.str @"parameter"))) ((.asg 4 (.cst (.int 0)))>>.nil) ((.if_ (.cmp .eq (.loc 2) (.cst (.str @"data"))) ((.asg 4 (.glb 61))>>(.asg 5 (.glb 60))>>.nil) .nil)>>.nil))>>.nil))>>(.if_ (.cmp .gt (.attr (.loc 0) @"stage") (.loc 5)) ((.rai 3 ((.cst (.str @"a specification too late"))>>.nil))>>.nil) .nil)>>(.asgA (.loc 0) @"stage" (.bi .max ((.attr (.loc 0) @"stage")>>(.loc 4)>>.nil)))>>(.if_ (.cmp .notin (.loc 2) (.attr (.loc 0) @"specs")) ((.rai 3 ((.cst (.str @"no such specification"))>>.nil))>>.nil) .nil)>>(.forE [6] (.call (.idx (.attr (.loc 0) @"specs") (.loc 2)) ((.loc 3)>>.nil)) ((.ex (.call .nil ((.loc 0)>>(.loc 6)>>.nil)))>>(.app (.attr (.attr (.loc 0) @"unit") @"specs") (.tup ((.loc 1)>>(.loc 6)>>.nil)))>>.nil))>>.nil)
noncomputable def xX:S:=((.if_ (.cmp .eq (.loc 1) (.cst (.int 0))) ((.rai 3 ((.cst (.str @"a format without a label"))>>.nil))>>.nil) .nil)>>.bad>>.nil)
noncomputable def wd:S:=((.if_ (.or_ (.cmp .eq (.attr (.loc 0) @"stage") (.glb 60)) (.or_ (.cmp .ne (.idx (.loc 1) (.cst (.int 0))) (.cst (.str @"assign"))) (.or_ (.cmp .ne (.idx (.idx (.loc 1) (.cst (.int 1))) (.cst (.int 0))) (.cst (.str @"ref"))) (.cmp .in_ (.idx (.idx (.loc 1) (.cst (.int 1))) (.cst (.int 1))) (.attr (.loc 0) @"arrays"))))) ((.ret (.cst (.bool false)))>>.nil) .nil)>>(.forE [2] (.idx (.idx (.loc 1) (.cst (.int 1))) (.cst (.int 2))) ((.if_ (.cmp .ne (.idx (.loc 2) (.cst (.int 0))) (.cst (.str @"name"))) ((.ret (.cst (.bool false)))>>.nil) .nil)>>.nil))>>(.ret (.cst (.bool true)))>>.nil)
noncomputable def va:S:=((.asg 4 (.attr (.loc 0) @"unit"))>>(.if_ (.cmp .gt (.loc 2) (.cst (.int 0))) (.bad>>.nil) .nil)>>(.if_ (.cmp .eq (.idx (.loc 3) (.cst (.int 0))) (.cst (.str @"entry"))) ((.if_ (.or_ (.cmp .in_ (.idx (.loc 3) (.cst (.int 1))) (.attr (.loc 4) @"entries")) (.cmp .eq (.idx (.loc 3) (.cst (.int 1))) (.attr (.loc 4) @"name"))) ((.rai 3 ((.cst (.str @"an entry's name stands twice"))>>.nil))>>.nil) .nil)>>(.if_ (.and_ (.cmp .eq (.attr (.loc 4) @"kind") (.cst (.str @"function"))) (.cmp .in_ (.cst (.str [42])) (.idx (.loc 3) (.cst (.int 2))))) ((.rai 3 ((.cst (.str @"a function has no other way back"))>>.nil))>>.nil) .nil)>>.bad>>.nil) .nil)>>(.app (.attr (.loc 4) @"body") (.tup ((.loc 2)>>(.loc 3)>>(.loc 1)>>.nil)))>>.nil)
noncomputable def zD:S:=((.if_ (.and_ (.or_ (.cmp .eq (.loc 3) (.cst (.str @"entry"))) (.cmp .eq (.loc 3) (.cst (.str @"return")))) (.cmp .eq (.attr (.attr (.loc 0) @"unit") @"kind") (.cst (.str @"program")))) ((.rai 3 ((.cst (.str @"a statement that a main program does not have"))>>.nil))>>.nil) .nil)>>(.if_ (.cmp .notin (.loc 3) (.attr (.loc 0) @"parsers")) ((.rai 3 ((.cst (.str @"no such statement"))>>.nil))>>.nil) .nil)>>(.asg 5 (.call (.idx (.attr (.loc 0) @"parsers") (.loc 3)) ((.attr (.loc 0) @"parsers")>>(.loc 4)>>.nil)))>>(.if_ (.call (.glb 65) ((.loc 0)>>(.loc 5)>>.nil)) ((.ex (.call .nil ((.loc 0)>>(.loc 1)>>(.loc 2)>>(.loc 5)>>.nil)))>>(.ret (.cst .none))>>.nil) .nil)>>(.if_ (.and_ (.cmp .ne (.idx (.loc 5) (.cst (.int 0))) (.cst (.str @"entry"))) (.cmp .ne (.idx (.loc 5) (.cst (.int 0))) (.cst (.str @"end")))) ((.asgA (.loc 0) @"stage" (.glb 60))>>.nil) .nil)>>(.ex (.call (.glb 64) ((.loc 0)>>(.loc 5)>>.nil)))>>(.ex (.call (.glb 63) ((.loc 0)>>(.loc 1)>>(.loc 2)>>(.loc 5)>>.nil)))>>.nil)
noncomputable def xG:S:=((.if_ (.and_ (.cmp .eq (.attr (.attr (.loc 0) @"unit") @"kind") (.cst (.str @"block"))) (.cmp .notin (.loc 3) (.glb 72))) ((.rai 3 ((.cst (.str @"a statement that BLOCK DATA does not have"))>>.nil))>>.nil) .nil)>>(.if_ (.cmp .eq (.loc 3) (.cst (.str []))) ((.rai 3 ((.cst (.str @"no statement"))>>.nil))>>.nil) .nil)>>(.if_ (.cmp .in_ (.loc 3) (.glb 71)) ((.rai 3 ((.cst (.str @"a unit begins within another"))>>.nil))>>.nil) .nil)>>(.ex (.call (.glb 70) ((.loc 0)>>(.loc 2)>>(.loc 1)>>.nil)))>>(.if_ (.cmp .eq (.loc 3) (.cst (.str @"format"))) ((.ex (.call (.glb 66) ((.loc 0)>>(.loc 2)>>(.loc 4)>>.nil)))>>.nil) ((.if_ (.or_ (.cmp .in_ (.loc 3) (.glb 67)) (.cmp .in_ (.loc 3) (.tup ((.cst (.str @"implicit"))>>(.cst (.str @"parameter"))>>(.cst (.str @"data"))>>.nil)))) ((.ex (.call (.glb 68) ((.loc 0)>>(.loc 1)>>(.loc 3)>>(.loc 4)>>.nil)))>>.nil) ((.ex (.call (.glb 69) ((.loc 0)>>(.loc 1)>>(.loc 2)>>(.loc 3)>>(.loc 4)>>.nil)))>>.nil))>>.nil))>>(.if_ (.cmp .gt (.loc 2) (.cst (.int 0))) ((.asg 5 (.loc 3))>>(.if_ (.cmp .eq (.loc 3) (.cst (.str @"print"))) ((.asg 5 (.cst (.str @"write")))>>.nil) .nil)>>(.ex (.call .nil ((.attr (.loc 0) @"nest")>>(.loc 2)>>(.loc 5)>>.nil)))>>.nil) .nil)>>.nil)
noncomputable def zK:S:=((.if_ (.cmp .in_ (.loc 2) (.glb 71)) ((.asg 6 (.call (.glb 74) ((.call (.glb 76) ((.loc 2)>>(.loc 3)>>.nil))>>(.loc 4)>>(.loc 5)>>.nil)))>>(.ex (.call (.glb 70) ((.loc 6)>>(.loc 1)>>(.loc 0)>>.nil)))>>(.ret (.loc 6))>>.nil) .nil)>>(.asg 6 (.call (.glb 74) ((.call (.glb 55) ((.cst (.str @"program"))>>(.glb 75)>>(.lst .nil)>>(.cst (.none))>>.nil))>>(.loc 4)>>(.loc 5)>>.nil)))>>(.ex (.call (.glb 73) ((.loc 6)>>(.loc 0)>>(.loc 1)>>(.loc 2)>>(.loc 3)>>.nil)))>>(.ret (.loc 6))>>.nil)
noncomputable def yb:S:=((.asg 6 (.call (.glb 78) ((.loc 3)>>.nil)))>>(.if_ (.cmp .is_ (.loc 0) (.cst (.none))) ((.ret (.tup ((.call (.glb 77) ((.loc 1)>>(.loc 2)>>(.loc 6)>>(.loc 3)>>(.loc 4)>>(.loc 5)>>.nil))>>(.loc 6)>>.nil)))>>.nil) .nil)>>(.ex (.call (.glb 73) ((.loc 0)>>(.loc 1)>>(.loc 2)>>(.loc 6)>>(.loc 3)>>.nil)))>>(.ret (.tup ((.loc 0)>>(.loc 6)>>.nil)))>>.nil)
noncomputable def xr:S:=((.try_ [4,8] (.call (.glb 79) ((.loc 4)>>(.loc 5)>>(.loc 6)>>(.call (.glb 80) ((.loc 7)>>.nil))>>(.loc 1)>>(.loc 2)>>.nil)) 0 9 ((.rai 1 ((.loc 5)>>(.attr (.loc 9) @"text")>>.nil))>>.nil))>>(.if_ (.cmp .eq (.loc 8) (.cst (.str @"end"))) ((.app (.loc 3) (.attr (.loc 4) @"unit"))>>(.asg 4 (.cst (.none)))>>.nil) .nil)>>.nil)
noncomputable def xf:S:=((.asg 3 (.lst .nil))>>(.asg 4 (.cst (.none)))>>(.asg 5 (.cst (.int 0)))>>(.forE [5,6,7] (.loc 0) xr)>>(.if_ (.cmp .isnot (.loc 4) (.cst (.none))) ((.rai 1 ((.loc 5)>>(.cst (.str @"a unit without END"))>>.nil))>>.nil) .nil)>>(.ret (.loc 3))>>.nil)
noncomputable def wg:S:=((.ret (.dct ((.cst (.str @"INTEGER"))>>(.cst (.str @"REAL"))>>(.cst (.str @"DOUBLEPRECISION"))>>(.cst (.str @"COMPLEX"))>>(.cst (.str @"LOGICAL"))>>(.cst (.str @"CHARACTER"))>>.nil) ((.cst (.int 0))>>(.cst (.int 1))>>(.cst (.int 2))>>(.cst (.int 3))>>(.cst (.int 4))>>(.cst (.int 5))>>.nil)))>>.nil)
noncomputable def ww:S:=((.ret (.lst ((.cst (.str @"PROGRAM "))>>(.cst (.str @"SUBROUTINE "))>>(.cst (.str @"FUNCTION "))>>(.cst (.str @"BLOCK DATA "))>>(.cst (.str @"INTEGER FUNCTION "))>>(.cst (.str @"REAL FUNCTION "))>>(.cst (.str @"DOUBLE PRECISION FUNCTION "))>>(.cst (.str @"COMPLEX FUNCTION "))>>(.cst (.str @"LOGICAL FUNCTION "))>>(.cst (.str @"CHARACTER FUNCTION "))>>(.cst (.str @"CHARACTER*8 FUNCTION "))>>(.cst (.str @"CHARACTER*(*) FUNCTION "))>>(.cst (.str @"CHARACTER*(K) FUNCTION "))>>(.cst (.str @"CHARACTER * (2) FUNCTION "))>>.nil)))>>.nil)
noncomputable def wl:S:=((.ret (.lst ((.cst (.str [83]))>>(.cst (.str @"SUB1"))>>(.cst (.str @"FUNCT"))>>(.cst (.str @"A12345"))>>(.cst (.str @"P9"))>>.nil)))>>.nil)
noncomputable def xD:S:=((.ret (.lst ((.cst (.str []))>>(.cst (.str @"()"))>>(.cst (.str @"(A)"))>>(.cst (.str @"(A, B1)"))>>(.cst (.str @"(X, Y, Z)"))>>(.cst (.str @"(*)"))>>(.cst (.str @"(A, *, B)"))>>(.cst (.str @"(*, *)"))>>(.cst (.str @"(A, A)"))>>(.cst (.str @"( K,L23456 )"))>>.nil)))>>.nil)
noncomputable def v9:S:=((.ret (.ite (.cmp .lt (.loc 1) (.bi .len ((.loc 0)>>.nil))) (.bop .mod (.idx (.loc 0) (.loc 1)) (.loc 2)) (.bop .mod (.bop .add (.bop .mul (.cst (.int 3)) (.loc 1)) (.cst (.int 1))) (.loc 2))))>>.nil)
noncomputable def jz:S:=.bad
noncomputable def xq:S:=((.if_ (.and_ (.cmp .ne (.idx (.loc 3) (.loc 4)) (.cst (.str [42]))) (.or_ (.not_ (.call (.glb 81) ((.idx (.loc 3) (.loc 4))>>.nil))) (.inSl (.idx (.loc 3) (.loc 4)) (.loc 3) (.loc 4)))) ((.ret (.cst (.none)))>>.nil) .nil)>>.nil)
noncomputable def ZY:S:=((.forR 4 ((.bi .len ((.loc 3)>>.nil))>>.nil) xq)>>(.ret (.tup ((.loc 1)>>(.loc 3)>>.nil)))>>.nil)
noncomputable def wf:S:=((.asg 1 (.idx (.me .split (.loc 0) ((.cst (.str [40]))>>.nil)) (.cst (.int 0))))>>(.if_ (.not_ (.call (.glb 81) ((.loc 1)>>.nil))) ((.ret (.cst (.none)))>>.nil) .nil)>>(.if_ (.cmp .eq (.loc 1) (.loc 0)) ((.ret (.tup ((.loc 1)>>(.cst (.none))>>.nil)))>>.nil) .nil)>>(.if_ (.or_ (.cmp .ne (.idx (.loc 0) (.neg (.cst (.int 1)))) (.cst (.str [41]))) (.or_ (.cmp .ne (.me .count (.loc 0) ((.cst (.str [40]))>>.nil)) (.cst (.int 1))) (.cmp .ne (.me .count (.loc 0) ((.cst (.str [41]))>>.nil)) (.cst (.int 1))))) ((.ret (.cst (.none)))>>.nil) .nil)>>(.asg 2 (.slc (.loc 0) (.bop .add (.bi .len ((.loc 1)>>.nil)) (.cst (.int 1))) (.neg (.cst (.int 1)))))>>(.asg 3 (.ite (.cmp .ne (.loc 2) (.cst (.str []))) (.me .split (.loc 2) ((.cst (.str [44]))>>.nil)) (.lst .nil)))>>ZY)
noncomputable def ZH:S:=.bad
noncomputable def jF:S:=((.ret (.ite (.cmp .ne (.loc 5) (.cst (.bool false))) (.tup ((.cst (.str @"function"))>>(.idx (.loc 2) (.cst (.int 0)))>>(.idx (.loc 2) (.cst (.int 1)))>>(.tup ((.idx (.call (.glb 82) .nil) (.loc 4))>>(.loc 5)>>.nil))>>.nil)) (.cst (.none))))>>.nil)
noncomputable def yF:S:=((.asg 5 (.cst (.none)))>>(.if_ (.and_ (.cmp .eq (.loc 4) (.cst (.str @"CHARACTER"))) (.cmp .eq (.slc (.loc 3) (.cst .none) (.cst (.int 9))) (.loc 4))) ((.asg 5 (.call (.glb 83) ((.slc (.loc 3) (.cst (.int 9)) (.cst .none))>>.nil)))>>.nil) ((.if_ (.cmp .ne (.loc 3) (.loc 4)) (.cont>>.nil) .nil)>>.nil))>>jF)
noncomputable def kR:S:=((.if_ (.cmp .eq (.loc 3) (.cst (.str []))) ((.ret (.tup ((.cst (.str @"function"))>>(.idx (.loc 2) (.cst (.int 0)))>>(.idx (.loc 2) (.cst (.int 1)))>>(.cst (.none))>>.nil)))>>.nil) .nil)>>(.forE [4] (.call (.glb 82) .nil) yF)>>(.ret (.cst (.none)))>>.nil)
noncomputable def wt:S:=((.if_ (.or_ (.cmp .lt (.loc 1) (.cst (.int 0))) (.or_ (.cmp .is_ (.loc 2) (.cst (.none))) (.or_ (.cmp .is_ (.idx (.loc 2) (.cst (.int 1))) (.cst (.none))) (.cmp .in_ (.cst (.str [42])) (.idx (.loc 2) (.cst (.int 1))))))) ((.ret (.cst (.none)))>>.nil) .nil)>>kR)
noncomputable def Kn:S:=((.asg 2 (.call (.glb 84) ((.slc (.loc 0) (.bop .add (.loc 1) (.cst (.int 8))) (.cst .none))>>.nil)))>>(.asg 3 (.slc (.loc 0) (.cst .none) (.loc 1)))>>wt)
noncomputable def zQ:S:=((.asg 1 (.me .find (.loc 0) ((.cst (.str @"FUNCTION"))>>.nil)))>>Kn)
noncomputable def k8:S:=((.ret (.call (.glb 85) ((.loc 0)>>.nil)))>>.nil)
noncomputable def Kq:S:=((.asg 1 (.call (.glb 84) ((.slc (.loc 0) (.cst (.int 10)) (.cst .none))>>.nil)))>>(.ret (.ite (.cmp .is_ (.loc 1) (.cst (.none))) (.cst (.none)) (.tup ((.cst (.str @"subroutine"))>>(.idx (.loc 1) (.cst (.int 0)))>>(.ite (.idx (.loc 1) (.cst (.int 1))) (.idx (.loc 1) (.cst (.int 1))) (.lst .nil))>>(.cst (.none))>>.nil))))>>.nil)
noncomputable def xQ:S:=((.if_ (.cmp .eq (.slc (.loc 0) (.cst .none) (.cst (.int 10))) (.cst (.str @"SUBROUTINE"))) Kq .nil)>>k8)
noncomputable def KS:S:=((.if_ (.cmp .eq (.loc 0) (.cst (.str @"BLOCKDATA"))) ((.ret (.tup ((.cst (.str @"block"))>>(.cst (.str @"$BLOCK"))>>(.lst .nil)>>(.cst (.none))>>.nil)))>>.nil) .nil)>>(.ret (.ite (.call (.glb 81) ((.slc (.loc 0) (.cst (.int 9)) (.cst .none))>>.nil)) (.tup ((.cst (.str @"block"))>>(.slc (.loc 0) (.cst (.int 9)) (.cst .none))>>(.lst .nil)>>(.cst (.none))>>.nil)) (.cst (.none))))>>.nil)
noncomputable def wC:S:=((.if_ (.cmp .eq (.slc (.loc 0) (.cst .none) (.cst (.int 9))) (.cst (.str @"BLOCKDATA"))) KS .nil)>>xQ)
noncomputable def yz:S:=((.if_ (.cmp .eq (.slc (.loc 0) (.cst .none) (.cst (.int 7))) (.cst (.str @"PROGRAM"))) ((.ret (.ite (.call (.glb 81) ((.slc (.loc 0) (.cst (.int 7)) (.cst .none))>>.nil)) (.tup ((.cst (.str @"program"))>>(.slc (.loc 0) (.cst (.int 7)) (.cst .none))>>(.lst .nil)>>(.cst (.none))>>.nil)) (.cst (.none))))>>.nil) .nil)>>wC)
noncomputable def vW:S:=((.ret (.tup ((.cst (.str @"end"))>>.nil)))>>.nil)
noncomputable def kW:S:=((.try_ [7] (.call (.glb 86) ((.lst ((.tup ((.cst (.int 1))>>(.cst (.int 0))>>(.loc 2)>>.nil))>>(.tup ((.cst (.int 4))>>(.cst (.int 0))>>(.cst (.str @"E N D"))>>.nil))>>.nil))>>(.dct ((.cst (.str @"end"))>>.nil) ((.glb 87)>>.nil))>>(.dct .nil .nil)>>.nil)) 1 8 ((.ret (.and_ (.cmp .is_ (.loc 6) (.cst (.none))) (.cmp .eq (.attr (.loc 8) @"line") (.cst (.int 1)))))>>.nil))>>(.asg 9 (.idx (.loc 7) (.cst (.int 0))))>>(.asg 10 (.tup ((.attr (.loc 9) @"kind")>>(.attr (.loc 9) @"name")>>(.attr (.loc 9) @"dummies")>>(.attr (.loc 9) @"result")>>.nil)))>>(.ret (.and_ (.cmp .eq (.bi .len ((.loc 7)>>.nil)) (.cst (.int 1))) (.and_ (.cmp .eq (.loc 10) (.loc 6)) (.and_ (.cmp .eq (.attr (.loc 9) @"body") (.lst ((.tup ((.cst (.int 0))>>(.tup ((.cst (.str @"end"))>>.nil))>>(.cst (.int 4))>>.nil))>>.nil))) (.cmp .eq (.bop .add (.attr (.loc 9) @"specs") (.attr (.loc 9) @"stfuncs")) (.lst .nil))))))>>.nil)
noncomputable def Zv:S:=((.asg 6 (.call (.glb 88) ((.me .replace (.loc 2) ((.cst (.str [32]))>>(.cst (.str []))>>.nil))>>.nil)))>>kW)
noncomputable def Zx:S:=((.if_ (.cmp .eq (.loc 3) (.cst (.int 1))) ((.asg 2 (.bop .add (.bop .add (.slc (.loc 2) (.cst .none) (.loc 4)) (.loc 5)) (.slc (.loc 2) (.loc 4) (.cst .none))))>>.nil) ((.if_ (.cmp .gt (.loc 3) (.cst (.int 1))) ((.asg 2 (.bop .add (.bop .add (.slc (.loc 2) (.cst .none) (.loc 4)) (.ite (.cmp .eq (.loc 3) (.cst (.int 2))) (.loc 5) (.cst (.str [])))) (.slc (.loc 2) (.bop .add (.loc 4) (.cst (.int 1))) (.cst .none))))>>.nil) .nil)>>.nil))>>Zv)
noncomputable def kC:S:=((.asg 3 (.call (.glb 89) ((.loc 0)>>(.cst (.int 4))>>(.cst (.int 4))>>.nil)))>>(.asg 4 (.call (.glb 89) ((.loc 0)>>(.cst (.int 5))>>(.bop .add (.bi .len ((.loc 2)>>.nil)) (.cst (.int 1)))>>.nil)))>>(.asg 5 (.idx (.cst (.str @"(),*1AN8 ")) (.call (.glb 89) ((.loc 0)>>(.cst (.int 6))>>(.cst (.int 9))>>.nil))))>>Zx)
noncomputable def Zr:S:=((.if_ (.or_ (.cmp .notin (.loc 1) (.lst ((.cst (.int 0))>>(.cst (.int 3))>>.nil))) (.cmp .eq (.call (.glb 89) ((.loc 0)>>(.cst (.int 2))>>(.cst (.int 6))>>.nil)) (.cst (.int 5)))) ((.asg 2 (.bop .add (.loc 2) (.idx (.call (.glb 90) .nil) (.call (.glb 89) ((.loc 0)>>(.cst (.int 3))>>(.cst (.int 10))>>.nil)))))>>.nil) .nil)>>kC)
noncomputable def Y7:S:=((.if_ (.and_ (.cmp .eq (.loc 1) (.cst (.int 3))) (.cmp .eq (.call (.glb 89) ((.loc 0)>>(.cst (.int 2))>>(.cst (.int 2))>>.nil)) (.cst (.int 1)))) ((.asg 2 (.cst (.str @"BLOCK DATA")))>>.nil) .nil)>>Zr)
noncomputable def wU:S:=((.asg 1 (.call (.glb 89) ((.loc 0)>>(.cst (.int 0))>>(.cst (.int 14))>>.nil)))>>(.asg 2 (.bop .add (.idx (.call (.glb 91) .nil) (.loc 1)) (.idx (.call (.glb 92) .nil) (.call (.glb 89) ((.loc 0)>>(.cst (.int 1))>>(.cst (.int 5))>>.nil)))))>>Y7)
noncomputable def fns:List XFn:=[
 ⟨"capital",1,["sign"],true,qo⟩,
 ⟨"count_end",2,["text","at","count","end"],true,wz⟩,
 ⟨"hollerith",2,["text","at","count","begin","inner"],true,wc⟩,
 ⟨"squeeze",1,["text","out","last","at","sign","constant","end","part"],false,qc⟩,
 ⟨"squeezed",1,["text","row","sign","is_inside"],true,vj⟩,
 ⟨"depths",1,["row","out","depth","is_inside","sign"],false,kG⟩,
 ⟨"closing",2,["row","at","levels","end"],true,qj⟩,
 ⟨"name_end",2,["row","at","end"],true,v1⟩,
 ⟨"digits_end",2,["row","at","end"],true,xY⟩,
 ⟨"is_balanced",2,["row","levels","depth","place"],true,xB⟩,
 ⟨"equals_at",2,["row","levels","found","place"],true,wn⟩,
 ⟨"word_of_type",1,["row","text","word","at","end"],true,yZ⟩,
 ⟨"word_by_begin",1,["row","text","word"],true,yK⟩,
 ⟨"classify",1,["row","levels","at","has_comma"],true,vi⟩,
 ⟨"kind_at",2,["tokens","at"],true,qe⟩,
 ⟨"is_op",3,["tokens","at","text"],true,Zh⟩,
 ⟨"need_op",3,["tokens","at","text"],true,qw⟩,
 ⟨"need_name",2,["tokens","at"],true,wp⟩,
 ⟨"need_end",2,["tokens","at"],true,vf⟩,
 ⟨"priority_at",2,["tokens","at"],true,jv⟩,
 ⟨"parse_expr",2,["tokens","at"],true,Y9⟩,
 ⟨"parse_binary",3,["tokens","at","least","tree","was_relation","level","op","right"],true,ja⟩,
 ⟨"parse_first",3,["tokens","at","least","tree","sign"],true,jy⟩,
 ⟨"parse_primary",2,["tokens","at","kind"],true,qU⟩,
 ⟨"constant_of",3,["kind","value","sign"],true,js⟩,
 ⟨"parse_bracket",2,["tokens","at","left","comma","right","end","tree"],true,qT⟩,
 ⟨"part_end",2,["tokens","at"],true,XE⟩,
 ⟨"is_complex",2,["tokens","at","comma","end"],true,ZM⟩,
 ⟨"parse_named",2,["tokens","at","name","tree","rows"],true,jw⟩,
 ⟨"whole_expr",1,["tokens","tree","at"],true,Zw⟩,
 ⟨"run_of",3,["text","at","signs","end"],true,kJ⟩,
 ⟨"power_at",2,["text","at","begun","end","power"],true,v8⟩,
 ⟨"number_at",2,["text","at","end","digits","fraction","has_point","behind","letter","power","pair"],true,wr⟩,
 ⟨"name_at",2,["text","at","end"],true,qt⟩,
 ⟨"token_at",2,["text","at","sign","end"],true,ya⟩,
 ⟨"tokens_of",1,["squeezed","out","at","token"],false,wq⟩,
 ⟨"dummy_list",2,["tokens","at","dummies","name"],false,yl⟩,
 ⟨"named_list",1,["row","tokens","name","at","dummies"],false,zW⟩,
 ⟨"__init__",5,["self","kind","name","dummies","result"],false,jE⟩,
 ⟨"__init__",4,["self","unit","parsers","specs"],false,qF⟩,
 ⟨"result_of",1,["prefix","text","kind"],true,yG⟩,
 ⟨"head_unit",2,["word","row","name","dummies","at"],false,zq⟩,
 ⟨"note_label",3,["maker","label","line"],false,xO⟩,
 ⟨"enter",2,["maker","stmt","nest","word"],false,Zp⟩,
 ⟨"add_spec",4,["maker","line","word","row","stage","most","spec"],false,vk⟩,
 ⟨"add_format",3,["maker","label","row"],false,xX⟩,
 ⟨"is_stfunc",2,["maker","stmt","tree"],true,wd⟩,
 ⟨"add_body",4,["maker","line","label","stmt","unit"],false,va⟩,
 ⟨"add_executable",5,["maker","line","label","word","row","stmt"],false,zD⟩,
 ⟨"add_row",5,["maker","line","label","word","row","last"],false,xG⟩,
 ⟨"begin_unit",6,["line","label","word","row","parsers","specs","maker"],false,zK⟩,
 ⟨"take_row",6,["maker","line","label","row","parsers","specs","word"],false,yb⟩,
 ⟨"units_of",3,["rows","parsers","specs","units","maker","line","label","text","word","fault"],false,xf⟩,
 ⟨"_law_kinds",0,[],false,wg⟩,
 ⟨"_law_heads",0,[],false,ww⟩,
 ⟨"_law_names",0,[],false,wl⟩,
 ⟨"_law_dummies",0,[],false,xD⟩,
 ⟨"_law_take",3,["script","at","many"],true,v9⟩,
 ⟨"_law_is_name",1,["text","strange"],true,jz⟩,
 ⟨"_law_named",1,["text","name","inner","dummies","k"],false,wf⟩,
 ⟨"_law_length",1,["text","inner"],true,ZH⟩,
 ⟨"_law_function",1,["row","at","named","prefix","word","length"],false,zQ⟩,
 ⟨"_law_head",1,["row","named"],false,yz⟩,
 ⟨"_law_end",2,["parsers","row"],true,vW⟩,
 ⟨"law",1,["script","which","text","how","at","sign","want","units","fault","unit","got"],false,wU⟩]
noncomputable def gtab:List (String×V):=[
 ("capital",.fn 0),
 ("DIGITS_squeeze",.str @"0123456789"),
 ("count_end",.fn 1),
 ("AHEAD_OF_COUNT",.str @"(,/:"),
 ("hollerith",.fn 2),
 ("squeeze",.fn 3),
 ("depths",.fn 5),
 ("DIGITS_classify",.str @"0123456789"),
 ("LETTERS_classify",.str @"ABCDEFGHIJKLMNOPQRSTUVWXYZ"),
 ("TYPES",.clst [.tup [.str @"INTEGER",.str @"integer"],.tup [.str @"REAL",.str @"real"],.tup [.str @"DOUBLEPRECISION",.str @"doubleprecision"],.tup [.str @"COMPLEX",.str @"complex"],.tup [.str @"LOGICAL",.str @"logical"],.tup [.str @"CHARACTER",.str @"character"]]),
 ("name_end",.fn 7),
 ("closing",.fn 6),
 ("digits_end",.fn 8),
 ("word_of_type",.fn 11),
 ("BEGINS",.clst [.tup [.str @"FORMAT(",.str @"format"],.tup [.str @"CALL",.str @"call"],.tup [.str @"RETURN",.str @"return"],.tup [.str @"STOP",.str @"stop"],.tup [.str @"PAUSE",.str @"pause"],.tup [.str @"READ",.str @"read"],.tup [.str @"WRITE(",.str @"write"],.tup [.str @"PRINT",.str @"print"],.tup [.str @"OPEN(",.str @"open"],.tup [.str @"CLOSE(",.str @"close"],.tup [.str @"INQUIRE(",.str @"inquire"],.tup [.str @"BACKSPACE",.str @"backspace"],.tup [.str @"REWIND",.str @"rewind"],.tup [.str @"ENDFILE",.str @"endfile"],.tup [.str @"IMPLICIT",.str @"implicit"],.tup [.str @"PARAMETER(",.str @"parameter"],.tup [.str @"DIMENSION",.str @"dimension"],.tup [.str @"COMMON",.str @"common"],.tup [.str @"EQUIVALENCE(",.str @"equivalence"],.tup [.str @"EXTERNAL",.str @"external"],.tup [.str @"INTRINSIC",.str @"intrinsic"],.tup [.str @"SAVE",.str @"save"],.tup [.str @"DATA",.str @"data"],.tup [.str @"PROGRAM",.str @"program"],.tup [.str @"SUBROUTINE",.str @"subroutine"],.tup [.str @"FUNCTION",.str @"function"],.tup [.str @"BLOCKDATA",.str @"blockdata"],.tup [.str @"ENTRY",.str @"entry"]]),
 ("WHOLE",.clst [.tup [.str @"ELSE",.str @"else"],.tup [.str @"ENDIF",.str @"endif"],.tup [.str @"END",.str @"end"],.tup [.str @"CONTINUE",.str @"continue"]]),
 ("word_by_begin",.fn 12),
 ("equals_at",.fn 10),
 ("is_balanced",.fn 9),
 ("is_op",.fn 15),
 ("kind_at",.fn 14),
 ("PRIORITIES",.cdct [(@".EQV.",1),(@".NEQV.",1),(@".OR.",2),(@".AND.",3),(@".EQ.",5),(@".NE.",5),(@".LT.",5),(@".LE.",5),(@".GT.",5),(@".GE.",5),(@"//",6),([43],7),([45],7),([42],8),([47],8),(@"**",9)]),
 ("parse_binary",.fn 21),
 ("EQUIVALENCE",.int 1),
 ("priority_at",.fn 19),
 ("RELATION",.int 5),
 ("POWER",.int 9),
 ("parse_first",.fn 22),
 ("parse_primary",.fn 23),
 ("SUM",.int 7),
 ("NEGATION",.int 4),
 ("constant_of",.fn 24),
 ("parse_bracket",.fn 25),
 ("parse_named",.fn 28),
 ("need_op",.fn 16),
 ("parse_expr",.fn 20),
 ("is_complex",.fn 27),
 ("part_end",.fn 26),
 ("need_name",.fn 17),
 ("MOST_DIGITS",.int 1000),
 ("run_of",.fn 30),
 ("DIGITS_lex",.str @"0123456789"),
 ("power_at",.fn 31),
 ("MOST_NAME",.int 6),
 ("LETTERS_lex",.str @"ABCDEFGHIJKLMNOPQRSTUVWXYZ"),
 ("SIGNS",.str @"+-*/(),=:"),
 ("number_at",.fn 32),
 ("name_at",.fn 33),
 ("token_at",.fn 34),
 ("need_end",.fn 18),
 ("dummy_list",.fn 36),
 ("tokens_of",.fn 35),
 ("whole_expr",.fn 29),
 ("CHARACTER",.int 5),
 ("PREFIXES",.tup [.tup [.str @"INTEGER",.int 0],.tup [.str @"REAL",.int 1],.tup [.str @"DOUBLEPRECISION",.int 2],.tup [.str @"COMPLEX",.int 3],.tup [.str @"LOGICAL",.int 4]]),
 ("RawUnit",.cls 38),
 ("result_of",.fn 40),
 ("named_list",.fn 37),
 ("BLOCK_NAME",.str @"$BLOCK"),
 ("IMPLICIT_STAGE",.int 1),
 ("RUN_STAGE",.int 4),
 ("DATA_STAGE",.int 3),
 ("SPEC_STAGE",.int 2),
 ("add_body",.fn 47),
 ("enter",.fn 43),
 ("is_stfunc",.fn 46),
 ("add_format",.fn 45),
 ("SPEC_WORDS",.tup [.str @"integer",.str @"real",.str @"doubleprecision",.str @"complex",.str @"logical",.str @"character",.str @"dimension",.str @"common",.str @"equivalence",.str @"external",.str @"intrinsic",.str @"save"]),
 ("add_spec",.fn 44),
 ("add_executable",.fn 48),
 ("note_label",.fn 42),
 ("HEAD_WORDS",.tup [.str @"program",.str @"subroutine",.str @"function",.str @"blockdata"]),
 ("BLOCK_WORDS",.tup [.str @"integer",.str @"real",.str @"doubleprecision",.str @"complex",.str @"logical",.str @"character",.str @"dimension",.str @"common",.str @"equivalence",.str @"save",.str @"implicit",.str @"parameter",.str @"data",.str @"end"]),
 ("add_row",.fn 49),
 ("UnitMaker",.cls 39),
 ("MAIN_NAME",.str @"$MAIN"),
 ("head_unit",.fn 41),
 ("begin_unit",.fn 50),
 ("classify",.fn 13),
 ("take_row",.fn 51),
 ("squeezed",.fn 4),
 ("_law_is_name",.fn 58),
 ("_law_kinds",.fn 53),
 ("_law_length",.fn 60),
 ("_law_named",.fn 59),
 ("_law_function",.fn 61),
 ("units_of",.fn 52),
 ("_law_end",.fn 63),
 ("_law_head",.fn 62),
 ("_law_take",.fn 57),
 ("_law_dummies",.fn 56),
 ("_law_heads",.fn 54),
 ("_law_names",.fn 55)]
noncomputable def G_(i:Nat):Option V:=(gtab[i]?).map (·.2)
noncomputable def QE:List V->Option V
 | [.str s]=>some (.bool (lenV.isNameB s))
 | _=>none
noncomputable def xK(k:Nat):Option (List V->Option V):=match k with
 | 58=>some QE
 | 60=>some lenV
 | _=>none
noncomputable def Ev(n:Nat):Fn:=evN G_ 2000 fns xK n
@[simp] theorem ifK_t(t e:Lc->Hp->Out)(L:Lc)(H:Hp):ifK t e L true H=t L H:=rfl
@[simp] theorem ifK_f(t e:Lc->Hp->Out)(L:Lc)(H:Hp):ifK t e L false H=e L H:=rfl
noncomputable def VJ(k:Cop)(x y:V)(H:Hp):R V:=lift H ((zd k x y H).map .bool)
noncomputable def QD(k:Cop)(x y:V)(H:Hp):R Bool:=lift H (zd k x y H)
noncomputable def JI(x:V)(H:Hp):R Bool:=lift H (w9 H x)
noncomputable def kNot(x:V)(H:Hp):R V:=lift H ((w9 H x).map λ b=>.bool (!b))
noncomputable def kBi(k:Bi)(xs:List V)(H:Hp):R V:=lift H (biV k xs H)
noncomputable def kAtt(n:List Nat)(x:V)(H:Hp):R V:=lift H (zN H n x)
noncomputable def kIdx(x y:V)(H:Hp):R V:=lift H (zC H x y)
noncomputable def kSlc(x y z:V)(H:Hp):R V:=lift H (wY x y z)
noncomputable def kIn(x y z:V)(H:Hp):R V:=lift H ((xp x y z H).map .bool)
noncomputable def kTin(x y z:V)(H:Hp):R Bool:=lift H (xp x y z H)
noncomputable def kL(x:V)(xs:List V)(H:Hp):R (List V):=.ok (x::xs) H
noncomputable def kNb(x:Bool)(H:Hp):R Bool:=.ok (!x) H
noncomputable def kNeg(x:V)(H:Hp):R V:=match x with | .int i=>.ok (.int (-i)) H | _=>.bad
noncomputable def kInt(x:V)(H:Hp):R V:=match x with | .str s=>lift H (if decide (s.length<=600) then(intText? (z0 s)).map .int else none) | _=>.bad
noncomputable def kE1(G:Nat->Option V)(F:Fn)(f:V->V->Hp->R V)(e:E)(L:Lc)(x:V)(H:Hp):R V:=(evE G F e L H).bind (f x)
noncomputable def KN(G:Nat->Option V)(F:Fn)(f:V->V->Hp->R Bool)(e:E)(L:Lc)(x:V)(H:Hp):R Bool:=(evE G F e L H).bind (f x)
noncomputable def kE2(G:Nat->Option V)(F:Fn)(f:V->V->V->Hp->R V)(e g:E)(L:Lc)(x:V)(H:Hp):R V:=(evE G F e L H).bind (kE1 G F (f x) g L)
noncomputable def kE2b(G:Nat->Option V)(F:Fn)(f:V->V->V->Hp->R Bool)(e g:E)(L:Lc)(x:V)(H:Hp):R Bool:=(evE G F e L H).bind (KN G F (f x) g L)
noncomputable def kLs(G:Nat->Option V)(F:Fn)(e:E)(L:Lc)(x:V)(H:Hp):R (List V):=(evL G F e L H).bind (kL x)
noncomputable def kC2(G:Nat->Option V)(F:Fn)(k j:Cop)(c:E)(L:Lc)(x y:V)(H:Hp):R V:=match zd k x y H with
  | some true=>(evE G F c L H).bind (VJ j y)
  | some false=>.ok (.bool false) H
  | none=>.bad
noncomputable def kC2b(G:Nat->Option V)(F:Fn)(k j:Cop)(c:E)(L:Lc)(x y:V)(H:Hp):R Bool:=match zd k x y H with
  | some true=>(evE G F c L H).bind (QD j y)
  | some false=>.ok false H
  | none=>.bad
noncomputable def kC2o(G:Nat->Option V)(F:Fn)(j:Cop)(c:E)(L:Lc)(y:V)(H:Hp)(o:Option Bool):R V:=match o with
  | some true=>(evE G F c L H).bind (VJ j y)
  | some false=>.ok (.bool false) H
  | none=>.bad
noncomputable def kC2p(G:Nat->Option V)(F:Fn)(j:Cop)(c:E)(L:Lc)(y:V)(H:Hp)(o:Option Bool):R Bool:=match o with
  | some true=>(evE G F c L H).bind (QD j y)
  | some false=>.ok false H
  | none=>.bad
noncomputable def kAnd(G:Nat->Option V)(F:Fn)(b:E)(L:Lc)(x:V)(H:Hp):R V:=match x with
  | .bool true=>evE G F b L H
  | .bool false=>.ok (.bool false) H
  | _=>.bad
noncomputable def kOr(G:Nat->Option V)(F:Fn)(b:E)(L:Lc)(x:V)(H:Hp):R V:=match x with
  | .bool true=>.ok (.bool true) H
  | .bool false=>evE G F b L H
  | _=>.bad
noncomputable def kIte(G:Nat->Option V)(F:Fn)(a b:E)(L:Lc)(x:Bool)(H:Hp):R V:=match x with | true=>evE G F a L H | false=>evE G F b L H
noncomputable def kTan(G:Nat->Option V)(F:Fn)(b:E)(L:Lc)(x:Bool)(H:Hp):R Bool:=match x with | true=>evT G F b L H | false=>.ok false H
noncomputable def kTor(G:Nat->Option V)(F:Fn)(b:E)(L:Lc)(x:Bool)(H:Hp):R Bool:=match x with | true=>.ok true H | false=>evT G F b L H
noncomputable def z17(G:Nat->Option V)(F:Fn)(as:E)(L:Lc)(g:V)(H:Hp):R V:=match kT g with
  | true=>(evL G F as L H).bind (wv F g)
  | false=>.bad
noncomputable def kMe(G:Nat->Option V)(F:Fn)(k:Me)(as:E)(L:Lc)(x:V)(H:Hp):R V:=match jx k x with
  | true=>(evL G F as L H).bind (meV k x)
  | false=>.bad
noncomputable def Js(i:Nat)(L:Lc)(v:V)(H:Hp):Out:=.next (L.set i (some v)) H
noncomputable def kAsT(is:List Nat)(L:Lc)(v:V)(H:Hp):Out:=match v with
  | .tup l=>if l.length=is.length then .next (setAll is l L) H else .bad
  | _=>.bad
noncomputable def kAp3(L:Lc)(i:Nat)(v:V)(H:Hp)(o:Option O):Out:=match o with
 | some (.lst l)=>if decide (l.length<2 ^ 20) then .next L (H.set i (.lst (l++[v]))) else .bad
 | _=>.bad
noncomputable def kAp2(L:Lc)(x v:V)(H:Hp):Out:=match x with
 | .ref i=>kAp3 L i v H H[i]?
 | _=>.bad
noncomputable def kLo(o:Option O):Bool:=match o with
 | some (.lst _)=>true
 | _=>false
noncomputable def kLen(o:Option O):Option V:=match o with
 | some (.lst l)=>some (.int l.length)
 | _=>none
noncomputable def kSd(G:Nat->Option V)(r q:E)(a:Option (List Nat))(b:Option V):Option (List (List Nat×V)):=match a with
 | some k=>match b with
  | some y=>(xy G r q).map ((k,y)::·)
  | none=>none
 | none=>none
noncomputable def kApb(G:Nat->Option V)(F:Fn)(a:E)(L:Lc)(x:V)(H:Hp)(b:Bool):Out:=match b with
 | true=>(evE G F a L H).out (kAp2 L x)
 | false=>.bad
noncomputable def kApp(G:Nat->Option V)(F:Fn)(a:E)(L:Lc)(x:V)(H:Hp):Out:=kApb G F a L x H (kQ H x)
noncomputable def kEx(L:Lc)(v:V)(H:Hp):Out:=match v with
  | .none=>.next L H
  | _=>.bad
noncomputable def kRao(k:Nat)(H:Hp)(o:Option (List (List Nat×V))):Out:=match o with
 | some l=>.exc k H.length (H++[.att l])
 | none=>.bad
noncomputable def kRai(k:Nat)(xs:List V)(H:Hp):Out:=kRao k H (zJ k xs)
noncomputable def kAug(i:Nat)(k:Bop)(L:Lc)(x y:V)(H:Hp):Out:=(xT k x y H).out (Js i L)
noncomputable def kAub(G:Nat->Option V)(F:Fn)(i:Nat)(k:Bop)(e:E)(L:Lc)(H:Hp)(x:V)(b:Bool):Out:=match b with
 | true=>(evE G F e L H).out (kAug i k L x)
 | false=>.bad
noncomputable def kAuo(G:Nat->Option V)(F:Fn)(i:Nat)(k:Bop)(e:E)(L:Lc)(H:Hp)(x:Option (Option V)):Out:=match x with
 | some (some x)=>kAub G F i k e L H x (qG k x)
 | _=>.bad
noncomputable def kFor(is:List Nat)(b:Lc->Hp->Out)(L:Lc)(v:V)(H:Hp):Out:=forV is b v L H
section
variable {G:Nat->Option V}{F:Fn}{W:Nat}
@[simp] theorem thn_next(L:Lc)(H:Hp)(f:Lc->Hp->Out):(Out.next L H).thn f=f L H:=rfl
@[simp] theorem thn_cont(L:Lc)(H:Hp)(f:Lc->Hp->Out):(Out.cont L H).thn f=.cont L H:=rfl
@[simp] theorem thn_ret(v:V)(H:Hp)(f:Lc->Hp->Out):(Out.ret v H).thn f=.ret v H:=rfl
@[simp] theorem thn_exc(k d:Nat)(H:Hp)(f:Lc->Hp->Out):(Out.exc k d H).thn f=.exc k d H:=rfl
@[simp] theorem thn_bad(f:Lc->Hp->Out):Out.bad.thn f=.bad:=rfl
@[simp] theorem turn_next(L:Lc)(H:Hp)(f:Lc->Hp->Out):(Out.next L H).turn f=f L H:=rfl
@[simp] theorem turn_cont(L:Lc)(H:Hp)(f:Lc->Hp->Out):(Out.cont L H).turn f=f L H:=rfl
@[simp] theorem turn_ret(v:V)(H:Hp)(f:Lc->Hp->Out):(Out.ret v H).turn f=.ret v H:=rfl
@[simp] theorem turn_exc(k d:Nat)(H:Hp)(f:Lc->Hp->Out):(Out.exc k d H).turn f=.exc k d H:=rfl
@[simp] theorem turn_bad(f:Lc->Hp->Out):Out.bad.turn f=.bad:=rfl
@[simp] theorem out_ok(a:α)(H:Hp)(f:α->Hp->Out):(R.ok a H).out f=f a H:=rfl
@[simp] theorem out_exc(k d:Nat)(H:Hp)(f:α->Hp->Out):(R.exc k d H:R α).out f=.exc k d H:=rfl
@[simp] theorem out_bad(f:α->Hp->Out):(R.bad:R α).out f=.bad:=rfl
@[simp] theorem lift_some(H:Hp)(a:α):lift H (some a)=.ok a H:=rfl
@[simp] theorem lift_none(H:Hp):lift H (none:Option α)=.bad:=rfl
theorem x_cons{s r:S}:evS G F W (.cons s r) L H=(evS G F W s L H).thn (evS G F W r):=rfl
theorem x_nil:evS G F W .nil L H=.next L H:=rfl
theorem x_if{c:E}{t e:S}:evS G F W (.if_ c t e) L H=(evT G F c L H).out (ifK (evS G F W t) (evS G F W e) L):=rfl
noncomputable def cT(G:Nat->Option V)(F:Fn)(c:E):Lc->Hp->R Bool:=evT G F c
theorem cT_app{c:E}:cT G F c L H=evT G F c L H:=rfl
theorem x_whl{c:E}{b:S}:evS G F W (.whl c b) L H=zZ (cT G F c) (evS G F W b) W L H:=rfl
theorem x_ret{e:E}:evS G F W (.ret e) L H=(evE G F e L H).out .ret:=rfl
theorem x_asg{e:E}:evS G F W (.asg i e) L H=(evE G F e L H).out (Js i L):=rfl
theorem Yl{c:Lc->Hp->R Bool}{b:Lc->Hp->Out}{n:Nat}(hc:c L H=.ok true H'):zZ c b (n+1) L H=(b L H').turn (zZ c b n):=by
 show(c L H).out _=_
 rw[hc];rfl
theorem ZB{c:Lc->Hp->R Bool}{b:Lc->Hp->Out}{n:Nat}(hc:c L H=.ok false H'):zZ c b (n+1) L H=.next L H':=by
 show(c L H).out _=_
 rw[hc];rfl
end
theorem y9{f:XFn}{v:V}(hp:f.pure_=true)(hv:v.flatIn=true):yt f H (.ret v H)=.ok v H:=by
 show(if f.pure_ then(if wj H H&&v.flatIn then _ else _) else _)=_
 rw[hp,kI,hv];rfl
theorem zv{n:Nat}{f:XFn}{args:List V}{b:S}(hk:xK k=none)(hf:fns[k]?=some f)(hb:f.body=b)(hL:args.map some++List.replicate (f.names.length-f.np) none=L)(hp:f.pure_=true)(hl:args.length=f.np)(hfl:V.flatIn.flatL args=true) :
  Ev (n+1) k args H=yB H (evS G_ (Ev n) 2000 b L []):=by
 show evN _ _ _ _ _ _ _ _=_
 subst hb hL
 simp only[evN,hk,hf,hl,hp,hfl,Bool.and_self,if_true]
 rfl
theorem za{n:Nat}{f:XFn}{args:List V}{b:S}(hk:xK k=none)(hf:fns[k]?=some f)(hb:f.body=b)(hL:args.map some++List.replicate (f.names.length-f.np) none=L)(hl:args.length=f.np)(hfl:(f.pure_&&V.flatIn.flatL args)=false) :
  Ev (n+1) k args H=yt f H (evS G_ (Ev n) 2000 b L H):=by
 show evN _ _ _ _ _ _ _ _=_
 subst hb hL
 simp only[evN,hk,hf,hl,hfl,if_true]
 rfl
@[simp] theorem at?_nat(l:List α)(i:Nat):at? l (i:Int)=l[i]?:=rfl
theorem Wf{c:Lc->Hp->R Bool}{b:Lc->Hp->Out}(P:Nat->Lc->Hp->Prop)(m:Nat){n:Nat}(h0:P 0 L H)(hn:m<n)(hd:∀ L H,P m L H->c L H=.ok false H)(hs:∀ i,i<m->∀ L H,P i L H->c L H=.ok true H/\∃ L' H',P (i+1) L' H'/\(b L H=.next L' H'\/b L H=.cont L' H')):∃ L' H',P m L' H'/\zZ c b n L H=.next L' H':=by
 have:∀ k i,i+k=m->∀ n,k<n->∀ L H,P i L H->∃ L' H',P m L' H'/\zZ c b n L H=.next L' H':=λ k=>by
  induction k with
  | zero=>
   intro i e n hn L H h
   cases n with
   | zero=>exact absurd hn (Nat.not_lt_zero _)
   | succ n=>
    have e:i=m:=e
    subst e
    exact⟨L,H,h,ZB (hd _ _ h)⟩
  | succ k ih=>
   intro i e n hn L H h
   cases n with
   | zero=>exact absurd hn (Nat.not_lt_zero _)
   | succ n=>
    obtain⟨h1,L',H',h2,h3⟩:=hs i (e ▸ Nat.lt_add_of_pos_right (Nat.succ_pos k)) L H h
    obtain⟨L2,H2,h4,h5⟩:=ih (i+1) ((Nat.add_right_comm i 1 k).trans e) n (Nat.lt_of_succ_lt_succ hn) L' H' h2
    exact⟨L2,H2,h4,(Yl h1).trans (h3.elim (λ h3=>(congrArg (λ o=>Out.turn o _) h3).trans h5) λ h3=>(congrArg (λ o=>Out.turn o _) h3).trans h5)⟩
 exact this m 0 (Nat.zero_add m) n hn L H h0
theorem WK{c:Lc->Hp->R Bool}{b:Lc->Hp->Out}(inv:Nat->Lc)(m:Nat){n:Nat}(hL:inv 0=L)(hn:m<n)(hd:c (inv m) H=.ok false H)(hs:∀ i,i<m->c (inv i) H=.ok true H/\((b (inv i) H=.next (inv (i+1)) H)\/(b (inv i) H=.cont (inv (i+1)) H))):zZ c b n L H=.next (inv m) H:=by
 obtain⟨_,_,⟨h1,h2⟩,h⟩:=Wf (λ i L G=>inv i=L/\H=G) m ⟨hL,rfl⟩ hn (λ _ _ h=>by rw[←h.1,←h.2];exact hd) (λ i hi _ _ h=>by rw[←h.1,←h.2];exact⟨(hs i hi).1,_,_,⟨rfl,rfl⟩,(hs i hi).2⟩)
 exact h.trans (h1 ▸ h2 ▸ rfl)
theorem We{b:Lc->Hp->Out}(P:Nat->Lc->Hp->Prop):∀ (l:List V) {L:Lc} {H:Hp} (k:Nat),P k L H->(∀ i v,l[i]?=some v->∀ L H,P (k+i) L H->∃ L1,zS is v L=some L1/\∃ L' H',P (k+i+1) L' H'/\(b L1 H=.next L' H'\/b L1 H=.cont L' H'))->∃ L' H',P (k+l.length) L' H'/\zh is b l L H=.next L' H':=λ l=>by
 induction l with
 | nil=>exact λ {L H} k h _=>⟨L,H,h,rfl⟩
 | cons v r ih=>
  intro L H k h hs
  obtain⟨L1,h1,L',H',h2,h3⟩:=hs 0 v rfl L H h
  obtain⟨L2,H2,h4,h5⟩:=ih (k+1) h2 (λ i w hw L H hp=>by
   rw[Nat.add_right_comm k 1 i] at hp ⊢
   exact hs (i+1) w hw L H hp)
  exact⟨L2,H2,Nat.add_right_comm k 1 r.length ▸ h4,(ZD h1).trans (h3.elim (λ h3=>(congrArg (λ o=>Out.turn o _) h3).trans h5) λ h3=>(congrArg (λ o=>Out.turn o _) h3).trans h5)⟩
theorem Jw{b:Lc->Hp->Out}(P:Nat->Lc->Hp->Prop)(hP:∀ i L H,P i L H->H[j]?=some (.lst all)):∀ (l:List V) {L:Lc} {H:Hp} (k:Nat),P k L H->(∀ i v,l[i]?=some v->∀ L H,P (k+i) L H->∃ L1,zS is v L=some L1/\∃ L' H',P (k+i+1) L' H'/\(b L1 H=.next L' H'\/b L1 H=.cont L' H'))->∃ L' H',P (k+l.length) L' H'/\yR is b j all l L H=.next L' H':=λ l=>by
 induction l with
 | nil=>exact λ {L H} k h _=>⟨L,H,h,XD (hP _ _ _ h)⟩
 | cons v r ih=>
  intro L H k h hs
  obtain⟨L1,h1,L',H',h2,h3⟩:=hs 0 v rfl L H h
  obtain⟨L2,H2,h4,h5⟩:=ih (k+1) h2 (λ i w hw L H hp=>by
   rw[Nat.add_right_comm k 1 i] at hp ⊢
   exact hs (i+1) w hw L H hp)
  exact⟨L2,H2,Nat.add_right_comm k 1 r.length ▸ h4,(vP (hP _ _ _ h) h1).trans (h3.elim (λ h3=>(congrArg (λ o=>Out.turn o _) h3).trans h5) λ h3=>(congrArg (λ o=>Out.turn o _) h3).trans h5)⟩
noncomputable def zo(p:Nat->Bool)(s:List Nat):Nat:=(s.takeWhile p).length
theorem Wv(p:Nat->Bool)(a:Nat)(r:List Nat):zo p (a::r)=bif p a then zo p r+1 else 0:=by
 unfold zo
 rw[List.takeWhile_cons]
 cases p a<;>rfl
theorem z1G{p:Nat->Bool}{l:List Nat}:∀ {i:Nat},i<zo p l->∃ c,l[i]?=some c/\p c=true:=by
 induction l with
 | nil=>exact λ h=>absurd h (Nat.not_lt_zero _)
 | cons a r ih=>
  intro i
  rw[Wv]
  cases h:p a with
  | false=>exact λ h=>absurd h (Nat.not_lt_zero _)
  | true=>cases i with
   | zero=>exact λ _=>⟨a,rfl,h⟩
   | succ i=>exact λ q=>ih (Nat.lt_of_succ_lt_succ q)
theorem z0J{p:Nat->Bool}{l:List Nat}:l[zo p l]?=none\/∃ c,l[zo p l]?=some c/\p c=false:=by
 induction l with
 | nil=>exact .inl rfl
 | cons a r ih=>
  rw[Wv]
  cases h:p a with
  | true=>exact ih
  | false=>exact .inr ⟨a,rfl,h⟩
theorem jj{p:Nat->Bool}(l:List Nat):zo p l<=l.length:=(List.takeWhile_prefix p).length_le
theorem qg{p:Nat->Bool}{a:Nat}(h:i<zo p (s.drop a)):∃ c,s[a+i]?=some c/\p c=true:=by
 obtain⟨c,h1,h2⟩:=z1G h
 exact⟨c,by rw[←h1,List.getElem?_drop],h2⟩
theorem kc{p:Nat->Bool}{a:Nat}:s[a+zo p (s.drop a)]?=none\/∃ c,s[a+zo p (s.drop a)]?=some c/\p c=false:=by
 have:=z0J (p:=p) (l:=s.drop a)
 rwa [List.getElem?_drop] at this
section
variable {G:Nat->Option V}{F:Fn}{W:Nat}
theorem locR_s{v:V}:Vc H (some (some v))=.ok v H:=rfl
theorem e_cst{v:V}:evE G F (.cst v) L H=.ok v H:=rfl
theorem e_loc:evE G F (.loc i) L H=Vc H L[i]?:=rfl
theorem e_glb:evE G F (.glb i) L H=lift H (G i):=rfl
theorem e_bop{k:Bop}{a b:E}:evE G F (.bop k a b) L H=(evE G F a L H).bind (kE1 G F (xT k) b L):=rfl
theorem e_cmp{k:Cop}{a b:E}:evE G F (.cmp k a b) L H=(evE G F a L H).bind (kE1 G F (VJ k) b L):=rfl
theorem e_cmp2{k j:Cop}{a b c:E}:evE G F (.cmp2 k j a b c) L H=(evE G F a L H).bind (kE1 G F (kC2 G F k j c L) b L):=rfl
theorem e_and{a b:E}:evE G F (.and_ a b) L H=(evE G F a L H).bind (kAnd G F b L):=rfl
theorem e_or{a b:E}:evE G F (.or_ a b) L H=(evE G F a L H).bind (kOr G F b L):=rfl
theorem e_not{a:E}:evE G F (.not_ a) L H=(evE G F a L H).bind kNot:=rfl
theorem e_neg{a:E}:evE G F (.neg a) L H=(evE G F a L H).bind kNeg:=rfl
theorem e_ite{c a b:E}:evE G F (.ite c a b) L H=(evT G F c L H).bind (kIte G F a b L):=rfl
theorem e_bi{k:Bi}{as:E}:evE G F (.bi k as) L H=(evL G F as L H).bind (kBi k):=rfl
theorem e_int{a:E}:evE G F (.int_ a) L H=(evE G F a L H).bind kInt:=rfl
theorem e_call{f as:E}:evE G F (.call f as) L H=(evE G F f L H).bind (z17 G F as L):=rfl
theorem e_me{k:Me}{o as:E}:evE G F (.me k o as) L H=(evE G F o L H).bind (kMe G F k as L):=rfl
theorem e_attr{o:E}{n:List Nat}:evE G F (.attr o n) L H=(evE G F o L H).bind (kAtt n):=rfl
theorem e_idx{o i:E}:evE G F (.idx o i) L H=(evE G F o L H).bind (kE1 G F kIdx i L):=rfl
theorem e_slc{o a b:E}:evE G F (.slc o a b) L H=(evE G F o L H).bind (kE2 G F kSlc a b L):=rfl
theorem e_inSl{a l k:E}:evE G F (.inSl a l k) L H=(evE G F a L H).bind (kE2 G F kIn l k L):=rfl
theorem l_cons{a r:E}:evL G F (.cons a r) L H=(evE G F a L H).bind (kLs G F r L):=rfl
theorem t_not{a:E}:evT G F (.not_ a) L H=(evT G F a L H).bind kNb:=rfl
theorem t_and{a b:E}:evT G F (.and_ a b) L H=(evT G F a L H).bind (kTan G F b L):=rfl
theorem t_or{a b:E}:evT G F (.or_ a b) L H=(evT G F a L H).bind (kTor G F b L):=rfl
theorem t_cmp{k:Cop}{a b:E}:evT G F (.cmp k a b) L H=(evE G F a L H).bind (KN G F (QD k) b L):=rfl
theorem t_cmp2{k j:Cop}{a b c:E}:evT G F (.cmp2 k j a b c) L H=(evE G F a L H).bind (KN G F (kC2b G F k j c L) b L):=rfl
theorem t_loc:evT G F (.loc i) L H=(Vc H L[i]?).bind JI:=rfl
theorem t_call{f as:E}:evT G F (.call f as) L H=((evE G F f L H).bind (z17 G F as L)).bind JI:=rfl
theorem t_idx{o i:E}:evT G F (.idx o i) L H=((evE G F o L H).bind (kE1 G F kIdx i L)).bind JI:=rfl
theorem t_inSl{a l k:E}:evT G F (.inSl a l k) L H=(evE G F a L H).bind (kE2b G F kTin l k L):=rfl
theorem r_cmp{k:Cop}{x:V}:VJ k x y H=lift H ((zd k x y H).map .bool):=rfl
theorem r_tcm{k:Cop}{x:V}:QD k x y H=lift H (zd k x y H):=rfl
theorem r_tru{x:V}:JI x H=lift H (w9 H x):=rfl
theorem r_not{x:V}:kNot x H=lift H ((w9 H x).map λ b=>.bool (!b)):=rfl
theorem r_bi{k:Bi}:kBi k xs H=lift H (biV k xs H):=rfl
theorem r_att{n:List Nat}{x:V}:kAtt n x H=lift H (zN H n x):=rfl
theorem r_idx{x:V}:kIdx x y H=lift H (zC H x y):=rfl
theorem r_slc{x z:V}:kSlc x y z H=lift H (wY x y z):=rfl
theorem r_in{x z:V}:kIn x y z H=lift H ((xp x y z H).map .bool):=rfl
theorem r_tin{x z:V}:kTin x y z H=lift H (xp x y z H):=rfl
theorem r_l{x:V}:kL x xs H=.ok (x::xs) H:=rfl
theorem r_nb{x:Bool}:kNb x H=.ok (!x) H:=rfl
theorem r_neg{i:Int}:kNeg (.int i) H=.ok (.int (-i)) H:=rfl
theorem r_int:kInt (.str s) H=lift H (if decide (s.length<=600) then(intText? (z0 s)).map .int else none):=rfl
theorem r_e1{f:V->V->Hp->R V}{e:E}{x:V}:kE1 G F f e L x H=(evE G F e L H).bind (f x):=rfl
theorem r_e1b{f:V->V->Hp->R Bool}{e:E}{x:V}:KN G F f e L x H=(evE G F e L H).bind (f x):=rfl
theorem r_e2{f:V->V->V->Hp->R V}{e g:E}{x:V}:kE2 G F f e g L x H=(evE G F e L H).bind (kE1 G F (f x) g L):=rfl
theorem r_e2b{f:V->V->V->Hp->R Bool}{e g:E}{x:V}:kE2b G F f e g L x H=(evE G F e L H).bind (KN G F (f x) g L):=rfl
theorem r_ls{e:E}{x:V}:kLs G F e L x H=(evL G F e L H).bind (kL x):=rfl
theorem r_c2{k j:Cop}{c:E}{x:V}:kC2 G F k j c L x y H=kC2o G F j c L y H (zd k x y H):=rfl
theorem r_c2b{k j:Cop}{c:E}{x:V}:kC2b G F k j c L x y H=kC2p G F j c L y H (zd k x y H):=rfl
theorem r_c2t{j:Cop}{c:E}:kC2o G F j c L y H (some true)=(evE G F c L H).bind (VJ j y):=rfl
theorem r_c2f{j:Cop}{c:E}:kC2o G F j c L y H (some false)=.ok (.bool false) H:=rfl
theorem r_p2t{j:Cop}{c:E}:kC2p G F j c L y H (some true)=(evE G F c L H).bind (QD j y):=rfl
theorem r_p2f{j:Cop}{c:E}:kC2p G F j c L y H (some false)=.ok false H:=rfl
theorem r_ant{b:E}:kAnd G F b L (.bool true) H=evE G F b L H:=rfl
theorem r_anf{b:E}:kAnd G F b L (.bool false) H=.ok (.bool false) H:=rfl
theorem r_ort{b:E}:kOr G F b L (.bool true) H=.ok (.bool true) H:=rfl
theorem r_orf{b:E}:kOr G F b L (.bool false) H=evE G F b L H:=rfl
theorem r_itt{a b:E}:kIte G F a b L true H=evE G F a L H:=rfl
theorem r_itf{a b:E}:kIte G F a b L false H=evE G F b L H:=rfl
theorem r_tat{b:E}:kTan G F b L true H=evT G F b L H:=rfl
theorem r_taf{b:E}:kTan G F b L false H=.ok false H:=rfl
theorem r_tot{b:E}:kTor G F b L true H=.ok true H:=rfl
theorem r_tof{b:E}:kTor G F b L false H=evT G F b L H:=rfl
theorem r_cf{as:E}:z17 G F as L (.fn k) H=(evL G F as L H).bind (wv F (.fn k)):=rfl
theorem r_cc{as:E}:z17 G F as L (.cls k) H=(evL G F as L H).bind (wv F (.cls k)):=rfl
theorem r_mf{as:E}:kMe G F .find as L (.str s) H=(evL G F as L H).bind (meV .find (.str s)):=rfl
theorem r_ms{as:E}:kMe G F .split as L (.str s) H=(evL G F as L H).bind (meV .split (.str s)):=rfl
theorem r_mc{as:E}:kMe G F .count as L (.str s) H=(evL G F as L H).bind (meV .count (.str s)):=rfl
theorem r_mr{as:E}:kMe G F .replace as L (.str s) H=(evL G F as L H).bind (meV .replace (.str s)):=rfl
theorem r_asg{v:V}:Js i L v H=.next (L.set i (some v)) H:=rfl
theorem r_ast{l:List V}:kAsT is L (.tup l) H=if l.length=is.length then .next (setAll is l L) H else .bad:=rfl
theorem r_app{a:E}{x:V}:kApp G F a L x H=kApb G F a L x H (kQ H x):=rfl
theorem r_apb{a:E}{x:V}:kApb G F a L x H true=(evE G F a L H).out (kAp2 L x):=rfl
theorem r_ap2{v:V}:kAp2 L (.ref i) v H=kAp3 L i v H H[i]?:=rfl
theorem r_ap3{v:V}{l:List V}:kAp3 L i v H (some (.lst l))=if decide (l.length<2 ^ 20) then .next L (H.set i (.lst (l++[v]))) else .bad:=rfl
theorem xg:kQ H (.ref i)=kLo H[i]?:=rfl
theorem r_lo{l:List V}:kLo (some (.lst l))=true:=rfl
theorem r_len{l:List V}:kLen (some (.lst l))=some (.int l.length):=rfl
theorem r_sd{r q:E}{k:List Nat}:kSd G r q (some k) (some y)=(xy G r q).map ((k,y)::·):=rfl
theorem r_exn:kEx L .none H=.next L H:=rfl
theorem r_rai:kRai k xs H=kRao k H (zJ k xs):=rfl
theorem r_rao:kRao k H (some l)=.exc k H.length (H++[.att l]):=rfl
theorem r_aug{k:Bop}{x:V}:kAug i k L x y H=(xT k x y H).out (Js i L):=rfl
theorem r_au{k:Bop}{e:E}{x:V}:kAuo G F i k e L H (some (some x))=kAub G F i k e L H x (qG k x):=rfl
theorem r_aut{k:Bop}{e:E}{x:V}:kAub G F i k e L H x true=(evE G F e L H).out (kAug i k L x):=rfl
theorem x_for{b:Lc->Hp->Out}{v:V}:kFor is b L v H=forV is b v L H:=rfl
theorem e_tup{as:E}:evE G F (.tup as) L H=(evL G F as L H).bind XG:=rfl
theorem e_lst{as:E}:evE G F (.lst as) L H=(evL G F as L H).bind Vw:=rfl
theorem tu0:XG [] H=.ok (.tup []) H:=rfl
theorem tu1{a:V}:XG [a] H=.ok (.tup [a]) H:=rfl
theorem tu2{a b:V}:XG [a,b] H=.ok (.tup [a,b]) H:=rfl
theorem tu3{a b c:V}:XG [a,b,c] H=.ok (.tup [a,b,c]) H:=rfl
theorem tu4{a b c d:V}:XG [a,b,c,d] H=.ok (.tup [a,b,c,d]) H:=rfl
theorem li0:Vw [] H=.ok (.ref H.length) (H++[.lst []]):=rfl
theorem li1{a:V}:Vw [a] H=.ok (.ref H.length) (H++[.lst [a]]):=rfl
theorem li2{a b:V}:Vw [a,b] H=.ok (.ref H.length) (H++[.lst [a,b]]):=rfl
theorem li3{a b c:V}:Vw [a,b,c] H=.ok (.ref H.length) (H++[.lst [a,b,c]]):=rfl
theorem dctR_s:JA H (some l)=if decide (l.map (·.1)).Nodup&&decide (l.length<=15) then .ok (.ref H.length) (H++[.dct l]) else .bad:=rfl
theorem e_dct{ks vs:E}:evE G F (.dct ks vs) L H=JA H (xy G ks vs):=rfl
theorem l_nil:evL G F .nil L H=.ok [] H:=rfl
theorem t_cst{b:Bool}:evT G F (.cst (.bool b)) L H=.ok b H:=rfl
theorem l_co{a r:E}:evL G F (.cons a r) L H=(evE G F a L H).bind λ x H=>(evL G F r L H).bind λ xs H=>.ok (x::xs) H:=rfl
theorem x_rao(k:Nat)(as:E)(L:Lc)(H:Hp):evS G F W (.rai k as) L H=(evL G F as L H).out λ xs H=>match zJ k xs with
  | some l=>.exc k H.length (H++[.att l])
  | none=>.bad:=rfl
theorem x_auo(i:Nat)(k:Bop)(e:E)(L:Lc)(H:Hp):evS G F W (.aug i k e) L H=match L[i]? with
  | some (some x)=>(match qG k x with
   | true=>(evE G F e L H).out λ y H=>(xT k x y H).out λ v H=>.next (L.set i (some v)) H
   | false=>.bad)
  | _=>.bad:=rfl
theorem Kc{k:List Nat}:keyD (.cst (.str k))=some k:=rfl
theorem QT{i:Int}:Yz G (.cst (.int i))=some (.int i):=rfl
theorem Qg:Yz G (.glb i)=G i:=rfl
theorem Ql:xy G .nil .nil=some []:=rfl
theorem WN{a r v q:E}:xy G (.cons a r) (.cons v q)=kSd G r q (keyD a) (Yz G v):=rfl
theorem x_aug{k:Bop}{e:E}:evS G F W (.aug i k e) L H=kAuo G F i k e L H L[i]?:=rfl
theorem j4{e:E}{b:S}:evS G F W (.forE is e b) L H=(evE G F e L H).out (kFor is (evS G F W b) L):=rfl
theorem Xm{e:E}{b:S}{l:List V}(h1:evE G F e L H=.ok (.ref i) H')(h2:H'[i]?=some (.lst l)):evS G F W (.forE is e b) L H=yR is (evS G F W b) i l l L H':=by
 rw[j4,h1,out_ok]
 show z08 _ _ i H'[i]? L H'=_
 rw[h2];rfl
theorem z2t{e:E}{b:S}(h1:evE G F e L H=.ok (.ref i) H')(h2:H'[i]?=some (.dct l)):evS G F W (.forE [j] e b) L H=yu j (evS G F W b) i l l L H':=by
 rw[j4,h1,out_ok]
 show z08 _ _ i H'[i]? L H'=_
 rw[h2];rfl
theorem z1Z{e:E}{b:S}{l:List Nat}(h1:evE G F e L H=.ok (.str l) H'):evS G F W (.forE is e b) L H=zh is (evS G F W b) (l.map λ c=>.str [c]) L H':=by
 rw[j4,h1];rfl
theorem z1W{e:E}{b:S}{l:List V}(h1:evE G F e L H=.ok (.tup l) H'):evS G F W (.forE is e b) L H=zh is (evS G F W b) l L H':=by
 rw[j4,h1];rfl
theorem XQ{e:E}{b:S}{l:List V}(h1:evE G F e L H=.ok (.clst l) H'):evS G F W (.forE is e b) L H=zh is (evS G F W b) l L H':=by
 rw[j4,h1];rfl
theorem jJ{n:Nat}(hn:n<1000):zE (n:Int)=true:=by
 unfold zE
 rw[Int.natAbs_natCast]
 exact decide_eq_true (Nat.lt_of_lt_of_le hn (by decide))
noncomputable def Z8(i:Nat)(b:Lc->Hp->Out)(L:Lc)(xs:List V)(H:Hp):Out:=match xs with
 | [.int n]=>if decide (n<2 ^ 20)&&zE n then zh [i] b (zb 0 n.toNat) L H else .bad
 | [.int a,.int n]=>if decide (n<2 ^ 20)&&decide (0<=a)&&decide (a<2 ^ 20)&&zE n then zh [i] b (zb a (n-a).toNat) L H else .bad
 | _=>.bad
theorem Zl(i:Nat)(as:E)(b:S)(L:Lc)(H:Hp):evS G F W (.forR i as b) L H=(evL G F as L H).out (Z8 i (evS G F W b) L):=(rfl)
theorem XU{b:Lc->Hp->Out}{n:Nat}(hn:n<1000):Z8 i b L [.int n] H=zh [i] b (zb 0 n) L H:=by
 have h2:(decide ((n:Int)<2 ^ 20)&&zE n)=true:=by
  exact bm_ ⟨decide_eq_true (lt20 hn),jJ hn⟩
 unfold Z8
 dsimp only
 rw[if_pos h2,Int.toNat_natCast]
theorem z2e{b:Lc->Hp->Out}{a n:Nat}(hn:n<1000)(ha:a<1000):Z8 i b L [.int a,.int n] H=zh [i] b (zb a (n-a)) L H:=by
 have h2:(decide ((n:Int)<2 ^ 20)&&decide ((0:Int)<=a)&&decide ((a:Int)<2 ^ 20)&&zE n)=true:=by
  exact bm_ ⟨bm_ ⟨bm_ ⟨decide_eq_true (lt20 hn),decide_eq_true (Int.natCast_nonneg a)⟩,decide_eq_true (lt20 ha)⟩,jJ hn⟩
 have h3:((n:Int)-(a:Int)).toNat=n-a:=Int.toNat_sub n a
 unfold Z8
 dsimp only
 rw[if_pos h2,h3]
noncomputable def andK(b:Hp->R Bool):Bool->Hp->R Bool
 | true,H=>b H
 | false,H=>.ok false H
theorem x_asgT{e:E}:evS G F W (.asgT is e) L H=(evE G F e L H).out (kAsT is L):=rfl
theorem x_app{o a:E}:evS G F W (.app o a) L H=(evE G F o L H).out (kApp G F a L):=rfl
theorem x_ex{e:E}:evS G F W (.ex e) L H=(evE G F e L H).out (kEx L):=rfl
theorem x_rai{as:E}:evS G F W (.rai k as) L H=(evL G F as L H).out (kRai k):=rfl
theorem jM(is:List Nat)(e:E)(k i:Nat)(h:S)(L:Lc)(H:Hp):evS G F W (.try_ is e k i h) L H=tryK (evE G F e L H) (λ v H=>bndK H (zS is v L)) λ c d H=>if Wd c k&&!(k==0&&c==1) then YG (evS G F W h (L.set i (some (.exc c d))) H) else .bad:=rfl
theorem x_cont:evS G F W .cont L H=.cont L H:=rfl
theorem x_pass:evS G F W .pass L H=.next L H:=rfl
end
theorem v_lt{a b:Int}:zd .lt (.int a) (.int b) H=some (decide (a<b)):=rfl
theorem v_le{a b:Int}:zd .le (.int a) (.int b) H=some (decide (a<=b)):=rfl
theorem v_gt{a b:Int}:zd .gt (.int a) (.int b) H=some (decide (b<a)):=rfl
theorem v_ge{a b:Int}:zd .ge (.int a) (.int b) H=some (decide (b<=a)):=rfl
theorem v_eqi{a b:Int}:zd .eq (.int a) (.int b) H=some (a==b):=rfl
theorem v_eqs{a b:List Nat}:zd .eq (.str a) (.str b) H=some (a==b):=rfl
theorem v_nei{a b:Int}:zd .ne (.int a) (.int b) H=some (!(a==b)):=rfl
theorem v_nes{a b:List Nat}:zd .ne (.str a) (.str b) H=some (!(a==b)):=rfl
theorem v_in1{c:Nat}:zd .in_ (.str [c]) (.str s) H=some (s.contains c):=rfl
theorem v_notin1{c:Nat}:zd .notin (.str [c]) (.str s) H=some (!s.contains c):=rfl
theorem v_len:biV .len [.str s] H=some (.int s.length):=rfl
theorem v_lenr:biV .len [.ref i] H=kLen H[i]?:=rfl
theorem v_ord{c:Nat}:biV .ord [.str [c]] H=some (.int c):=rfl
theorem v_max{a b:Int}:biV .max [.int a,.int b] H=some (.int (if a<b then b else a)):=rfl
theorem v_addi{a b:Int}:xT .add (.int a) (.int b) H=.ok (.int (a+b)) H:=rfl
theorem v_subi{a b:Int}:xT .sub (.int a) (.int b) H=.ok (.int (a-b)) H:=rfl
theorem v_muli{a b:Int}:xT .mul (.int a) (.int b) H=if zE a||zE b then .ok (.int (a*b)) H else .bad:=rfl
theorem v_adds{a b:List Nat}:xT .add (.str a) (.str b) H=if decide (a.length+b.length<2 ^ 20) then .ok (.str (a++b)) H else .bad:=rfl
theorem v_idxs:zC H (.str s) (.int (i:Int))=(s[i]?).map λ c=>.str [c]:=rfl
theorem v_augi{i:Int}:qG .add (.int i)=true:=rfl
theorem v_augj{i:Int}:qG .sub (.int i)=true:=rfl
theorem v_augs{i:List Nat}:qG .add (.str i)=true:=rfl
theorem v_trb{b:Bool}:w9 H (.bool b)=some b:=rfl
theorem v_call{F:Fn}:wv F (.fn k) xs H=F k xs H:=rfl
theorem v_isfn:kT (.fn k)=true:=rfl
theorem v_iscl:kT (.cls k)=true:=rfl
theorem v_find{c:Nat}:meV .find (.str s) [.str (c::p)] H=.ok (.int (z8 (c::p) s 0)) H:=rfl
theorem v_meok:jx .find (.str s)=true:=rfl
theorem v_slc(s:List Nat)(i j:Int):wY (.str s) (.int i) (.int j)=some (.str ((s.take (adj s.length j)).drop (adj s.length i))):=rfl
theorem v_slc0(s:List Nat)(j:Int):wY (.str s) .none (.int j)=some (.str (s.take (adj s.length j))):=rfl
theorem v_slcE(s:List Nat)(i:Int):wY (.str s) (.int i) .none=some (.str (s.drop (adj s.length i))):=rfl
theorem yj(s:List Nat)(e:Nat):(s.take (adj s.length ((e:Int)+1))).drop (adj s.length (e:Int))=s[e]?.toList:=by
 by_cases hl:e<s.length
 ·rw[Wk hl,Kf (Nat.le_of_lt hl),List.take_succ,List.drop_append_of_le_length (by rw[List.length_take,Nat.min_eq_left (Nat.le_of_lt hl)];exact Nat.le_refl _),List.drop_eq_nil_of_le (List.length_take_le _ _)]
  rfl
 ·rw[List.getElem?_eq_none (Nat.le_of_not_lt hl),wT,Nat.min_eq_right (Nat.le_of_not_lt hl),List.drop_eq_nil_of_le (List.length_take ▸ Nat.min_le_right _ _)]
  rfl
theorem JG{n:Nat}:∀ {a i:Nat} {v:V},(zb (a:Int) n)[i]?=some v->v=.int ((a+i:Nat):Int)/\i<n:=by
 induction n with
 | zero=>exact λ h=>n1 h
 | succ n ih=>
  intro a i v h
  cases i with
  | zero=>exact⟨(Option.some.inj h).symm,Nat.succ_pos n⟩
  | succ i=>exact⟨(ih (a:=a+1) h).1.trans (congrArg (λ k=>V.int ((k:Nat):Int)) (Nat.add_right_comm a 1 i)),Nat.succ_lt_succ (ih (a:=a+1) h).2⟩
local macro_rules (kind:=Lean.Parser.Tactic.simpAutoUnfold)
 | s=>pure (xt "set_option" "set_option" [jC "backward.defeqAttrib.useBackward",zT [],zO "true",zO "in",xt "simp" "simp" [zj s 1,zT [],zj s 3,zT [zO "[",z1y (((ZI "cT_app x_cons x_nil x_if x_ret x_asg x_aug x_whl x_asgT x_app x_ex x_rai x_cont x_pass R.bind_ok R.bind_exc R.bind_bad out_ok out_exc out_bad thn_next thn_cont thn_ret thn_exc thn_bad turn_next turn_cont turn_ret turn_exc turn_bad ifK_t ifK_f lift_some lift_none v_lt v_le v_gt v_ge v_eqi v_eqs v_nei v_nes v_in1 v_notin1 v_len v_lenr v_ord v_max v_addi v_subi v_muli v_idxs v_augi v_augj v_augs v_adds v_trb v_call v_isfn v_iscl v_find v_meok v_slc v_slc0 v_slcE locR_s dctR_s r_cmp r_tcm r_tru r_not r_bi r_att r_idx r_slc r_in r_tin r_l r_nb r_neg r_int r_e1 r_e1b r_e2 r_e2b r_ls r_c2 r_c2b r_c2t r_c2f r_p2t r_p2f r_ant r_anf r_ort r_orf r_itt r_itf r_tat r_taf r_tot r_tof r_cf r_cc r_mf r_ms r_mc r_mr r_asg r_ast r_app r_apb r_ap2 r_ap3 r_lo r_len r_sd r_rao r_aut r_exn r_rai r_aug r_au x_for tu0 tu1 tu2 tu3 tu4 li0 li1 li2 li3 e_cst e_loc e_glb e_bop e_cmp e_cmp2 e_and e_or e_not e_neg e_ite e_bi e_int e_call e_me e_attr e_idx e_slc e_inSl e_tup e_lst e_dct l_nil l_cons t_not t_and t_or t_cmp t_cmp2 t_loc t_call t_idx t_cst t_inSl List.getElem?_cons_zero List.getElem?_cons_succ List.set_cons_zero List.set_cons_succ Option.map_some Option.map_none setAll List.length_cons List.length_nil decide_true if_true Nat.reduceLT Nat.reduceAdd").map λ n=>kr `Lean.Parser.Tactic.simpLemma [zT [],zT [],n])++(zj (zj s 4) 1).getSepArgs.toList),zO "]"],zT []]])
section
open PyProof.Rows PySem.W
section
abbrev Led:=List (Addr×Obj)
abbrev pw:=PySem.Challenge.pw_no0290_02
noncomputable def zu(s:List Nat):Prop:=(∀ c∈s,c<1114112)/\s.length<2 ^ 20
noncomputable def tupO(vs:List Value):Obj:={cls:=.type "tuple",data:=.seq vs.toArray}
structure Tab where
 w:World
 f:Nat->Option Addr
 c:Nat->Option Addr
 x:Nat->Option Addr
noncomputable def CtxOk(C:Addr)(vs:Array Value):Prop:=C=51\/vs[2]?=some .none
variable (K:Frag)(tb:Tab)
mutual
inductive RV(I:Led)(μ:List Addr):Value->V->Prop
 | none:RV I μ .none .none
 | bool (b:Bool):RV I μ (.bool b) (.bool b)
 | int (i:Int) (t:Tok):RV I μ (.int i t) (.int i)
 | str {s:List Nat} (t:Tok):zu s->RV I μ (.str (z0 s) t) (.str s)
 | tup {a:Addr} {o:Obj} {vs:Array Value} {n:Nat} {l:List V}:(a,o)∈I->o.cls=.type "tuple"->o.data=.seq vs n->RVs I μ vs.toList l->RV I μ (.ref a) (.tup l)
 | tupK {a:Addr} {d:Option Addr} {vs:List Value} {n:Nat} {sl:Array (Option Value)} {l:List V}:K.lookup a=some ⟨.type "tuple",d,.seq vs.toArray n,sl⟩->RVs I μ vs l->RV I μ (.ref a) (.tup l)
 | ref {a:Addr} {i:Nat}:μ[i]?=some a->RV I μ (.ref a) (.ref i)
 | fn {a:Addr} {k:Nat}:tb.f k=some a->RV I μ (.ref a) (.fn k)
 | cls {a:Addr} {k:Nat}:tb.c k=some a->RV I μ (.ref a) (.cls k)
 | exc {e D C:Addr} {k d:Nat} {oe:Obj}:(e,oe)∈I->tb.x k=some C->oe.cls=.ref C->oe.dict=some D->(∃ vs,oe.data=.fields vs/\2<vs.size/\CtxOk C vs)->μ[d]?=some D->RV I μ (.ref e) (.exc k d)
 | clst {a:Addr} {d:Option Addr} {vs:List Value} {n:Nat} {sl:Array (Option Value)} {l:List V}:K.lookup a=some ⟨.type "list",d,.seq vs.toArray n,sl⟩->RVs I μ vs l->RV I μ (.ref a) (.clst l)
 | cdct {a:Addr} {o:Obj} {l:List (List Nat×Int)} (tk:List Nat->Tok):(a==sysModules)=false->K.lookup a=some o->o.IsDictOf (strKind pw tb.w) (l.map λ p=>(z0 p.1,Value.int p.2 (tk p.1)))->RV I μ (.ref a) (.cdct l)
inductive RVs(I:Led)(μ:List Addr):List Value->List V->Prop
 | nil:RVs I μ [] []
 | cons {v:Value} {vs:List Value} {x:V} {xs:List V}:RV I μ v x->RVs I μ vs xs->RVs I μ (v::vs) (x::xs)
end
variable {K:Frag}{tb:Tab}{I I':Led}{μ μ':List Addr}
noncomputable def RV.Inv(K:Frag)(tb:Tab)(I:Led)(μ:List Addr)(v:Value):V->Prop
 | .none=>v=.none
 | .bool b=>v=.bool b
 | .int i=>∃ t,v=.int i t
 | .str s=>∃ t,v=.str (z0 s) t/\zu s
 | .tup l=>∃ a vs,v=.ref a/\RVs K tb I μ vs l/\((∃ o n,(a,o)∈I/\o.cls=.type "tuple"/\o.data=.seq vs.toArray n)\/∃ d n sl,K.lookup a=some ⟨.type "tuple",d,.seq vs.toArray n,sl⟩)
 | .ref i=>∃ a,v=.ref a/\μ[i]?=some a
 | .fn k=>∃ a,v=.ref a/\tb.f k=some a
 | .cls k=>∃ a,v=.ref a/\tb.c k=some a
 | .exc k d=>(Ex4 λ e D C oe=>A7 (v=.ref e) ((e,oe)∈I) (tb.x k=some C) (oe.cls=.ref C) (oe.dict=some D) ((∃ vs,oe.data=.fields vs/\2<vs.size/\CtxOk C vs)) (μ[d]?=some D))
 | .clst l=>(Ex5 λ a d vs n sl=>A3 (v=.ref a) (K.lookup a=some ⟨.type "list",d,.seq (List.toArray vs) n,sl⟩) (RVs K tb I μ vs l))
 | .cdct l=>(Ex3 λ(a:Addr) (o:Obj) (tk:List Nat->Tok)=>A4 (v=.ref a) ((a==sysModules)=false) (K.lookup a=some o) (o.IsDictOf (strKind pw tb.w) (l.map λ p=>(z0 p.1,Value.int p.2 (tk p.1)))))
section
variable {I:Led}{μ:List Addr}{v:Value}{M:Value->Prop}
theorem RV.inv{x:V}(h:RV K tb I μ v x):RV.Inv K tb I μ v x:=
 RV.casesOn (motive_1:=λ v x _=>RV.Inv K tb I μ v x) h rfl (λ _=>rfl) (λ _ t=>⟨t,rfl⟩) (λ t o=>⟨t,rfl,o⟩) (λ {_ o vs n _} h1 h2 h3 h4=>⟨_,vs.toList,rfl,h4,.inl ⟨o,n,h1,h2,h3⟩⟩) (λ h g=>⟨_,_,rfl,g,.inr ⟨_,_,_,h⟩⟩)
  (λ h=>⟨_,rfl,h⟩) (λ h=>⟨_,rfl,h⟩) (λ h=>⟨_,rfl,h⟩) (λ a b c d e f=>⟨_,_,_,_,rfl,a,b,c,d,e,f⟩) (λ h g=>⟨_,_,_,_,_,rfl,h,g⟩) (λ t a b c=>⟨_,_,t,rfl,a,b,c⟩)
@[elab_as_elim] theorem RV.eNone(h:RV K tb I μ v .none)(k:M .none):M v:=(show v=.none from h.inv) ▸ k
@[elab_as_elim] theorem RV.eBool{b:Bool}(h:RV K tb I μ v (.bool b))(k:M (.bool b)):M v:=(show v=.bool b from h.inv) ▸ k
@[elab_as_elim] theorem RV.eInt{i:Int}(h:RV K tb I μ v (.int i))(k:∀ t,M (.int i t)):M v:=h.inv.elim λ t e=>e ▸ k t
@[elab_as_elim] theorem RV.eStr{i:List Nat}(h:RV K tb I μ v (.str i))(k:∀ t,zu i->M (.str (z0 i) t)):M v:=h.inv.elim λ t e=>e.1 ▸ k t e.2
@[elab_as_elim] theorem RV.eRef(h:RV K tb I μ v (.ref i))(k:∀ a,μ[i]?=some a->M (.ref a)):M v:=h.inv.elim λ t e=>e.1 ▸ k t e.2
@[elab_as_elim] theorem RV.eFn(h:RV K tb I μ v (.fn i))(k:∀ a,tb.f i=some a->M (.ref a)):M v:=h.inv.elim λ t e=>e.1 ▸ k t e.2
@[elab_as_elim] theorem RV.eCls(h:RV K tb I μ v (.cls i))(k:∀ a,tb.c i=some a->M (.ref a)):M v:=h.inv.elim λ t e=>e.1 ▸ k t e.2
@[elab_as_elim] theorem RV.eExc(h:RV K tb I μ v (.exc i d))(k:∀ e D C oe,(e,oe)∈I->tb.x i=some C->oe.cls=.ref C->oe.dict=some D->(∃ vs,oe.data=.fields vs/\2<vs.size/\CtxOk C vs)->μ[d]?=some D->M (.ref e)):M v:=
 Ex4.casesOn (motive:=λ _=>M v) h.inv λ _ _ _ _ g=>A7.casesOn (motive:=λ _=>M v) g λ e g1 g2 g3 g4 g5 g6=>e ▸ k _ _ _ _ g1 g2 g3 g4 g5 g6
@[elab_as_elim] theorem RV.eClst{l:List V}(h:RV K tb I μ v (.clst l))(k:∀ {a d vs n sl},K.lookup a=some ⟨.type "list",d,.seq (List.toArray vs) n,sl⟩->RVs K tb I μ vs l->M (.ref a)):M v:=
 Ex5.casesOn (motive:=λ _=>M v) h.inv λ _ _ _ _ _ g=>A3.casesOn (motive:=λ _=>M v) g λ e g1 g2=>e ▸ k g1 g2
@[elab_as_elim] theorem RV.eCdct{l:List (List Nat×Int)}(h:RV K tb I μ v (.cdct l))(k:∀ {a o} (tk:List Nat->Tok),(a==sysModules)=false->K.lookup a=some o->o.IsDictOf (strKind pw tb.w) (l.map λ p=>(z0 p.1,Value.int p.2 (tk p.1)))->M (.ref a)):M v:=
 Ex3.casesOn (motive:=λ _=>M v) h.inv λ _ _ t g=>A4.casesOn (motive:=λ _=>M v) g λ e g1 g2 g3=>e ▸ k t g1 g2 g3
@[elab_as_elim] theorem RVs.eNil{M:List Value->Prop}(h:RVs K tb I μ vs [])(k:M []):M vs:=
 RVs.casesOn (motive_2:=λ vs xs _=>xs=[]->M vs) h (λ _=>k) (λ _ _ e=>nomatch e) rfl
@[elab_as_elim] theorem RVs.eCons{x:V}{M:List Value->Prop}(h:RVs K tb I μ vs (x::xs))(k:∀ {u us},RV K tb I μ u x->RVs K tb I μ us xs->M (u::us)):M vs:=
 RVs.casesOn (motive_2:=λ vs ys _=>ys=x::xs->M vs) h (λ e=>nomatch e) (λ a b e=>k (List.cons.inj e |>.1 ▸ a) (List.cons.inj e |>.2 ▸ b)) rfl
end
theorem RVs.ind{P:List Value->List V->Prop}(h:RVs K tb I μ vs xs)(n:P [] [])(c:∀ {v:Value} {x:V} {vs:List Value} {xs:List V},RV K tb I μ v x->RVs K tb I μ vs xs->P vs xs->P (v::vs) (x::xs)):P vs xs:=
 RVs.rec (motive_1:=λ _ _ _=>True) (motive_2:=λ vs xs _=>P vs xs) trivial (λ _=>trivial) (λ _ _=>trivial) (λ _ _=>trivial) (λ _ _ _ _ _=>trivial) (λ _ _ _=>trivial) (λ _=>trivial) (λ _=>trivial) (λ _=>trivial) (λ _ _ _ _ _ _=>trivial) (λ _ _ _=>trivial) (λ _ _ _ _=>trivial) n (λ h r _ q=>c h r q) h
theorem RV.mono(hI:∀ p∈I,p∈I')(hM:∀ (i:Nat) (a:Addr),μ[i]?=some a->μ'[i]?=some a){x:V}(h:RV K tb I μ v x):RV K tb I' μ' v x:=
 RV.rec (motive_1:=λ v x _=>RV K tb I' μ' v x) (motive_2:=λ v x _=>RVs K tb I' μ' v x) .none .bool .int .str (λ h1 h2 h3 _ h4=>.tup (hI _ h1) h2 h3 h4) (λ h1 _ h4=>.tupK h1 h4) (λ h=>.ref (hM _ _ h)) .fn .cls
  (λ h1 h2 h3 h4 h5 h6=>.exc (hI _ h1) h2 h3 h4 h5 (hM _ _ h6)) (λ h1 _ h4=>.clst h1 h4) .cdct .nil (λ _ _ h r=>.cons h r) h
theorem RVs.mono(hI:∀ p∈I,p∈I')(hM:∀ (i:Nat) (a:Addr),μ[i]?=some a->μ'[i]?=some a){v:List Value}{x:List V}(h:RVs K tb I μ v x):RVs K tb I' μ' v x:=
 h.ind .nil λ h _ r=>.cons (h.mono hI hM) r
theorem RVs.length(h:RVs K tb I μ vs xs):vs.length=xs.length:=h.ind (P:=λ vs xs=>vs.length=xs.length) rfl λ _ _ e=>congrArg (·+1) e
theorem RVs.append{ws:List Value}{ys:List V}(h:RVs K tb I μ vs xs)(g:RVs K tb I μ ws ys):RVs K tb I μ (vs++ws) (xs++ys):=h.ind (P:=λ vs xs=>RVs K tb I μ (vs++ws) (xs++ys)) g λ a _ r=>.cons a r
theorem RVs.get(h:RVs K tb I μ vs xs):∀ {i:Nat} {x:V},xs[i]?=some x->∃ v,vs[i]?=some v/\RV K tb I μ v x:=
 h.ind (P:=λ vs xs=>∀ {i:Nat} {x:V},xs[i]?=some x->∃ v,vs[i]?=some v/\RV K tb I μ v x) (λ e=>by cases e) λ {v x vs xs} a _ q i y e=>by
  cases i with
  | zero=>cases e;exact⟨v,rfl,a⟩
  | succ i=>exact q (i:=i) e
theorem RVs.take(h:RVs K tb I μ vs xs):∀ n,RVs K tb I μ (vs.take n) (xs.take n):=
 h.ind (P:=λ vs xs=>∀ n,RVs K tb I μ (vs.take n) (xs.take n)) (λ n=>by rw[List.take_nil,List.take_nil];exact .nil) λ a _ q n=>by
  cases n with
  | zero=>exact .nil
  | succ n=>exact .cons a (q n)
inductive AttR(K:Frag)(tb:Tab)(I:Led)(μ:List Addr):List DictEntry->List (List Nat×V)->Prop
 | nil:AttR K tb I μ [] []
 | cons {e:DictEntry} {t:Tok} {n:List Nat} {v:V} {r:List DictEntry} {q:List (List Nat×V)}:e.key=.str (z0 n) t->RV K tb I μ e.val v->AttR K tb I μ r q->AttR K tb I μ (e::r) ((n,v)::q)
theorem AttR.mono(hI:∀ p∈I,p∈I')(hM:∀ (i:Nat) (a:Addr),μ[i]?=some a->μ'[i]?=some a)(h:AttR K tb I μ es l):AttR K tb I' μ' es l:=
 h.rec (motive:=λ es l _=>AttR K tb I' μ' es l) .nil λ h1 h2 _ r=>.cons h1 (h2.mono hI hM) r
theorem AttR.length(h:AttR K tb I μ es l):es.length=l.length:=h.rec (motive:=λ es l _=>es.length=l.length) rfl λ _ _ _ e=>congrArg (·+1) e
inductive KvR(K:Frag)(tb:Tab)(I:Led)(μ:List Addr):List (Str×Value)->List (List Nat×V)->Prop
 | nil:KvR K tb I μ [] []
 | cons {x:Value} {n:List Nat} {v:V} {r:List (Str×Value)} {q:List (List Nat×V)}:zu n->RV K tb I μ x v->KvR K tb I μ r q->KvR K tb I μ ((z0 n,x)::r) ((n,v)::q)
theorem KvR.mono(hI:∀ p∈I,p∈I')(hM:∀ (i:Nat) (a:Addr),μ[i]?=some a->μ'[i]?=some a){es:List (Str×Value)}(h:KvR K tb I μ es l):KvR K tb I' μ' es l:=
 h.rec (motive:=λ es l _=>KvR K tb I' μ' es l) .nil λ h1 h2 _ r=>.cons h1 (h2.mono hI hM) r
theorem KvR.length{es:List (Str×Value)}(h:KvR K tb I μ es l):es.length=l.length:=h.rec (motive:=λ es l _=>es.length=l.length) rfl λ _ _ _ e=>congrArg (·+1) e
inductive RO(K:Frag)(tb:Tab)(w:World)(I:Led)(μ:List Addr):Addr->Obj->O->Prop
 | lst {a:Addr} {vs:List Value} {l:List V} {n:Nat}:RVs K tb I μ vs l->l.length<2 ^ 21->RO K tb w I μ a {cls:=.type "list",data:=.seq vs.toArray n} (.lst l)
 | dct {a:Addr} {ob:Obj} {kvs:List (Str×Value)} {l:List (List Nat×V)}:(a==sysModules)=false->(a,ob)∈I->ob.IsDictOf (strKind pw w) kvs->KvR K tb I μ kvs l->RO K tb w I μ a ob (.dct l)
 | att {a:Addr} {es:List DictEntry} {l:List (List Nat×V)} {n:Nat}:AttR K tb I μ es l->RO K tb w I μ a {cls:=.type "dict",data:=.dict es.toArray n} (.att l)
 | inst {a:Addr} {k d:Nat} {C D:Addr}:tb.c k=some C->μ[d]?=some D->RO K tb w I μ a {cls:=.ref C,dict:=some D,data:=.plain} (.inst k d)
theorem RO.mono(hI:∀ p∈I,p∈I')(hM:∀ (i:Nat) (a:Addr),μ[i]?=some a->μ'[i]?=some a){a:Addr}{o:O}(h:RO K tb w I μ a ob o):RO K tb w I' μ' a ob o:=by
 cases h with
 | lst h hz=>exact .lst (h.mono hI hM) hz
 | dct hs h0 h1 h5=>exact .dct hs (hI _ h0) h1 (h5.mono hI hM)
 | att h=>exact .att (h.mono hI hM)
 | inst h1 h2=>exact .inst h1 (hM _ _ h2)
inductive ROs(K:Frag)(tb:Tab)(w:World)(I:Led)(μ:List Addr):Led->Hp->Prop
 | nil:ROs K tb w I μ [] []
 | cons {a:Addr} {ob:Obj} {o:O} {M:Led} {H:Hp}:RO K tb w I μ a ob o->ROs K tb w I μ M H->ROs K tb w I μ ((a,ob)::M) (o::H)
theorem ROs.mono(hI:∀ p∈I,p∈I')(hM:∀ (i:Nat) (a:Addr),μ[i]?=some a->μ'[i]?=some a)(h:ROs K tb w I μ M H):ROs K tb w I' μ' M H:=h.rec (motive:=λ M H _=>ROs K tb w I' μ' M H) .nil λ h _ r=>.cons (h.mono hI hM) r
theorem ROs.length(h:ROs K tb w I μ M H):M.length=H.length:=h.rec (motive:=λ M H _=>M.length=H.length) rfl λ _ _ e=>congrArg (·+1) e
theorem ROs.append{N:Led}{G:Hp}(h:ROs K tb w I μ M H)(g:ROs K tb w I μ N G):ROs K tb w I μ (M++N) (H++G):=h.rec (motive:=λ M H _=>ROs K tb w I μ (M++N) (H++G)) g λ a _ r=>.cons a r
theorem ROs.get(h:ROs K tb w I μ M H):∀ {i:Nat} {o:O},H[i]?=some o->∃ a ob,M[i]?=some (a,ob)/\RO K tb w I μ a ob o:=
 h.rec (motive:=λ M H _=>∀ {i:Nat} {o:O},H[i]?=some o->∃ a ob,M[i]?=some (a,ob)/\RO K tb w I μ a ob o) (λ e=>by cases e) λ {a ob o M H} h _ q i y e=>by
  cases i with
  | zero=>cases e;exact⟨a,ob,rfl,h⟩
  | succ i=>exact q (i:=i) e
theorem ROs.set(h:ROs K tb w I μ M H):∀ {i:Nat} {a:Addr} {ob ob':Obj} {o:O},M[i]?=some (a,ob)->RO K tb w I μ a ob' o->ROs K tb w I μ (M.set i (a,ob')) (H.set i o):=
 h.rec (motive:=λ M H _=>∀ {i:Nat} {a:Addr} {ob ob':Obj} {o:O},M[i]?=some (a,ob)->RO K tb w I μ a ob' o->ROs K tb w I μ (M.set i (a,ob')) (H.set i o)) (λ e=>by cases e) λ {_ _ _ _ _} h r q {i _ _ _ _} e g=>by
  cases i with
  | zero=>cases e;exact .cons g r
  | succ i=>exact .cons h (q (i:=i) e g)
theorem ROs.take(h:ROs K tb w I μ M H):∀ n,ROs K tb w I μ (M.take n) (H.take n):=
 h.rec (motive:=λ M H _=>∀ n,ROs K tb w I μ (M.take n) (H.take n)) (λ n=>by rw[List.take_nil,List.take_nil];exact .nil) λ {_ _ _ _ _} a _ q n=>by
  cases n with
  | zero=>exact .nil
  | succ n=>exact .cons a (q n)
abbrev z6(M:Led):List Addr:=M.map (·.1)
noncomputable def Ap(M I:Led)(H:Hp):Prop:=∀ p∈I,p.1∈z6 M->∃ (i:Nat) (l:List (List Nat×V)),M[i]?=some p/\H[i]?=some (O.dct l)
structure St(K:Frag)(tb:Tab)(w:World)(h₀:Heap)(L:Addr)(h:Heap)(m:Str->Option Value)(M I:Led)(H:Hp):Prop where
 F:Fr h₀ L h m
 N:News h₀ L h (M++I)
 nd:(z6 M).Nodup
 ap:Ap M I H
 ro:ROs K tb w I (z6 M) M H
 kin:K.In h₀
 tw:tb.w=w
structure Ext(M I M' I':Led):Prop where
 i:∀ p∈I,p∈I'
 m:∀ (i:Nat) (a:Addr),(z6 M)[i]?=some a->(z6 M')[i]?=some a
theorem Ext.refl(M I:Led):Ext M I M I:=⟨λ _ h=>h,λ _ _ h=>h⟩
theorem Ext.trans{M'' I'':Led}(a:Ext M I M' I')(b:Ext M' I' M'' I''):Ext M I M'' I'':=⟨λ p h=>b.i p (a.i p h),λ i x h=>b.m i x (a.m i x h)⟩
theorem RV.ext(e:Ext M I M' I'){x:V}(h:RV K tb I (z6 M) v x):RV K tb I' (z6 M') v x:=h.mono e.i e.m
theorem RVs.ext(e:Ext M I M' I'){v:List Value}{x:List V}(h:RVs K tb I (z6 M) v x):RVs K tb I' (z6 M') v x:=h.mono e.i e.m
section
variable {w:World}{h₀ h:Heap}{L:Addr}{m:Str->Option Value}{M I:Led}{H:Hp}
theorem Qi{a:Addr}(h:(z6 M)[i]?=some a):∃ ob,M[i]?=some (a,ob):=by
 rw[List.getElem?_map] at h
 obtain⟨⟨b,ob⟩,h1,h2⟩:=om_ h
 cases h2
 exact⟨ob,h1⟩
theorem kd{a:Addr}(h:M[i]?=some (a,ob)):(z6 M)[i]?=some a:=by
 rw[List.getElem?_map,h];rfl
theorem St.obj(S:St K tb w h₀ L h m M I H){a:Addr}{o:O}(hi:(z6 M)[i]?=some a)(ho:H[i]?=some o):∃ ob,M[i]?=some (a,ob)/\h.get? a=some ob/\RO K tb w I (z6 M) a ob o:=by
 obtain⟨a',ob,h1,h2⟩:=S.ro.get ho
 obtain⟨ob',h3⟩:=Qi hi
 rw[h1] at h3
 cases h3
 refine⟨_,h1,(S.N (_,_) (List.mem_append_left _ (List.mem_of_getElem? h1))).1,h2⟩
theorem St.kget(S:St K tb w h₀ L h m M I H){a:Addr}{o:Obj}(e:K.lookup a=some o):h.get? a=some o:=(Frag.In.keeps S.kin S.F.keep) _ _ e
noncomputable def RdOk(h:Heap)(n:Nat)(v:Value)(d:PyData):Prop:=(∃ as,Reads h v d as)/\d.canLay0=true/\d.depth<=n
noncomputable def z1l(h:Heap)(n:Nat)(v:List Value)(d:List PyData):Prop:=(∃ as,ReadsAll h v d as)/\PyData.canLayAll0 d=true/\PyData.depthAll d<=n
theorem WE{n:Nat}{x:V}{d:PyData}(hv:RV K tb I μ v x)(hd:K9 x=some d):RdOk h n v d:=by
 revert hv hd
 cases x<;>intro hv hd<;>first | exact n1 hd | skip
 ·refine RV.eNone hv (so hd λ e=>?_);subst e;exact⟨⟨_,.none⟩,rfl,Nat.zero_le _⟩
 ·refine RV.eBool hv (so hd λ e=>?_);subst e;exact⟨⟨_,.bool _⟩,rfl,Nat.zero_le _⟩
 ·refine RV.eInt hv λ _=>so hd λ e=>?_;subst e;exact⟨⟨_,.int _ _⟩,rfl,Nat.zero_le _⟩
 ·refine RV.eStr hv λ _ g=>so hd λ e=>?_;subst e;exact⟨⟨_,.str _ _⟩,by simpa [PyData.canLay0,PyData.strOk,z0] using g.1,Nat.zero_le _⟩
theorem XW{n:Nat}{f:V->Option PyData}(hf:∀ v x d,RV K tb I μ v x->f x=some d->RdOk h n v d)(hv:RVs K tb I μ vs xs):∀ ds,vX f xs=some ds->z1l h n vs ds:=
 hv.ind (P:=λ vs xs=>∀ ds,vX f xs=some ds->z1l h n vs ds) (λ _ hd=>so hd λ e=>e ▸ ⟨⟨_,.nil⟩,rfl,Nat.zero_le _⟩) λ {v x vs xs} a _ q ds hd=>by
  change vq (f x) (vX f xs)=some ds at hd
  have h1:=hf v x
  revert h1 hd q
  generalize f x=o;generalize vX f xs=os
  intro q hd h1
  cases o with
  | none=>exact n1 hd
  | some d=>cases os with
   | none=>exact n1 hd
   | some ds'=>
    refine so hd λ e=>?_
    subst e
    obtain⟨⟨as,ra⟩,ca,da⟩:=h1 d a rfl
    obtain⟨⟨bs,rb⟩,cb,db⟩:=q _ rfl
    exact⟨⟨_,.cons ra rb⟩,bm_ ⟨ca,cb⟩,Nat.max_le.mpr ⟨da,db⟩⟩
set_option tactic.hygienic true in
theorem St.rd(S:St K tb w h₀ L h m M I H):∀ (n:Nat) (v:Value) (x:V) (d:PyData),RV K tb I (z6 M) v x->toD n H x=some d->RdOk h n v d:=by
 intro n
 induction n with
 | zero=>exact λ v x d hv hd=>WE hv hd
 | succ n ih=>
  intro v x d
  cases x<;>intro hv hd<;>first | exact WE hv hd | skip
  ·rename_i l
   obtain⟨ds,h5,e⟩:=om_ (show(vX (toD n H) l).map PyData.tuple=some d from hd)
   subst e
   obtain⟨a,vs,e,h4,h1⟩:=hv.inv
   obtain⟨⟨as,r⟩,c,dp⟩:=XW ih h4 ds h5
   subst e
   refine⟨?_,c,Nat.succ_le_succ dp⟩
   rcases h1 with ⟨o,k,h1,h2,h3⟩ | ⟨_,_,_,h1⟩
   ·exact⟨_,.tuple (S.N _ (List.mem_append_right _ h1)).1 h2 h3 r⟩
   ·exact⟨_,.tuple (S.kget h1) rfl rfl r⟩
  ·rename_i i
   refine RV.eRef hv λ a hr=>?_
   change YJ (toD n H) H[i]?=some d at hd
   cases ho:H[i]? with
   | none=>rw[ho] at hd;exact n1 hd
   | some o=>
    rw[ho] at hd
    cases o<;>first | exact n1 hd | skip
    rename_i l
    obtain⟨ds,h5,e⟩:=om_ (show(vX (toD n H) l).map PyData.list=some d from hd)
    subst e
    obtain⟨ob,_,hg,hro⟩:=S.obj hr ho
    cases hro with
    | lst hl _=>
     obtain⟨⟨as,r⟩,c,dp⟩:=XW ih hl ds h5
     exact⟨⟨_,.list hg rfl rfl r⟩,c,Nat.succ_le_succ dp⟩
theorem St.reads(S:St K tb w h₀ L h m M I H){n:Nat}{x:V}{d:PyData}(hv:RV K tb I (z6 M) v x)(hd:toD n H x=some d):(∃ as,Reads h v d as)/\d.canLay0=true/\d.depth<=n:=S.rd n v x d hv hd
theorem St.readss(S:St K tb w h₀ L h m M I H){n:Nat}{ds:List PyData}(hv:RVs K tb I (z6 M) vs xs)(hd:jp n H xs=some ds):(∃ as,ReadsAll h vs ds as)/\PyData.canLayAll0 ds=true/\PyData.depthAll ds<=n:=XW (S.rd n) hv ds hd
end
end
local macro_rules (kind:=Lean.Parser.Tactic.cases)
 | s=>
  let t:=zj (zj s 1) 0
  let f:=λ(n:String) k=>(ZI n).map λ n=>KC n (zj t 1) k
  if jA (zj t 0)&&jA (zj s 3) then pure (Wm (f "RV.eInt" 1++f "RV.eStr RV.eRef RV.eFn RV.eCls RVs.eCons" 2++f "RV.eNone RV.eBool RVs.eNil" 0++[z1h])) else Lean.Macro.throwUnsupported
structure Cx where
 w:World
 A₀:Around
 base:Heap
 outer:List Env
 h₀:Heap
 L:Addr
 qual:Str
 scope:Scope
 fa:Addr
 cd:Value
 cl:List (Str×Addr)
abbrev Cx.env(c:Cx):Env:=envX c.qual c.scope c.L c.fa c.cd c.cl
noncomputable def TbOk(B:Heap)(e:Addr)(h:Heap)(vs:Array Value):Prop:=
 vs[1]?=some .none\/(Ex3 λ T oT ts=>A6 (vs[1]?=some (.ref T)) (B.get? T=none) (T≠e) (h.get? T=some oT) (oT.data=.fields ts) (3<ts.size))
noncomputable def QO(B:Heap)(l:List Env)(e C D:Addr)(h:Heap):Prop:=
 A4 (B.StaysIn h) (B.get? e=none) (h.FunFrames B l) (Ex2 λ oe vs=>A7 (h.get? e=some oe) (oe.cls=.ref C) (oe.dict=some D) (oe.data=.fields vs) (2<vs.size) (CtxOk C vs) (TbOk B e h vs))
noncomputable def z13(base h₀:Heap)(L:Addr)(l:List Env)(e C D:Addr)(news:Led)(h:Heap):Prop:=
 ∃ B,base.StaysIn B/\(∀ q∈news,B.get? q.1=some q.2/\h₀.get? q.1=none/\q.1≠L)/\h₀.get? e=none/\QO B l e C D h
noncomputable def Up(h h':Heap):Prop:=h.UpToSlots h'/\∀ b,(h.get? b).isSome=true->(h'.get? b).isSome=true
theorem Up.refl(h:Heap):Up h h:=⟨.refl _,λ _ e=>e⟩
theorem Up.trans{h₁ h₂ h₃:Heap}(x:Up h₁ h₂)(y:Up h₂ h₃):Up h₁ h₃:=⟨x.1.trans y.1,λ b e=>y.2 b (x.2 b e)⟩
theorem Up.of_keeps(k:∀ b o,h.get? b=some o->h'.get? b=some o):Up h h':=⟨.of_keeps k,λ b e=>by
 obtain⟨o,e⟩:=Option.isSome_iff_exists.mp e
 rw[k b o e];rfl⟩
section
variable (K:Frag)(tb:Tab)
noncomputable def XPost(c:Cx)(m:Str->Option Value)(M I:Led)(k d:Nat)(H':Hp)(e:Addr)(h':Heap):Prop:=
 Ex4 λ C D M' I'=>A9 (tb.x k=some C) ((z6 M')[d]?=some D) (h'.Ns c.L m) (Up c.h₀ h') (z13 c.base c.h₀ c.L (c.env::c.outer) e C D (M'++I') h') ((z6 M').Nodup) (Ap M' I' H') (ROs K tb c.w I' (z6 M') M' H') (Ext M I M' I')
noncomputable def Post{α β:Type}(Rel:Led->List Addr->α->β->Prop)(c:Cx)(s:Shared)(m:Str->Option Value)(M I:Led)(r:R β)(Q:α->Shared->Prop)(E:Value->Shared->Prop):Prop:=match r with
 | .ok b H'=>∀ a h' tk M' I',St K tb c.w c.h₀ c.L h' m M' I' H'->Ext M I M' I'->Rel I' (z6 M') a b->Q a {s with heap:=h',toks:=tk}
 | .exc k d H'=>∀ e h' tk,XPost K tb c m M I k d H' e h'->E (.ref e) {s with heap:=h',toks:=tk}
 | .bad=>False
abbrev zU:Led->List Addr->Value->V->Prop:=λ I μ v x=>RV K tb I μ v x
abbrev RelB:Led->List Addr->Bool->Bool->Prop:=λ _ _ a b=>a=b
end
section
variable {K:Frag}{tb:Tab}{c:Cx}{s:Shared}{m:Str->Option Value}{M I:Led}{H:Hp}{E:Value->Shared->Prop}
theorem Post.ext{Rel:Led->List Addr->α->β->Prop}{r:R β}{Q:α->Shared->Prop}{tk:Nat}(x:Ext M I M' I')(p:Post K tb Rel c s m M I r Q E):Post K tb Rel c {s with heap:=h',toks:=tk} m M' I' r Q E:=by
 cases r with
 | ok b H'=>exact λ a h'' tk' M'' I'' S y z=>p a h'' tk' M'' I'' S (x.trans y) z
 | exc k d H'=>
  intro e h'' tk' q
  obtain⟨C,D,M2,I2,q1,q2,q3,q4,q5,q6,q7,q8,q9⟩:=q
  exact p e h'' tk' ⟨C,D,M2,I2,q1,q2,q3,q4,q5,q6,q7,q8,x.trans q9⟩
 | bad=>exact p
theorem Post.bind{γ δ:Type}{Rel:Led->List Addr->α->β->Prop}{Rel2:Led->List Addr->γ->δ->Prop}{r:R β}{k:β->Hp->R δ}{Q:γ->Shared->Prop}{Q1:α->Shared->Prop}(p:Post K tb Rel2 c s m M I (r.bind k) Q E)(h:∀ a b H' h' tk M' I',St K tb c.w c.h₀ c.L h' m M' I' H'->Ext M I M' I'->Rel I' (z6 M') a b->Post K tb Rel2 c {s with heap:=h',toks:=tk} m M' I' (k b H') Q E->Q1 a {s with heap:=h',toks:=tk}) :
  Post K tb Rel c s m M I r Q1 E:=by
 cases r with
 | ok b H'=>exact λ a h' tk M' I' S x z=>h a b H' h' tk M' I' S x z (Post.ext x p)
 | exc k d H'=>exact p
 | bad=>exact p
theorem Post.now{Rel:Led->List Addr->α->β->Prop}{b:β}{Q:α->Shared->Prop}{a:α}(p:Post K tb Rel c s m M I (.ok b H) Q E)(S:St K tb c.w c.h₀ c.L s.heap m M I H)(z:Rel I (z6 M) a b)(tk:Nat):Q a {s with toks:=tk}:=
 p a s.heap tk M I S (.refl _ _) z
theorem Post.now'{Rel:Led->List Addr->α->β->Prop}{b:β}{Q:α->Shared->Prop}{a:α}(p:Post K tb Rel c s m M I (.ok b H) Q E)(S:St K tb c.w c.h₀ c.L s.heap m M I H)(z:Rel I (z6 M) a b):Q a s:=
 p a s.heap s.toks M I S (.refl _ _) z
theorem St.lt(S:St K tb c.w c.h₀ c.L s.heap m M I H):∀ p∈M++I,p.1<s.heap.objs.size:=λ p hp=>Heap.lt_size (S.N p hp).1
theorem St.newI{o:Obj}{a:Addr}(S:St K tb c.w c.h₀ c.L s.heap m M I H)(hn:∀ p∈M++I,p.1≠a)(F:Fr c.h₀ c.L h' m)(N:News c.h₀ c.L h' ((a,o)::(M++I))) :
  St K tb c.w c.h₀ c.L h' m M ((a,o)::I) H/\Ext M I M ((a,o)::I):=by
 refine⟨⟨F,λ p hp=>N p ?_,S.nd,λ p hp hq=>?_,S.ro.mono (λ p hp=>.tail _ hp) λ _ _ h=>h,S.kin,S.tw⟩,λ p hp=>.tail _ hp,λ _ _ h=>h⟩
 ·rcases ma_ hp with q | q
  ·exact .tail _ (List.mem_append_left _ q)
  ·cases q with
   | head=>exact .head _
   | tail _ q=>exact .tail _ (List.mem_append_right _ q)
 ·cases hp with
  | head=>
   obtain⟨p,hp,e⟩:=List.mem_map.mp hq
   exact absurd e (hn p (List.mem_append_left _ hp))
  | tail _ hp=>exact S.ap p hp hq
theorem getElem?_map_append_left{N:Led}{a:Addr}(h:(z6 M)[i]?=some a):(z6 (M++N))[i]?=some a:=by
 unfold z6 at h ⊢
 rw[List.map_append,List.getElem?_append_left (gs_ h).1]
 exact h
theorem St.newM{a:Addr}{o:O}(S:St K tb c.w c.h₀ c.L s.heap m M I H)(hn:∀ p∈M++I,p.1≠a)(F:Fr c.h₀ c.L h' m)(N:News c.h₀ c.L h' ((a,ob)::(M++I)))(ho:RO K tb c.w I (z6 (M++[(a,ob)])) a ob o) :
  St K tb c.w c.h₀ c.L h' m (M++[(a,ob)]) I (H++[o])/\Ext M I (M++[(a,ob)]) I:=by
 have x:Ext M I (M++[(a,ob)]) I:=⟨λ _ h=>h,λ _ _ h=>getElem?_map_append_left h⟩
 refine⟨⟨F,λ p hp=>N p ?_,?_,λ p hp q=>?_,(S.ro.mono x.i x.m).append (.cons ho .nil),S.kin,S.tw⟩,x⟩
 ·rcases ma_ hp with q | q
  ·rcases ma_ q with q | q
   ·exact .tail _ (List.mem_append_left _ q)
   ·cases q with
    | head=>exact .head _
    | tail _ q=>cases q
  ·exact .tail _ (List.mem_append_right _ q)
 ·rw[z6,List.map_append,List.nodup_append]
  refine⟨S.nd,by simp,λ b hb d hd=>?_⟩
  simp only[List.map_cons,List.map_nil,List.mem_singleton] at hd
  subst hd
  obtain⟨p,hp,e⟩:=List.mem_map.mp hb
  exact λ q=>hn p (List.mem_append_left _ hp) (e.trans q)
 ·rw[z6,List.map_append] at q
  rcases ma_ q with q | q
  ·obtain⟨i,l,h1,h2⟩:=S.ap p hp q
   have l1:=(gs_ h1).1
   have l2:=(gs_ h2).1
   exact⟨i,l,by rw[List.getElem?_append_left l1];exact h1,by rw[List.getElem?_append_left l2];exact h2⟩
  ·simp only[List.map_cons,List.map_nil,List.mem_singleton] at q
   exact absurd q (hn p (List.mem_append_right _ hp))
theorem St.len(S:St K tb c.w c.h₀ c.L s.heap m M I H):(z6 M).length=H.length:=by rw[List.length_map];exact S.ro.length
theorem zG{a:Addr}:(z6 (M++[(a,ob)]))[M.length]?=some a:=by
 rw[z6,List.map_append,List.getElem?_append_right (by simp)]
 simp
theorem St.newD{a:Addr}(hsm:(a==sysModules)=false)(S:St K tb c.w c.h₀ c.L s.heap m M I H)(hn:∀ p∈M++I,p.1≠a)(F:Fr c.h₀ c.L h' m)(N:News c.h₀ c.L h' ((a,ob)::(M++I)))(hd:ob.IsDictOf (strKind pw c.w) kvs)(hk:KvR K tb I (z6 M) kvs l) :
  St K tb c.w c.h₀ c.L h' m (M++[(a,ob)]) ((a,ob)::I) (H++[.dct l])/\Ext M I (M++[(a,ob)]) ((a,ob)::I):=by
 have x:Ext M I (M++[(a,ob)]) ((a,ob)::I):=⟨λ _ h=>.tail _ h,λ _ _ h=>getElem?_map_append_left h⟩
 refine⟨⟨F,λ p hp=>N p ?_,?_,λ p hp q=>?_,(S.ro.mono x.i x.m).append (.cons (.dct hsm (.head _) hd (hk.mono x.i x.m)) .nil),S.kin,S.tw⟩,x⟩
 ·rcases ma_ hp with q | q
  ·rcases ma_ q with q | q
   ·exact .tail _ (List.mem_append_left _ q)
   ·cases q with
    | head=>exact .head _
    | tail _ q=>cases q
  ·cases q with
   | head=>exact .head _
   | tail _ q=>exact .tail _ (List.mem_append_right _ q)
 ·rw[z6,List.map_append,List.nodup_append]
  refine⟨S.nd,by simp,λ b hb d hd=>?_⟩
  simp only[List.map_cons,List.map_nil,List.mem_singleton] at hd
  subst hd
  obtain⟨p,hp,e⟩:=List.mem_map.mp hb
  exact λ q=>hn p (List.mem_append_left _ hp) (e.trans q)
 ·have hlen:M.length=H.length:=S.ro.length
  cases hp with
  | head=>exact⟨M.length,l,by simp,by rw[hlen];simp⟩
  | tail _ hp=>
   rw[z6,List.map_append] at q
   rcases ma_ q with q | q
   ·obtain⟨i,l,h1,h2⟩:=S.ap p hp q
    have l1:=(gs_ h1).1
    have l2:=(gs_ h2).1
    exact⟨i,l,by rw[List.getElem?_append_left l1];exact h1,by rw[List.getElem?_append_left l2];exact h2⟩
   ·simp only[List.map_cons,List.map_nil,List.mem_singleton] at q
    exact absurd q (hn p (List.mem_append_right _ hp))
end
section
variable {K:Frag}{tb:Tab}{c:Cx}{A:Around}{s:Shared}{m:Str->Option Value}{M I:Led}{H:Hp}{E:Value->Shared->Prop}
noncomputable def qQ:Bop->Operator
 | .add=>.Add | .sub=>.Sub | .mul=>.Mult | .mod=>.Mod | .pow=>.Pow
theorem vo{a b:List Nat}(x:zu a)(y:zu b)(h:a.length+b.length<2 ^ 20):zu (a++b):=⟨λ c hc=>(ma_ hc).elim (x.1 c) (y.1 c),by simpa using h⟩
theorem yW{a b:List Nat}(x:zu a)(h:∀ c∈b,c∈a)(hl:b.length<=a.length):zu b:=⟨λ c hc=>x.1 c (h c hc),Nat.lt_of_le_of_lt hl x.2⟩
theorem qC(a b:List Nat):z0 a++z0 b=z0 (a++b):=by
 show Str.mk (a.toArray++b.toArray)=Str.mk (a++b).toArray
 rw[List.append_toArray]
theorem zc(a:List Nat):(z0 a).length=a.length:=by show(a.toArray).size=_;simp
theorem qL{n:Nat}(h:n<2 ^ 20):n<=sizeLine:=by rw[sizeLine_eq];omega
set_option tactic.hygienic true in
theorem vb{i:Int}(h:zE i=true):Builtin.Int.intBits i<=64:=by
 unfold zE at h
 have h1:i.natAbs<2 ^ 60:=of_decide_eq_true h
 unfold Builtin.Int.intBits
 split
 ·omega
 ·rename_i h0
  have h2:i.natAbs≠0:=λ q=>h0 (by simp [Int.natAbs_eq_zero.mp q])
  have:=(Nat.log2_lt h2).mpr h1
  omega
end
section
variable {K:Frag}{tb:Tab}{c:Cx}{A:Around}{s:Shared}{m:Str->Option Value}{M I:Led}{H:Hp}{E:Value->Shared->Prop}
theorem RO.lst_inv{a:Addr}{l:List V}(h:RO K tb w I μ a ob (.lst l)):∃ vs n,ob={cls:=.type "list",data:=.seq vs.toArray n}/\RVs K tb I μ vs l/\l.length<2 ^ 21:=by
 cases h with
 | lst h hz=>exact⟨_,_,rfl,h,hz⟩
theorem St.list(S:St K tb c.w c.h₀ c.L s.heap m M I H){a:Addr}{l:List V}(hi:(z6 M)[i]?=some a)(ho:H[i]?=some (.lst l)):∃ vs:List Value,s.heap.IsList a vs.toArray/\RVs K tb I (z6 M) vs l:=by
 obtain⟨ob,h1,h2,h3⟩:=S.obj hi ho
 obtain⟨vs,n,rfl,hv,hz⟩:=h3.lst_inv
 exact⟨vs,⟨_,h2,rfl,n,rfl⟩,hv⟩
theorem St.fit(S:St K tb c.w c.h₀ c.L s.heap m M I H){a:Addr}{l:List V}(hi:(z6 M)[i]?=some a)(ho:H[i]?=some (.lst l)):l.length<2 ^ 21:=by
 obtain⟨ob,h1,h2,h3⟩:=S.obj hi ho
 obtain⟨vs,n,rfl,hv,hz⟩:=h3.lst_inv
 exact hz
theorem x9(S:St K tb c.w c.h₀ c.L s.heap m M I H):∀ p∈M++I,p.1≠s.heap.objs.size:=λ p hp=>Nat.ne_of_lt (S.lt p hp)
set_option tactic.hygienic true in
theorem bopS{k:Bop}{x:V}{a b:Value}(S:St K tb c.w c.h₀ c.L s.heap m M I H)(ha:RV K tb I (z6 M) a x)(hb:RV K tb I (z6 M) b y)(p:Post K tb (zU K tb) c s m M I (xT k x y H) Q E):wpAny (model pw c.w) A (binaryOp (qQ k) a b) Q E s:=by
 have nb:Post K tb (zU K tb) c s m M I (.bad:R V) Q E->False:=id
 cases k with
 | add=>
  cases x<;>first | exact p.elim | skip
  ·rename_i i
   change Post K tb (zU K tb) c s m M I (ii .bad (.int i) y λ a b=>.ok (.int (a+b)) H) Q E at p
   refine ZG (λ r=>Post K tb (zU K tb) c s m M I r Q E) (M:=λ x y=>RV K tb I (z6 M) a x->RV K tb I (z6 M) b y->wpAny (model pw c.w) A (binaryOp (qQ .add) a b) Q E s) p nb (λ i j p ha hb=>?_) ha hb
   cases ha;cases hb;exact PySem.wpAny_add_int (p.now S (.int _ _) _)
  ·rename_i l
   change Post K tb (zU K tb) c s m M I (ss .bad (.str l) y λ a b=>if decide (a.length+b.length<2 ^ 20) then .ok (.str (a++b)) H else .bad) Q E at p
   refine ss_e (λ r=>Post K tb (zU K tb) c s m M I r Q E) (M:=λ x y=>RV K tb I (z6 M) a x->RV K tb I (z6 M) b y->wpAny (model pw c.w) A (binaryOp (qQ .add) a b) Q E s) p nb (λ i j p ha hb=>?_) ha hb
   refine RV.eStr ha λ ta h1=>?_;refine RV.eStr hb λ tb' h2=>?_
   split at p
   ·rename_i hs
    refine PyProof.Rows.add_str (λ t' tk=>?_) (by rw[zc,zc];exact qL (of_decide_eq_true hs))
    rw[qC]
    exact p.now S (.str _ (vo h1 h2 (of_decide_eq_true hs))) _
   ·exact p.elim
  ·cases y<;>first | exact p.elim | skip
   rename_i i1 i2
   refine RV.eRef ha λ _ h1=>?_;refine RV.eRef hb λ _ h2=>?_
   cases o1:H[i1]? with
   | none=>simp only[xT,o1] at p;exact p.elim
   | some ob1=>
   cases ob1<;>first | (simp only[xT,o1] at p;exact p.elim) | skip
   cases o2:H[i2]? with
   | none=>simp only[xT,o1,o2] at p;exact p.elim
   | some ob2=>
   cases ob2<;>first | (simp only[xT,o1,o2] at p;exact p.elim) | skip
   rename_i l1 l2
   simp only[xT,o1,o2] at p
   split at p
   ·rename_i hs
    obtain⟨vs,i1,r1⟩:=S.list h1 o1
    obtain⟨ws,i2,r2⟩:=S.list h2 o2
    refine PyProof.Rows.add_arrays S.F S.N i1 i2 (λ h' F' N'=>?_) (by
     have:=r1.length;have:=r2.length
     simp only[List.size_toArray]
     exact qL (by have:=of_decide_eq_true hs;omega))
    have hlast:=zG (M:=M) (a:=s.heap.objs.size) (ob:={cls:=.type "list",data:=.seq (vs.toArray.toList++ws.toArray.toList).toArray})
    obtain⟨S',x⟩:=S.newM (o:=.lst (l1++l2)) (x9 S) F' N' (.lst (by
     have e:Ext M I (M++[(s.heap.objs.size,({cls:=.type "list",data:=.seq (vs.toArray.toList++ws.toArray.toList).toArray}:Obj))]) I:=⟨λ _ h=>h,λ _ _ h=>getElem?_map_append_left h⟩
     simpa using (r1.append r2).ext e) (by have:=of_decide_eq_true hs;rw[List.length_append];omega))
    refine p (.ref s.heap.objs.size) h' s.toks _ _ S' x (.ref ?_)
    rw[←S.ro.length]
    exact hlast
   ·exact p.elim
 | pow=>exact p.elim
 | sub=>
  refine ZG (λ r=>Post K tb (zU K tb) c s m M I r Q E) (M:=λ x y=>RV K tb I (z6 M) a x->RV K tb I (z6 M) b y->wpAny (model pw c.w) A (binaryOp (qQ .sub) a b) Q E s) p nb (λ i j p ha hb=>?_) ha hb
  cases ha;cases hb;exact PyProof.Rows.sub_int (p.now S (.int _ _) _)
 | mul=>
  refine ZG (λ r=>Post K tb (zU K tb) c s m M I r Q E) (M:=λ x y=>RV K tb I (z6 M) a x->RV K tb I (z6 M) b y->wpAny (model pw c.w) A (binaryOp (qQ .mul) a b) Q E s) p nb (λ i j p ha hb=>?_) ha hb
  cases ha;cases hb
  split at p
  ·rename_i hs
   exact PyProof.Rows.mul_int (p.now S (.int _ _) _) ((Bool.or_eq_true_iff.mp hs).elim (λ h=>IntMulOk.of_left (vb h)) λ h=>IntMulOk.of_right (vb h))
  ·exact p.elim
 | mod=>
  refine ZG (λ r=>Post K tb (zU K tb) c s m M I r Q E) (M:=λ x y=>RV K tb I (z6 M) a x->RV K tb I (z6 M) b y->wpAny (model pw c.w) A (binaryOp (qQ .mod) a b) Q E s) p nb (λ i j p ha hb=>?_) ha hb
  cases ha;cases hb
  split at p
  ·rename_i hs
   have h0:=of_decide_eq_true hs
   refine PyProof.Rows.mod_int' (by omega) ?_
   rw[Int.fmod_eq_emod_of_nonneg _ (by omega)]
   exact p.now S (.int _ _) _
  ·exact p.elim
noncomputable def wo:Cop->CmpOp
 | .eq=>.Eq | .ne=>.NotEq | .lt=>.Lt | .le=>.LtE | .gt=>.Gt | .ge=>.GtE | .is_=>.Is | .isnot=>.IsNot | .in_=>.In | .notin=>.NotIn
theorem ke(x y:List Nat):(z0 x==z0 y)=(x==y):=by
 rw[Bool.eq_iff_iff,beq_iff_eq,beq_iff_eq]
 constructor
 ·intro h
  have:=congrArg (λ z:Str=>z.cps.toList) h
  simpa [z0] using this
 ·intro h;rw[h]
theorem YS{x:V}(e:eqV H x y=some r):∃ d1 d2,toD 4 H x=some d1/\toD 4 H y=some d2/\PyData.eqv d1 d2=r:=by
 have base:eqD H x y=some r->∃ d1 d2,toD 4 H x=some d1/\toD 4 H y=some d2/\PyData.eqv d1 d2=r:=λ e=>by
  cases h1:toD 4 H x with
  | none=>simp only[eqD,h1] at e;cases e
  | some d1=>
   cases h2:toD 4 H y with
   | none=>simp only[eqD,h1,h2] at e;cases e
   | some d2=>simp only[eqD,h1,h2] at e;exact⟨d1,d2,rfl,rfl,Option.some.inj e⟩
 cases x<;>first | exact base e | (cases y<;>first | exact base e | exact⟨_,_,ye ..,ye ..,(ke _ _).trans (Option.some.inj e)⟩)
theorem eqS{x:V}{a b:Value}(hu:A.units+8<cLine)(S:St K tb c.w c.h₀ c.L s.heap m M I H)(ha:RV K tb I (z6 M) a x)(hb:RV K tb I (z6 M) b y)(e:eqV H x y=some r)(q:Q (.bool r) s):wpAny (model pw c.w) A (compareOp .Eq a b) Q E s:=by
 obtain⟨d1,d2,h1,h2,rfl⟩:=YS e
 obtain⟨⟨as,r1⟩,c1,p1⟩:=S.reads ha h1
 obtain⟨⟨bs,r2⟩,c2,p2⟩:=S.reads hb h2
 exact SeqAt.compareEq_reads r1 r2 c1 c2 (by omega) q
theorem neS{x:V}{a b:Value}(hu:A.units+8<cLine)(S:St K tb c.w c.h₀ c.L s.heap m M I H)(ha:RV K tb I (z6 M) a x)(hb:RV K tb I (z6 M) b y)(e:eqV H x y=some r)(q:Q (.bool (!r)) s):wpAny (model pw c.w) A (compareOp .NotEq a b) Q E s:=by
 obtain⟨d1,d2,h1,h2,rfl⟩:=YS e
 obtain⟨⟨as,r1⟩,c1,p1⟩:=S.reads ha h1
 obtain⟨⟨bs,r2⟩,c2,p2⟩:=S.reads hb h2
 exact SeqAt.compareNe_reads r1 r2 c1 c2 (by omega) q
end
section
variable {K:Frag}{tb:Tab}{c:Cx}{A:Around}{s:Shared}{m:Str->Option Value}{M I:Led}{H:Hp}{E:Value->Shared->Prop}
theorem St.toks(S:St K tb c.w c.h₀ c.L s.heap m M I H)(tk:Nat):St K tb c.w c.h₀ c.L ({s with toks:=tk}:Shared).heap m M I H:=S
theorem RO.dct_inv{a:Addr}(h:RO K tb w I μ a ob (.dct l)):∃ kvs,ob.IsDictOf (strKind pw w) kvs/\KvR K tb I μ kvs l:=by
 cases h with
 | dct _ _ h h'=>exact⟨_,h,h'⟩
theorem St.dict(S:St K tb c.w c.h₀ c.L s.heap m M I H){a:Addr}(hi:(z6 M)[i]?=some a)(ho:H[i]?=some (.dct l)):∃ kvs,Heap.DictOf (strKind pw c.w) s.heap a kvs/\KvR K tb I (z6 M) kvs l:=by
 obtain⟨ob,h1,h2,h3⟩:=S.obj hi ho
 obtain⟨kvs,q,hv⟩:=h3.dct_inv
 exact⟨kvs,Heap.dictOf_iff.mpr ⟨_,h2,q⟩,hv⟩
theorem St.dictSys(S:St K tb c.w c.h₀ c.L s.heap m M I H){a:Addr}(hi:(z6 M)[i]?=some a)(ho:H[i]?=some (.dct l)):(a==sysModules)=false:=by
 obtain⟨ob,h1,h2,h3⟩:=S.obj hi ho
 cases h3 with
 | dct h _ _ _=>exact h
theorem KvR.look(h:KvR K tb I μ kvs l)(x:List Nat):((Ex2 λ v y=>A4 (valueAt kvs (z0 x)=some v) (l.lookup x=some y) (RV K tb I μ v y) ((l.any λ p=>p.1==x)=true)))\/(valueAt kvs (z0 x)=none/\l.lookup x=none/\(l.any λ p=>p.1==x)=false):=by
 induction h with
 | nil=>exact .inr ⟨rfl,rfl,rfl⟩
 | @cons u n v r q h1 h2 r' ih=>
  by_cases e:n=x
  ·subst e
   refine .inl ⟨u,v,?_,by simp [List.lookup],h2,by simp⟩
   simp [valueAt]
  ·have e':(z0 n=z0 x)=False:=by
    refine eq_false λ q=>e ?_
    have:=congrArg (λ z:Str=>z.cps.toList) q
    simpa [z0] using this
   have hx:(x==n)=false:=by simpa using λ q=>e q.symm
   have hn:(n==x)=false:=by simpa using e
   have hv:valueAt ((z0 n,u)::r) (z0 x)=valueAt r (z0 x):=by
    simp [valueAt,e']
   have hl:List.lookup x ((n,v)::q)=List.lookup x q:=by simp [List.lookup,hx]
   have ha:(((n,v)::q).any λ p=>p.1==x)=q.any λ p=>p.1==x:=by simp [hn]
   rw[hv,hl,ha]
   exact ih
abbrev inP(b:Bool):CmpOp:=match b with | true=>.NotIn | false=>.In
abbrev SysK(K:Frag):Prop:=∃ a o,1<a/\K.lookup a=some o
set_option tactic.hygienic true in
theorem inS{x:V}{a b:Value}(ng:Bool)(hu:A.units+8<cLine)(hk:SysK K)(S:St K tb c.w c.h₀ c.L s.heap m M I H)(ha:RV K tb I (z6 M) a x)(hb:RV K tb I (z6 M) b y)(e:inV H x y=some r)(q:∀ tk,Q (.bool (ng ^^ r)) {s with toks:=tk}):wpAny (model pw c.w) A (compareOp (inP ng) a b) Q E s:=by
 have q0:Q (.bool (ng ^^ r)) s:=q s.toks
 revert ha hb e
 cases y<;>intro ha hb e<;>first | exact n1 e | skip
 ·rename_i v
  obtain⟨t,e1,e2⟩:=Option.bind_eq_some_iff.mp (show(str? x).bind (in1 v)=some r from e)
  obtain⟨u,e3,e4⟩:=JX e2
  cases str?_inv e1
  subst e3 e4
  refine RV.eStr ha λ ta hx=>RV.eStr hb λ tb' hy=>?_
  have hf:=StrLaws.found_one (z0 v) u
  have h2:z0 [u]=({cps:=#[u]}:Str):=rfl
  have h3:(decide (u∈(z0 v).cps.toList))=v.contains u:=by
   rw[Bool.eq_iff_iff,decide_eq_true_iff];simp [z0]
  rw[h3] at hf
  cases ng
  ·refine PyProof.Rows.in_str ?_
   rw[h2,hf];simpa using q0
  ·refine PyProof.Rows.notIn_str ?_
   rw[h2,hf];simpa using q0
 ·rename_i l
  obtain⟨d,ds,h1,h2,h4⟩:=WV e
  obtain⟨⟨as,r1⟩,c1,p1⟩:=S.reads ha h1
  obtain⟨⟨bs,r2⟩,c2,p2⟩:=S.reads (n:=4) (d:=.tuple ds) hb (congrArg (Option.map PyData.tuple) h2)
  have p1':=Nat.min_le_right (PyData.depthAll ds) d.depth
  cases ng
  ·exact SeqAt.in_tuple_reads r2 r1 c2 c1 (by omega) (by simpa [h4] using q0)
  ·exact SeqAt.notIn_tuple_reads r2 r1 c2 c1 (by omega) (by simpa [h4] using q0)
 ·rename_i i
  change inO H x H[i]?=some r at e
  cases ho:H[i]? with
  | none=>rw[ho] at e;exact n1 e
  | some ob=>
  rw[ho] at e
  cases ob<;>first | exact n1 e | skip
  ·rename_i l
   obtain⟨d,ds,h1,h2,h4⟩:=WV e
   obtain⟨⟨as,r1⟩,c1,p1⟩:=S.reads ha h1
   obtain⟨⟨bs,r2⟩,c2,p2⟩:=S.reads (n:=4) (d:=.list ds) hb (by rw[xL,ho];exact congrArg (Option.map PyData.list) h2)
   have p1':=Nat.min_le_right (PyData.depthAll ds) d.depth
   cases ng
   ·exact SeqAt.in_list_reads r2 r1 c2 c1 (by omega) (by simpa [h4] using q0)
   ·exact SeqAt.notIn_list_reads r2 r1 c2 c1 (by omega) (by simpa [h4] using q0)
  ·rename_i l
   obtain⟨u,e1,e2⟩:=om_ (show(str? x).map _=some r from e)
   cases str?_inv e1
   subst e2
   refine RV.eStr ha λ ta hx=>RV.eRef hb λ a' hi=>?_
   obtain⟨kvs,hd,hv⟩:=S.dict hi ho
   have hne:(a'==sysModules)=false:=S.dictSys hi ho
   have hr:(valueAt kvs (z0 u)).isSome=(l.any λ p=>p.1==u):=by
    rcases hv.look u with ⟨v,y,h1,_,_,h2⟩ | ⟨h1,_,h2⟩
    ·rw[h1,h2];rfl
    ·rw[h1,h2];rfl
   cases ng
   ·refine wpAny_in_of (strKind_is pw c.w (z0 u) ta) hne hd.mapOf ?_
    rw[hr];simpa using q _
   ·refine wpAny_notIn_of (strKind_is pw c.w (z0 u) ta) hne hd.mapOf ?_
    rw[hr];simpa using q _
theorem z2G{x y u v:List Nat}{i:Decidable (y<x)}{j:Decidable (v<u)}(e1:y=v)(e2:x=u)(q:Q (.bool (!@decide _ j)) s):Q (.bool (!@decide _ i)) s:=by
 subst e1 e2
 have:i=j:=Subsingleton.elim _ _
 subst this
 exact q
theorem RV.none_inv{a:Value}(h:RV K tb I μ a .none):a=.none:=by cases h;rfl
set_option tactic.hygienic true in
theorem XO{k:Cop}{x:V}{a b:Value}(hu:A.units+8<cLine)(hk:SysK K)(S:St K tb c.w c.h₀ c.L s.heap m M I H)(ha:RV K tb I (z6 M) a x)(hb:RV K tb I (z6 M) b y)(e:zd k x y H=some r)(q:∀ tk,Q (.bool r) {s with toks:=tk}):wpAny (model pw c.w) A (compareOp (wo k) a b) Q E s:=by
 have q0:Q (.bool r) s:=q s.toks
 have nn:∀ {f:Option Bool},f=some r->f=none->False:=λ h g=>by rw[g] at h;cases h
 have no {o:Option Bool} (h:onNo y o=some r):y=.none/\o=some r:=by cases y<;>first | exact⟨rfl,h⟩ | cases h
 have isn {x:V} {r:Bool} (ha:RV K tb I (z6 M) a x) (h:isN_ x=some r):(a==Value.none)=r:=by
  cases ha<;>first | (cases h;rfl) | cases h
 cases k with
 | eq=>exact eqS hu S ha hb e q0
 | ne=>
  obtain⟨r',h1,rfl⟩:=om_ e
  exact neS hu S ha hb h1 q0
 | lt=>exact ZG (λ o=>o=some r) (M:=λ x y=>RV K tb I (z6 M) a x->RV K tb I (z6 M) b y->wpAny (model pw c.w) A (compareOp (wo .lt) a b) Q E s) e (λ g=>by cases g) (λ i j e ha hb=>by cases ha;cases hb;cases e;exact PyProof.Rows.lt_int q0) ha hb
 | gt=>exact ZG (λ o=>o=some r) (M:=λ x y=>RV K tb I (z6 M) a x->RV K tb I (z6 M) b y->wpAny (model pw c.w) A (compareOp (wo .gt) a b) Q E s) e (λ g=>by cases g) (λ i j e ha hb=>by cases ha;cases hb;cases e;exact PyProof.Rows.gt_int q0) ha hb
 | ge=>exact ZG (λ o=>o=some r) (M:=λ x y=>RV K tb I (z6 M) a x->RV K tb I (z6 M) b y->wpAny (model pw c.w) A (compareOp (wo .ge) a b) Q E s) e (λ g=>by cases g) (λ i j e ha hb=>by cases ha;cases hb;cases e;exact PyProof.Rows.ge_int q0) ha hb
 | le=>
  have g1:∀ {x y:V} {a:Value},ii none x y (λ a b=>some (decide (a<=b)))=some r->RV K tb I (z6 M) a x->RV K tb I (z6 M) b y->wpAny (model pw c.w) A (compareOp (wo .le) a b) Q E s:=λ e ha hb=>
   ZG (λ o=>o=some r) (M:=λ x y=>RV K tb I (z6 M) _ x->RV K tb I (z6 M) b y->wpAny (model pw c.w) A (compareOp (wo .le) _ b) Q E s) e (λ g=>by cases g) (λ i j e ha hb=>by cases ha;cases hb;cases e;exact PyProof.Rows.le_int q0) ha hb
  have g2:∀ {x y:V} {a:Value},ss none x y (λ a b=>some (!decide (b<a)))=some r->RV K tb I (z6 M) a x->RV K tb I (z6 M) b y->wpAny (model pw c.w) A (compareOp (wo .le) a b) Q E s:=λ e ha hb=>
   ss_e (λ o=>o=some r) (M:=λ x y=>RV K tb I (z6 M) _ x->RV K tb I (z6 M) b y->wpAny (model pw c.w) A (compareOp (wo .le) _ b) Q E s) e (λ g=>by cases g) (λ i j e ha hb=>by cases ha;cases hb;cases e;exact PySem.P.le_str (z2G (by simp [z0]) (by simp [z0]) q0)) ha hb
  cases x<;>first | cases e;done | skip
  ·rename_i i;exact g1 (x:=.int i) (y:=y) e ha hb
  ·rename_i l;exact g2 (x:=.str l) (y:=y) e ha hb
 | is_=>
  obtain⟨rfl,e⟩:=no e
  cases hb.none_inv
  refine PySem.is_none ?_
  rw[isn ha e];exact q0
 | isnot=>
  obtain⟨rfl,e⟩:=no e
  obtain⟨r',h1,rfl⟩:=om_ e
  cases hb.none_inv
  refine PySem.isNot_none ?_
  rw[isn ha h1];exact q0
 | in_=>exact inS false hu hk S ha hb e (by simpa using q)
 | notin=>
  obtain⟨r',h1,rfl⟩:=om_ e
  exact inS true hu hk S ha hb h1 (by simpa using q)
set_option tactic.hygienic true in
theorem truS{x:V}{a:Value}{Q:Bool->Shared->Prop}(S:St K tb c.w c.h₀ c.L s.heap m M I H)(ha:RV K tb I (z6 M) a x)(e:w9 H x=some r)(q:∀ tk,Q r {s with toks:=tk}):wpAny (model pw c.w) A (truthy a) Q E s:=by
 unfold w9 at e
 split at e
 ·cases e;have:=ha.none_inv;subst this;exact PyProof.Rows.truthy_none (q s.toks)
 ·cases e;cases ha;exact wpAny_truthy_bool (q s.toks)
 ·split at e
  ·rename_i i l ho
   cases e
   refine RV.eRef ha λ _ hi=>?_
   obtain⟨vs,hl,hv⟩:=S.list hi ho
   have hz:=S.fit hi ho
   refine wpAny_truthy_list hl (by have:=hv.length;simp only[List.size_toArray];omega) ?_
   have:vs.toArray.isEmpty=l.isEmpty:=by
    have:=hv.length
    cases vs<;>cases l<;>simp_all
   rw[this]
   exact q _
  ·cases e
 ·cases e
end
section
variable {K:Frag}{tb:Tab}{c:Cx}{A:Around}{s:Shared}{m:Str->Option Value}{M I:Led}{H:Hp}{E:Value->Shared->Prop}
theorem z1c{j:Int}{l:List α}{x:α}(h0:0<=j)(h:l[j.toNat]?=some x):(if (decide (0<=j)&&decide (j<(l.length:Nat)))=true then some j.toNat else none)=some j.toNat:=
 if_pos (bm_ ⟨decide_eq_true h0,decide_eq_true ((Int.toNat_lt h0).mp (gs_ h).1)⟩)
theorem at?_seq{l:List α}{i:Int}{x:α}(h:at? l i=some x):∃ j,seqIndex? i l.length=some j/\l[j]?=some x:=by
 rw[at?_if] at h
 show ∃ j,(if (decide (0<=if i<0 then i+(l.length:Int) else i)&&decide ((if i<0 then i+(l.length:Int) else i)<(l.length:Nat)))=true then some (if i<0 then i+(l.length:Int) else i).toNat else none)=some j/\_
 by_cases hi:i<0
 ·rw[if_pos hi] at h ⊢
  by_cases h0:0<=i+l.length
  ·rw[if_pos h0] at h;exact⟨_,z1c h0 h,h⟩
  ·rw[if_neg h0] at h;exact n1 h
 ·rw[if_neg hi] at h ⊢
  exact⟨_,z1c (Int.not_lt.mp hi) h,h⟩
theorem qr{i:Int}{n:Nat}(h:seqIndex? i n=some j)(hn:n<2 ^ 62):-(2 ^ 63)<=i/\i<2 ^ 63:=by
 have h:(if (decide (0<=if i<0 then i+(n:Int) else i)&&decide ((if i<0 then i+(n:Int) else i)<(n:Int)))=true then some (if i<0 then i+(n:Int) else i).toNat else none)=some j:=h
 have hn:(n:Int)<2 ^ 62:=by clear h;omega
 by_cases hg:(decide (0<=if i<0 then i+(n:Int) else i)&&decide ((if i<0 then i+(n:Int) else i)<(n:Int)))=true
 ·clear h
  have h0:=of_decide_eq_true (V.beqB hg).1
  have h1:=of_decide_eq_true (V.beqB hg).2
  clear hg
  by_cases hi:i<0
  ·rw[if_pos hi] at h0
   clear h1
   constructor<;>omega
  ·rw[if_neg hi] at h1
   clear h0
   constructor<;>omega
 ·rw[if_neg hg] at h;exact n1 h
theorem Yv{i:Int}(h:zE i=true):-(2 ^ 63)<=i/\i<2 ^ 63:=by
 have h:=Int.ofNat_lt.mpr (of_decide_eq_true h)
 exact⟨Int.neg_le_of_neg_le (Int.le_trans (Int.natAbs_neg i ▸ Int.le_natAbs) (Int.le_trans (Int.le_of_lt h) (by decide))),Int.lt_of_le_of_lt Int.le_natAbs (Int.lt_trans h (by decide))⟩
set_option tactic.hygienic true in
theorem RVs.at?{l:List V}(h:RVs K tb I μ vs l){i:Int}{x:V}(e:at? l i=some x):∃ v,Mine.at? vs i=some v/\RV K tb I μ v x:=by
 have hn:=h.length
 rw[at?_if] at e ⊢
 rw[hn]
 split at e<;>rename_i hi
 ·rw[if_pos hi]
  split at e<;>rename_i h0
  ·rw[if_pos h0];exact h.get e
  ·cases e
 ·rw[if_neg hi];exact h.get e
theorem wh{slice value:Expr}{o i:Value}{T id:String}(hT:s.TypeIs o T)(hl:typeLookup (.type T) "__getitem__"=pure (some (.builtin id)))(h:wpAny (model pw c.w) A (getItem o i) Q E s)(hs:subscripted slice false o i=operate [o,i] (getItem o i)) :
  wpAny (model pw c.w) A (subscriptTail value slice o i) Q E s:=by
 have fin:wpAny (model pw c.w) A (subscripted slice false o i) (λ r t=>wpAny (model pw c.w) A (letTemporaryGo value o r >>= λ _=>pure r) Q E t) E s:=by
  rw[hs]
  exact wpAny_operating (wpAny_mono h (λ r t q=>wpAny_bind (wpAny_letTemporaryGo (wpAny_pure q))) λ _ _ x=>x)
 unfold subscriptTail
 refine wpAny_bind ?_
 rw[getitemInPython_of_ne hT.not_modules]
 refine wpAny_bind (wpAny_specialOf hT hl ?_)
 first
  | exact wpAny_pure (wpAny_bind fin)
  | exact wpAny_bind (wpAny_pure (wpAny_bind fin))
  | exact wpAny_bind fin
theorem xF{l:List Nat}{x:Nat}(h:zu l)(hx:x∈l):zu [x]:=by
 refine⟨λ c hc=>?_,by simp⟩
 rw[List.mem_singleton] at hc
 subst hc
 exact h.1 _ hx
set_option tactic.hygienic true in
theorem idxS{slice value:Expr}{x z:V}{a b:Value}(hsl:∀ o i,subscripted slice false o i=operate [o,i] (getItem o i))(S:St K tb c.w c.h₀ c.L s.heap m M I H)(ha:RV K tb I (z6 M) a x)(hb:RV K tb I (z6 M) b y)(e:zC H x y=some z)(q:∀ v tk,RV K tb I (z6 M) v z->Q v {s with toks:=tk}):wpAny (model pw c.w) A (subscriptTail value slice a b) Q E s:=by
 cases x<;>first | cases e;done | skip
 ·rename_i l
  cases y<;>first | cases e;done | skip
  rename_i i
  obtain⟨ch,h1,rfl⟩:=om_ e
  refine RV.eStr ha λ ta hx=>?_
  refine RV.eInt hb λ tb'=>?_
  obtain⟨j,h2,h3⟩:=at?_seq h1
  obtain⟨b1,b2⟩:=qr h2 (by have:=hx.2;omega)
  refine wh (typeIs_str _ _ _) F.slot_str_getitem.lookup ?_ (hsl _ _)
  refine PySem.P.getItem_str (c:=ch) (by simp;omega) ?_ (q _ _ (.str _ (xF hx (List.mem_of_getElem? h3))))
  rw[zc,h2]
  simpa [z0] using h3
 ·rename_i l
  cases y<;>first | cases e;done | skip
  rename_i i
  change (if zE i then at? l i else none)=some z at e
  split at e
  ·rename_i hsm
   obtain⟨j,h2,h3⟩:=at?_seq e
   obtain⟨b1,b2⟩:=Yv hsm
   refine RV.eInt hb λ tb'=>?_
   have fin:∀ {t:Addr} {items:Array Value},IsTup s.heap t items->RVs K tb I (z6 M) items.toList l->wpAny (model pw c.w) A (subscriptTail value slice (.ref t) (.int i tb')) Q E s:=by
    intro t items ht hv
    obtain⟨v,h4,h5⟩:=hv.get h3
    have hn:items.size=l.length:=by rw[←hv.length];simp
    exact wh ht.typeIs slot_tuple_getitem.lookup (getItem_tuple ht b1 b2 (by rw[hn];exact h2) (by simpa using h4) (q v s.toks h5)) (hsl _ _)
   cases ha with
   | tup g1 g2 g3 g4=>exact fin ⟨_,(S.N _ (List.mem_append_right _ g1)).1,g2,_,g3⟩ g4
   | tupK g1 g4=>exact fin ⟨_,S.kget g1,rfl,_,rfl⟩ (by simpa using g4)
  ·cases e
 ·rename_i i
  cases y<;>first | cases e;done | skip
  ·rename_i k
   change (match H[i]? with | some (.lst l)=>at? l k | _=>none)=some z at e
   split at e
   ·rename_i l ho
    refine RV.eRef ha λ _ hi=>?_
    refine RV.eInt hb λ tb'=>?_
    obtain⟨vs,hl,hv⟩:=S.list hi ho
    have hz:=S.fit hi ho
    obtain⟨v,h4,h5⟩:=hv.at? e
    obtain⟨j,h2,h3⟩:=at?_seq h4
    have hn:=hv.length
    obtain⟨b1,b2⟩:=qr h2 (by omega)
    refine wh hl.typeIs slot_list_getitem.lookup ?_ (hsl _ _)
    rw[at?_if] at h4
    split at h4
    ·rename_i hneg
     split at h4
     ·exact wpAny_getItem_list_neg hl hneg (by simp;omega) b1 (by simpa using h4) (q v s.toks h5)
     ·cases h4
    ·exact wpAny_getItem_list hl (by omega) b2 (by simpa using h4) (q v s.toks h5)
   ·cases e
  ·rename_i k
   change (match H[i]? with | some (.dct l)=>l.lookup k | _=>none)=some z at e
   split at e
   ·rename_i l ho
    refine RV.eRef ha λ _ hi=>?_
    refine RV.eStr hb λ tb' hx=>?_
    obtain⟨kvs,hd,hv⟩:=S.dict hi ho
    rcases hv.look k with ⟨v,y,h1,h2,h3,_⟩ | ⟨_,h2,_⟩
    ·rw[e] at h2
     cases h2
     exact wh hd.typeIs slot_dict_getitem.lookup (wpAny_getItem_of (strKind_is pw c.w (z0 k) tb') hd.mapOf h1 (q v _ h3)) (hsl _ _)
    ·rw[e] at h2;cases h2
   ·cases e
 ·rename_i l
  cases y<;>first | cases e;done | skip
  rename_i i
  change (if decide (l.length<2 ^ 20) then at? l i else none)=some z at e
  split at e
  ·rename_i hsz
   have hz:=of_decide_eq_true hsz
   refine RV.eClst ha λ g1 hv=>?_
   refine RV.eInt hb λ tb'=>?_
   rename_i a' d' vs n' sl'
   have hl:s.heap.IsList a' vs.toArray:=⟨_,S.kget g1,rfl,_,rfl⟩
   obtain⟨v,h4,h5⟩:=hv.at? e
   obtain⟨j,h2,h3⟩:=at?_seq h4
   have hn:=hv.length
   obtain⟨b1,b2⟩:=qr h2 (by omega)
   refine wh hl.typeIs slot_list_getitem.lookup ?_ (hsl _ _)
   rw[at?_if] at h4
   split at h4
   ·rename_i hneg
    split at h4
    ·exact wpAny_getItem_list_neg hl hneg (by simp;omega) b1 (by simpa using h4) (q v s.toks h5)
    ·cases h4
   ·exact wpAny_getItem_list hl (by omega) b2 (by simpa using h4) (q v s.toks h5)
  ·cases e
theorem jT(n:Nat)(lo hi:Option Int):Builtin.Str.strSliceIndices lo hi 1 n=(List.range ((hi.map (adj n)).getD n-(lo.map (adj n)).getD 0)).map ((lo.map (adj n)).getD 0+·):=by
 have h1:∀ (v:Option Int) (d:Nat),(match v with
  | none=>(d:Int)
  | some i=>if (1:Int)>0 then max 0 (min (if i<0 then i+(n:Int) else i) n) else max (-1) (min (if i<0 then i+(n:Int) else i) (n-1)))=(((v.map (adj n)).getD d:Nat):Int):=by
  intro v d
  cases v with
  | none=>rfl
  | some i=>
   simp only[Option.map_some,Option.getD_some]
   rw[if_pos (by decide),z0a]
 have e1:=h1 lo 0
 have e2:=h1 hi n
 have e3:=(congr (congrArg (λ u v=>sliceRange u v 1) e1) e2).trans (sliceRange_one _ _)
 refine Eq.trans ?_ e3
 unfold Builtin.Str.strSliceIndices
 dsimp only
 rw[if_pos (show(1:Int)>0 by decide),if_pos (show(1:Int)>0 by decide)]
 cases lo<;>cases hi<;>rfl
theorem YQ(n:Nat)(v:Option Int)(d:Nat)(hd:d<=n):(v.map (adj n)).getD d<=n:=by
 cases v with
 | none=>exact hd
 | some i=>exact z3q _ _
theorem Xu(x:List Nat)(lo hi:Option Int):((Builtin.Str.strSliceIndices lo hi 1 x.length).filterMap (x.toArray[·]?))=(x.take ((hi.map (adj x.length)).getD x.length)).drop ((lo.map (adj x.length)).getD 0):=by
 rw[jT]
 rcases Nat.lt_or_ge ((lo.map (adj x.length)).getD 0) ((hi.map (adj x.length)).getD x.length) with hlt | hge
 ·have:=StrLaws.picks x ((hi.map (adj x.length)).getD x.length-(lo.map (adj x.length)).getD 0) ((lo.map (adj x.length)).getD 0) (by rw[Nat.add_sub_cancel' (Nat.le_of_lt hlt)];exact YQ x.length hi x.length (Nat.le_refl _))
  simp only[List.getElem?_toArray]
  rw[this,List.drop_take]
 ·rw[Nat.sub_eq_zero_of_le hge,List.drop_eq_nil_of_le (Nat.le_trans (List.length_take_le _ _) hge)]
  rfl
theorem YU{a b n:Nat}(h:a-b=n)(h2:a<=n)(h0:0<n):a=n/\b=0:=by
 have e:a=n:=Nat.le_antisymm h2 (h ▸ Nat.sub_le a b)
 subst e
 exact⟨rfl,(Nat.eq_zero_or_pos b).elim id λ hb=>absurd h (Nat.ne_of_lt (Nat.sub_lt h0 hb))⟩
theorem X6(x:List Nat)(lo hi:Option Int)(h:(Builtin.Str.strSliceIndices lo hi 1 x.length).length=x.length):(x.take ((hi.map (adj x.length)).getD x.length)).drop ((lo.map (adj x.length)).getD 0)=x:=by
 rw[jT,List.length_map,List.length_range] at h
 have h2:=YQ x.length hi x.length (Nat.le_refl _)
 rcases Nat.eq_zero_or_pos x.length with h0 | h0
 ·have:x=[]:=List.length_eq_zero_iff.mp h0
  subst this
  rw[List.take_nil,List.drop_nil]
 ·rw[(YU h h2 h0).1,(YU h h2 h0).2,List.take_length,List.drop_zero]
end
structure Cok(K:Frag)(hd:Bool)(n k:Nat)(c:Cx)(A:Around):Prop where
 B:Below c.A₀ c.base c.outer c.h₀
 hA:A.frames=some (c.env::c.outer)
 Tb:(Ex5 λ p l mean mg mb=>Top p l mean mg mb c.base)
 kb:K.In c.base
 fk:c.scope.kind=.function
 hh:hd=false->A.handled=none
 dp:A.depth+8*n+k<recursionLimit
 un:A.units+64*n+8*k<cLine
theorem Cok.T{K:Frag}{hd:Bool}{n:Nat}(C:Cok K hd n k c A):(Ex5 λ p l mean mg mb=>Top p l mean mg mb c.h₀):=by
 obtain⟨p,l,mean,mg,mb,T⟩:=C.Tb
 exact⟨p,l,mean,mg,mb,T.keeps C.B.stays⟩
structure Fi where
 ns:List Str
 sc:Scope
noncomputable def LR(K:Frag)(tb:Tab)(ns:List Str)(m:Str->Option Value)(I:Led)(μ:List Addr)(L:Lc):Prop:=
 ∀ (i:Nat) (x:V),L[i]?=some (some x)->∃ n v,ns[i]?=some n/\m n=some v/\RV K tb I μ v x
structure Amb(K:Frag)(tb:Tab)(G:Nat->Option V)(gn:Nat->Option Str):Prop where
 sys:SysK K
 g:∀ (i:Nat) (x:V) (n:Str),gn i=some n->G i=some x->∃ v,nsIn K mainGlobals n=some (some v)/\∀ I μ,RV K tb I μ v x
 b:∀ n:Str,n∈(["len","ord","max","int","range"]:List Str)->nsIn K mainGlobals n=some none
 fk:∀ k a,tb.f k=some a->keepIn K (.ref a)=true
section
variable (K:Frag)(tb:Tab)(G:Nat->Option V)(gn:Nat->Option Str)(F:Fn)(hd:Bool)(n:Nat)(fi:Fi)
abbrev zy(Q:Value->Shared->Prop)(E:Value->Shared->Prop):Result->Shared->Prop:=λ r s'=>match r with | .ok (.ret v)=>Q v s' | .ok _=>False | .error e=>E e s'
noncomputable def Xf:Prop:=∀ (k:Nat) (a:Addr) (xs:List V) (vs:List Value) (c:Cx) (A:Around) (s:Shared) (m:Str->Option Value) (M I:Led) (H:Hp) (Q:Value->Shared->Prop) (X:Value->Shared->Prop),
 tb.f k=some a->Cok K false n 4 c A->1<=s.toks->St K tb c.w c.h₀ c.L s.heap m M I H->RVs K tb I (z6 M) vs xs->Post K tb (zU K tb) c s m M I (F k xs H) Q X->codeAny (model pw c.w) A (.call (.ref a) ⟨vs,[]⟩) (zy Q X) s
noncomputable def SEp(e:E)(t:Expr):Prop:=∀ (c:Cx) (A:Around) (s:Shared) (m:Str->Option Value) (M I:Led) (L:Lc) (H:Hp) (Q:Value->Shared->Prop) (X:Value->Shared->Prop),
 Cok K hd n 8 c A->c.scope=fi.sc->1<=s.toks->St K tb c.w c.h₀ c.L s.heap m M I H->LR K tb fi.ns m I (z6 M) L->Post K tb (zU K tb) c s m M I (evE G F e L H) Q X->wpAny (model pw c.w) A (eval t c.env) Q X s
noncomputable def SLp(e:E)(ts:List Expr):Prop:=∀ (c:Cx) (A:Around) (s:Shared) (m:Str->Option Value) (M I:Led) (L:Lc) (H:Hp) (pos:Pos) (Q:List Value->Shared->Prop) (X:Value->Shared->Prop),
 Cok K hd n 8 c A->c.scope=fi.sc->1<=s.toks->St K tb c.w c.h₀ c.L s.heap m M I H->LR K tb fi.ns m I (z6 M) L->Post K tb (λ I μ a b=>RVs K tb I μ a b) c s m M I (evL G F e L H) Q X->wpAny (model pw c.w) A (spliced (backTo pos (starEach ts c.env))) Q X s
noncomputable def STp(e:E)(t:Expr):Prop:=∀ (c:Cx) (A:Around) (s:Shared) (m:Str->Option Value) (M I:Led) (L:Lc) (H:Hp) (Q:Bool->Shared->Prop) (X:Value->Shared->Prop),
 Cok K hd n 8 c A->c.scope=fi.sc->1<=s.toks->St K tb c.w c.h₀ c.L s.heap m M I H->LR K tb fi.ns m I (z6 M) L->Post K tb RelB c s m M I (evT G F e L H) Q X->wpAny (model pw c.w) A (isTrue t c.env (eval t c.env)) Q X s
end
section
variable {K:Frag}{tb:Tab}{G:Nat->Option V}{gn:Nat->Option Str}{F:Fn}{hd:Bool}{n:Nat}{fi:Fi}
theorem LR.ext{ns:List Str}(h:LR K tb ns m I (z6 M) L)(x:Ext M I M' I'):LR K tb ns m I' (z6 M') L:=λ i v e=>by
 obtain⟨nm,u,h1,h2,h3⟩:=h i v e
 exact⟨nm,u,h1,h2,h3.ext x⟩
theorem wp1{M:Model}{s:Shared}{t:Sem α}{Q:α->Shared->Prop}{n:Nat}(hn:n<=s.toks)(h:wpAny M A t (λ a s'=>n<=s'.toks->Q a s') X s):wpAny M A t Q X s:=
 wpAny_with_toks hn (wpAny_mono h (λ _ _ x=>x) λ _ _ x _=>x)
noncomputable def yw(fi:Fi)(i:Nat)(x:Str):Bool:=fi.ns[i]?==some x&&decide (fi.sc.names.lookup x=some .local)&&!(x==("__debug__":Str))
theorem z2S{x:Str}(h:yw fi i x=true):SEp K tb G F hd n fi (.loc i) (.Name x pos):=by
 intro c A s m M I L H Q X C hs ht S LL p
 simp only[yw,Bool.and_eq_true,beq_iff_eq,decide_eq_true_eq,Bool.not_eq_true'] at h
 obtain⟨⟨h1,h2⟩,h3⟩:=h
 change Post K tb (zU K tb) c s m M I (Vc H L[i]?) Q X at p
 cases hv:L[i]? with
 | none=>rw[hv] at p;exact p.elim
 | some o=>
  rw[hv] at p
  cases o with
  | none=>exact p.elim
  | some v=>
   obtain⟨nm,u,q1,q2,q3⟩:=LL i v hv
   refine so (h1.symm.trans q1) λ e=>?_;subst e
   exact nameX_L S.F q2 (p.now' S q3) C.fk (by show c.scope.names.lookup _=_;rw[hs];exact h2) h3
noncomputable def jQ(gn:Nat->Option Str)(fi:Fi)(i:Nat)(x:Str):Bool:=gn i==some x&&decide (fi.sc.names.lookup x=some .globalImplicit)&&!(x==("__debug__":Str))
theorem z24{x:Str}(W:Amb K tb G gn)(h:jQ gn fi i x=true):SEp K tb G F hd n fi (.glb i) (.Name x pos):=by
 intro c A s m M I L H Q X C hs ht S LL p
 simp only[jQ,Bool.and_eq_true,beq_iff_eq,decide_eq_true_eq,Bool.not_eq_true'] at h
 obtain⟨⟨h1,h2⟩,h3⟩:=h
 obtain⟨pp,l,mean,mg,mb,T⟩:=C.T
 change Post K tb (zU K tb) c s m M I (lift H (G i)) Q X at p
 cases hg:G i with
 | none=>rw[hg] at p;exact p.elim
 | some y=>
  rw[hg] at p
  obtain⟨v,q1,q2⟩:=W.g i y x h1 hg
  exact nameX_K S.F S.kin (topRead_of T) q1 (p.now' S (q2 _ _)) C.fk (by show c.scope.names.lookup _=_;rw[hs];exact h2) h3
theorem KZ:SEp K tb G F hd n fi (.cst .none) (.Constant .none k pos):=by
 intro c A s m M I L H Q X C hs ht S LL p
 exact wpAny_Constant_none (p.now' S .none)
theorem JN{b:Bool}:SEp K tb G F hd n fi (.cst (.bool b)) (.Constant (.bool b) k pos):=by
 intro c A s m M I L H Q X C hs ht S LL p
 exact wpAny_Constant_bool (p.now' S (.bool b))
theorem z2x{b:Int}:SEp K tb G F hd n fi (.cst (.int b)) (.Constant (.int b) k pos):=by
 intro c A s m M I L H Q X C hs ht S LL p
 exact wpAny_Constant_int (p.now S (.int b _) _)
theorem z1F{b:List Nat}(h:zu b):SEp K tb G F hd n fi (.cst (.str b)) (.Constant (.str (z0 b)) k pos):=by
 intro c A s m M I L H Q X C hs ht S LL p
 exact wpAny_Constant_str (p.now S (.str _ h) _)
theorem z1R{k:Bop}{a b:E}{l r:Expr}(ha:SEp K tb G F hd n fi a l)(hb:SEp K tb G F hd n fi b r):SEp K tb G F hd n fi (.bop k a b) (.BinOp l (qQ k) r pos):=by
 intro c A s m M I L H Q X C hs ht S LL p
 refine wpAny_BinOp (wp1 ht (ha c A s m M I L H _ _ C hs ht S LL (p.bind λ u x H' h' tk M' I' S' e z p' ht'=>?_)))
 refine wp1 ht' (hb c A _ m M' I' L H' _ _ C hs ht' S' (LL.ext e) (p'.bind λ v y H'' h'' tk' M'' I'' S'' e' z' p'' ht''=>?_))
 exact bopS S'' (z.ext e') z' p''
theorem un8(C:Cok K hd n 8 c A):A.units+8<cLine:=by have:=C.un;omega
theorem kZ{op:CmpOp}{r:Expr}(h:∀ e k p,r≠.Set e k p):behindInMarks op r=false:=by
 cases r<;>first | rfl | exact absurd rfl (h _ _ _)
theorem z20{k:Cop}{a b:E}{l r:Expr}(W:Amb K tb G gn)(hr:∀ e k p,r≠.Set e k p)(ha:SEp K tb G F hd n fi a l)(hb:SEp K tb G F hd n fi b r):SEp K tb G F hd n fi (.cmp k a b) (.Compare l [wo k] [r] pos):=by
 intro c A s m M I L H Q X C hs ht S LL p
 refine wpAny_Compare1 (wp1 ht (ha c A s m M I L H _ _ C hs ht S LL (p.bind λ u x H' h' tk M' I' S' e z p' ht'=>?_))) (kZ hr)
 refine wp1 ht' (hb c A _ m M' I' L H' _ _ C hs ht' S' (LL.ext e) (p'.bind λ v y H'' h'' tk' M'' I'' S'' e' z' p'' ht''=>?_))
 cases hc:zd k x y H'' with
 | none=>rw[hc] at p'';exact p''.elim
 | some b=>
  rw[hc] at p''
  exact XO (un8 C) W.sys S'' (z.ext e') z' hc λ tk=>p''.now S'' (.bool b) tk
theorem z2g{k:Cop}{a b:E}{l r:Expr}(W:Amb K tb G gn)(hr:∀ e k p,r≠.Set e k p)(ha:SEp K tb G F hd n fi a l)(hb:SEp K tb G F hd n fi b r):STp K tb G F hd n fi (.cmp k a b) (.Compare l [wo k] [r] pos):=by
 intro c A s m M I L H Q X C hs ht S LL p
 refine wpAny_isTrue_Compare1 (wp1 ht (ha c A s m M I L H _ _ C hs ht S LL (p.bind λ u x H' h' tk M' I' S' e z p' ht'=>?_))) (kZ hr)
 refine wp1 ht' (hb c A _ m M' I' L H' _ _ C hs ht' S' (LL.ext e) (p'.bind λ v y H'' h'' tk' M'' I'' S'' e' z' p'' ht''=>?_))
 cases hc:zd k x y H'' with
 | none=>rw[hc] at p'';exact p''.elim
 | some b=>
  rw[hc] at p''
  exact XO (un8 C) W.sys S'' (z.ext e') z' hc λ tk=>wpAny_truthy_bool (p''.now S'' rfl tk)
theorem z2u{a:E}{l:Expr}(ha:SEp K tb G F hd n fi a l):SEp K tb G F hd n fi (.neg a) (.UnaryOp .USub l pos):=by
 intro c A s m M I L H Q X C hs ht S LL p
 refine wpAny_UnaryOp (wp1 ht (ha c A s m M I L H _ _ C hs ht S LL (p.bind λ u x H' h' tk M' I' S' e z p' ht'=>?_)))
 split at p'
 ·cases z
  exact PyProof.Rows.neg_int (p'.now S' (.int _ _) _)
 ·exact p'.elim
theorem z2n{a:E}{l:Expr}(ha:SEp K tb G F hd n fi a l):SEp K tb G F hd n fi (.not_ a) (.UnaryOp .Not l pos):=by
 intro c A s m M I L H Q X C hs ht S LL p
 refine wpAny_UnaryOp (wp1 ht (ha c A s m M I L H _ _ C hs ht S LL (p.bind λ u x H' h' tk M' I' S' e z p' ht'=>?_)))
 cases hc:w9 H' x with
 | none=>rw[hc] at p';exact p'.elim
 | some b=>
  rw[hc] at p'
  exact not_value (truS S' z hc λ tk=>p'.now S' (.bool _) tk)
theorem z2o{a:E}{l:Expr}(ha:STp K tb G F hd n fi a l):STp K tb G F hd n fi (.not_ a) (.UnaryOp .Not l pos):=by
 intro c A s m M I L H Q X C hs ht S LL p
 refine wpAny_isTrue_Not (wp1 ht (ha c A s m M I L H _ _ C hs ht S LL (p.bind λ u x H' h' tk M' I' S' e z p' ht'=>?_)))
 cases z
 exact p'.now' S' rfl
theorem Yc{e:E}(hv:∀ L H,evT G F e L H=(evE G F e L H).bind λ x H=>lift H (w9 H x))(hp:∀ env whole,isTrue t env whole=(do let v ←whole;standAt t.pos;holding [v] (truthy v)))(he:SEp K tb G F hd n fi e t):STp K tb G F hd n fi e t:=by
 intro c A s m M I L H Q X C hs ht S LL p
 rw[hv] at p
 refine wpAny_isTrue_value (wp1 ht (he c A s m M I L H _ _ C hs ht S LL (p.bind λ u x H' h' tk M' I' S' e' z p' ht'=>?_))) (hp _ _)
 cases hc:w9 H' x with
 | none=>rw[hc] at p';exact p'.elim
 | some b=>
  rw[hc] at p'
  exact truS S' z hc λ tk=>p'.now S' rfl tk
theorem z2W{x a b:E}{l r:Expr}(hx:STp K tb G F hd n fi x t)(ha:SEp K tb G F hd n fi a l)(hb:SEp K tb G F hd n fi b r):SEp K tb G F hd n fi (.ite x a b) (.IfExp t l r pos):=by
 intro c A s m M I L H Q X C hs ht S LL p
 refine wpAny_IfExp (wp1 ht (hx c A s m M I L H _ _ C hs ht S LL (p.bind λ u y H' h' tk M' I' S' e z p' ht'=>?_)))
 cases z
 cases u
 ·exact hb c A _ m M' I' L H' _ _ C hs ht' S' (LL.ext e) p'
 ·exact ha c A _ m M' I' L H' _ _ C hs ht' S' (LL.ext e) p'
theorem z2p:SLp K tb G F hd n fi .nil []:=by
 intro c A s m M I L H pos Q X C hs ht S LL p
 exact Calls.spliced_nil (p.now' S .nil)
theorem zH{env:Env}(h:∀ e p,t≠.Starred e p):backTo pos (starEach (t::ts) env)=(false,eval t env)::backTo pos (starEach ts env):=by
 cases t<;>first | rfl | exact absurd rfl (h _ _)
theorem JH{a r:E}(hn:∀ e p,t≠.Starred e p)(ha:SEp K tb G F hd n fi a t)(hr:SLp K tb G F hd n fi r ts):SLp K tb G F hd n fi (.cons a r) (t::ts):=by
 intro c A s m M I L H pos Q X C hs ht S LL p
 rw[zH hn]
 refine Calls.spliced_cons (wp1 ht (ha c A s m M I L H _ _ C hs ht S LL (p.bind λ u x H' h' tk M' I' S' e z p' ht'=>?_)))
 refine hr c A _ m M' I' L H' pos _ _ C hs ht' S' (LL.ext e) (p'.bind λ v y H'' h'' tk' M'' I'' S'' e' z' p''=>?_)
 exact p''.now' S'' (.cons (z.ext e') z')
theorem z38{a b:E}{l r:Expr}(hsl:∀ o i,subscripted r false o i=operate [o,i] (getItem o i))(ha:SEp K tb G F hd n fi a l)(hb:SEp K tb G F hd n fi b r):SEp K tb G F hd n fi (.idx a b) (.Subscript l r pos):=by
 intro c A s m M I L H Q X C hs ht S LL p
 refine Subscript_ (wp1 ht (ha c A s m M I L H _ _ C hs ht S LL (p.bind λ u x H' h' tk M' I' S' e z p' ht'=>?_)))
 refine wp1 ht' (hb c A _ m M' I' L H' _ _ C hs ht' S' (LL.ext e) (p'.bind λ v y H'' h'' tk' M'' I'' S'' e' z' p'' ht''=>?_))
 cases hc:zC H'' x y with
 | none=>rw[hc] at p'';exact p''.elim
 | some b=>
  rw[hc] at p''
  exact idxS hsl S'' (z.ext e') z' hc λ v tk hv=>p''.now S'' hv tk
set_option tactic.hygienic true in
theorem z25{as:E}(h:SLp K tb G F hd n fi as ts):SEp K tb G F hd n fi (.tup as) (.Tuple ts k pos):=by
 intro c A s m M I L H Q X C hs ht S LL p
 refine wpAny_Tuple (wp1 ht (h c A s m M I L H _ _ _ C hs ht S LL (p.bind λ vs x H' h' tk M' I' S' e z p' ht'=>?_)))
 change Post K tb (zU K tb) c {s with heap:=h',toks:=tk} m M' I' (if decide (x.length<100) then _ else _) _ _ at p'
 split at p'
 ·rename_i hz
  have hz':=of_decide_eq_true hz
  refine⟨by have:=z.length;rw[sizeLine_eq];omega,?_⟩
  obtain⟨S2,e2⟩:=St.newI (s:={s with heap:=h',toks:=tk}) (o:={cls:=.type "tuple",data:=.seq vs.toArray}) S' (x9 (s:={s with heap:=h',toks:=tk}) S') (Fr.push S'.F _) (News.push S'.F S'.N {cls:=.type "tuple",data:=.seq vs.toArray})
  exact p' _ _ tk _ _ S2 e2 (.tup (.head _) rfl rfl (by simpa using z.ext e2))
 ·exact p'.elim
set_option tactic.hygienic true in
theorem z2N{as:E}(h:SLp K tb G F hd n fi as ts):SEp K tb G F hd n fi (.lst as) (.List ts pos):=by
 intro c A s m M I L H Q X C hs ht S LL p
 refine wpAny_List (wp1 ht (h c A s m M I L H _ _ _ C hs ht S LL (p.bind λ vs x H' h' tk M' I' S' e z p' ht'=>?_)))
 change Post K tb (zU K tb) c {s with heap:=h',toks:=tk} m M' I' (if decide (x.length<100) then _ else _) _ _ at p'
 split at p'
 ·rename_i hz
  have hz':=of_decide_eq_true hz
  refine⟨by have:=z.length;rw[sizeLine_eq];omega,?_⟩
  have xe:Ext M' I' (M'++[(h'.objs.size,{cls:=.type "list",data:=.seq vs.toArray})]) I':=⟨λ _ h=>h,λ _ _ h=>getElem?_map_append_left h⟩
  obtain⟨S2,e2⟩:=St.newM (s:={s with heap:=h',toks:=tk}) (ob:={cls:=.type "list",data:=.seq vs.toArray}) (o:=.lst x) S' (x9 (s:={s with heap:=h',toks:=tk}) S') (Fr.push S'.F _) (News.push S'.F S'.N {cls:=.type "list",data:=.seq vs.toArray}) (RO.lst (z.ext xe) (by omega))
  refine p' _ _ tk _ _ S2 e2 (.ref ?_)
  rw[←S'.ro.length]
  exact zG
 ·exact p'.elim
end
section
variable (K:Frag)(tb:Tab)(G:Nat->Option V)(F:Fn)(hd:Bool)(n:Nat)(fi:Fi)
noncomputable def SBp(op:BoolOp)(e:E)(ts:List Expr):Prop:=∀ (c:Cx) (A:Around) (s:Shared) (m:Str->Option Value) (M I:Led) (L:Lc) (H:Hp) (pos:Pos) (Q:Value->Shared->Prop) (X:Value->Shared->Prop),
 Cok K hd n 8 c A->c.scope=fi.sc->1<=s.toks->St K tb c.w c.h₀ c.L s.heap m M I H->LR K tb fi.ns m I (z6 M) L->Post K tb (zU K tb) c s m M I (evE G F e L H) Q X->wpAny (model pw c.w) A (boolOp pos op (evalEach ts c.env)) Q X s
noncomputable def SWp(op:BoolOp)(e:E)(ts:List Expr):Prop:=∀ (c:Cx) (A:Around) (s:Shared) (m:Str->Option Value) (M I:Led) (L:Lc) (H:Hp) (Q:Bool->Shared->Prop) (X:Value->Shared->Prop),
 Cok K hd n 8 c A->c.scope=fi.sc->1<=s.toks->St K tb c.w c.h₀ c.L s.heap m M I H->LR K tb fi.ns m I (z6 M) L->Post K tb RelB c s m M I (evT G F e L H) Q X->wpAny (model pw c.w) A (allTrue op ts c.env) Q X s
end
section
variable {K:Frag}{tb:Tab}{G:Nat->Option V}{gn:Nat->Option Str}{F:Fn}{hd:Bool}{n:Nat}{fi:Fi}
theorem z3f{op:BoolOp}{e:E}(h:SEp K tb G F hd n fi e t):SBp K tb G F hd n fi op e [t]:=by
 intro c A s m M I L H pos Q X C hs ht S LL p
 exact h c A s m M I L H Q X C hs ht S LL p
theorem z2M{a b:E}{u:Expr}(ha:SEp K tb G F hd n fi a t)(hb:SBp K tb G F hd n fi .And b (u::ts)):SBp K tb G F hd n fi .And (.and_ a b) (t::u::ts):=by
 intro c A s m M I L H pos Q X C hs ht S LL p
 show wpAny (model pw c.w) A (do
  let v ←eval t c.env
  standAt pos
  let b ←holding [v] (truthy v)
  match BoolOp.And,b with
  | .And,false | .Or,true=>pure v
  | _,_=>boolOp pos BoolOp.And (evalEach (u::ts) c.env)) Q X s
 refine wpAny_bind (wp1 ht (ha c A s m M I L H _ _ C hs ht S LL (p.bind λ v x H' h' tk M' I' S' e z p' ht'=>?_)))
 split at p'
 ·cases z
  exact wpAny_bind (wpAny_standAt (wpAny_bind (wpAny_holding (wpAny_truthy_bool (hb c A _ m M' I' L H' pos _ _ C hs ht' S' (LL.ext e) p')))))
 ·cases z
  exact wpAny_bind (wpAny_standAt (wpAny_bind (wpAny_holding (wpAny_truthy_bool (wpAny_pure (p'.now' S' (.bool false)))))))
 ·exact p'.elim
theorem sb_or{a b:E}{u:Expr}(ha:SEp K tb G F hd n fi a t)(hb:SBp K tb G F hd n fi .Or b (u::ts)):SBp K tb G F hd n fi .Or (.or_ a b) (t::u::ts):=by
 intro c A s m M I L H pos Q X C hs ht S LL p
 show wpAny (model pw c.w) A (do
  let v ←eval t c.env
  standAt pos
  let b ←holding [v] (truthy v)
  match BoolOp.Or,b with
  | .And,false | .Or,true=>pure v
  | _,_=>boolOp pos BoolOp.Or (evalEach (u::ts) c.env)) Q X s
 refine wpAny_bind (wp1 ht (ha c A s m M I L H _ _ C hs ht S LL (p.bind λ v x H' h' tk M' I' S' e z p' ht'=>?_)))
 split at p'
 ·cases z
  exact wpAny_bind (wpAny_standAt (wpAny_bind (wpAny_holding (wpAny_truthy_bool (wpAny_pure (p'.now' S' (.bool true)))))))
 ·cases z
  exact wpAny_bind (wpAny_standAt (wpAny_bind (wpAny_holding (wpAny_truthy_bool (hb c A _ m M' I' L H' pos _ _ C hs ht' S' (LL.ext e) p')))))
 ·exact p'.elim
theorem jU{op:BoolOp}{e:E}(h:SBp K tb G F hd n fi op e ts):SEp K tb G F hd n fi e (.BoolOp op ts pos):=by
 intro c A s m M I L H Q X C hs ht S LL p
 rw[arm_eval_BoolOp]
 exact h c A s m M I L H pos Q X C hs ht S LL p
theorem XI{e:E}(h:STp K tb G F hd n fi e t):SWp K tb G F hd n fi .And e [t]:=by
 intro c A s m M I L H Q X C hs ht S LL p
 refine wpAny_allTrue_And_cons (h c A s m M I L H _ X C hs ht S LL ?_)
 cases hr:evT G F e L H with
 | ok b H'=>
  rw[hr] at p
  intro a h' tk M' I' S' x z
  cases z
  cases b
  ·exact p _ h' tk M' I' S' x rfl
  ·exact wpAny_pure (p _ h' tk M' I' S' x rfl)
 | exc=>rw[hr] at p;exact p
 | bad=>rw[hr] at p;exact p
theorem V8{e:E}(h:STp K tb G F hd n fi e t):SWp K tb G F hd n fi .Or e [t]:=by
 intro c A s m M I L H Q X C hs ht S LL p
 refine wpAny_allTrue_Or_cons (h c A s m M I L H _ X C hs ht S LL ?_)
 cases hr:evT G F e L H with
 | ok b H'=>
  rw[hr] at p
  intro a h' tk M' I' S' x z
  cases z
  cases b
  ·exact wpAny_pure (p _ h' tk M' I' S' x rfl)
  ·exact p _ h' tk M' I' S' x rfl
 | exc=>rw[hr] at p;exact p
 | bad=>rw[hr] at p;exact p
theorem z3u{a b:E}(ha:STp K tb G F hd n fi a t)(hb:SWp K tb G F hd n fi .And b ts):SWp K tb G F hd n fi .And (.and_ a b) (t::ts):=by
 intro c A s m M I L H Q X C hs ht S LL p
 refine wpAny_allTrue_And_cons (wp1 ht (ha c A s m M I L H _ X C hs ht S LL (p.bind λ v x H' h' tk M' I' S' e z p' ht'=>?_)))
 cases z
 cases v
 ·exact p'.now' S' rfl
 ·exact hb c A _ m M' I' L H' _ _ C hs ht' S' (LL.ext e) p'
theorem sw_or{a b:E}(ha:STp K tb G F hd n fi a t)(hb:SWp K tb G F hd n fi .Or b ts):SWp K tb G F hd n fi .Or (.or_ a b) (t::ts):=by
 intro c A s m M I L H Q X C hs ht S LL p
 refine wpAny_allTrue_Or_cons (wp1 ht (ha c A s m M I L H _ X C hs ht S LL (p.bind λ v x H' h' tk M' I' S' e z p' ht'=>?_)))
 cases z
 cases v
 ·exact hb c A _ m M' I' L H' _ _ C hs ht' S' (LL.ext e) p'
 ·exact p'.now' S' rfl
theorem jH{op:BoolOp}{e:E}(h:SWp K tb G F hd n fi op e ts):STp K tb G F hd n fi e (.BoolOp op ts pos):=by
 intro c A s m M I L H Q X C hs ht S LL p
 exact h c A s m M I L H Q X C hs ht S LL p
theorem JZ{k₁ k₂:Cop}{a b d:E}{l r:Expr}(W:Amb K tb G gn)(hm:∀ e k p,t≠.Set e k p)(ha:SEp K tb G F hd n fi a l)(hb:SEp K tb G F hd n fi b r)(hc:SEp K tb G F hd n fi d t) :
  STp K tb G F hd n fi (.cmp2 k₁ k₂ a b d) (.Compare l [wo k₁,wo k₂] [r,t] pos):=by
 intro c A s m M I L H Q X C hs ht S LL p
 refine isTrue_chain (rs:=[]) (ops:=[]) (wp1 ht (ha c A s m M I L H _ _ C hs ht S LL (p.bind λ u x H' h' tk M' I' S' e z p' ht'=>?_))) (kZ hm)
 refine test_link (wp1 ht' (hb c A _ m M' I' L H' _ _ C hs ht' S' (LL.ext e) (p'.bind λ v y H'' h'' tk' M'' I'' S'' e' z' p'' ht''=>?_)))
 cases h1:zd k₁ x y H'' with
 | none=>rw[h1] at p'';exact p''.elim
 | some q=>
  rw[h1] at p''
  refine wp1 ht'' (XO (un8 C) W.sys S'' (z.ext e') z' h1 λ tk2 ht2=>wpAny_truthy_bool ?_)
  cases q
  ·exact p''.now S'' rfl tk2
  ·refine test_last (wp1 ht2 (hc c A _ m M'' I'' L H'' _ _ C hs ht2 (S''.toks tk2) ((LL.ext e).ext e') ((Post.ext (tk:=tk2) (h':=h'') (Ext.refl _ _) p'').bind λ w z2 H3 h3 tk3 M3 I3 S3 e3 z3 p3 ht3=>?_)))
   cases h2:zd k₂ y z2 H3 with
   | none=>rw[h2] at p3;exact p3.elim
   | some q=>
    rw[h2] at p3
    exact XO (un8 C) W.sys S3 (z'.ext e3) z3 h2 λ tk4=>wpAny_truthy_bool (p3.now S3 rfl tk4)
noncomputable def biP:Bi->Str×String
 | .len=>("len","len") | .ord=>("ord","ord") | .max=>("max","max")
noncomputable def okBlt(fi:Fi)(x y:Str):Bool:=x==y&&decide (fi.sc.names.lookup x=some .globalImplicit)
theorem yp{f:Expr}{args:List Expr}{env:Env}(h:∀ o n p,f≠.Attribute o n p):eval (.Call f args [] pos) env=(do callWith pos (←eval f env) [] (backTo pos (starEach args env)) []):=by
 cases f<;>first | rfl | exact absurd rfl (h _ _ _)
theorem kv{s:Shared}{x:Str}(W:Amb K tb G gn)(C:Cok K hd n 8 c A)(hs:c.scope=fi.sc)(S:St K tb c.w c.h₀ c.L s.heap m M I H)(hl:fi.sc.names.lookup x=some .globalImplicit)(hx:x∈(["len","ord","max","int","range"]:List Str))(hb:bootBuiltins x=some v)(hn:x≠"__name__")(hdb:(x==("__debug__":Str))=false)(q:Q v s):wpAny (model pw c.w) A (eval (.Name x pos) c.env) Q X s:=by
 obtain⟨pp,l,mean,mg,mb,T⟩:=C.T
 exact nameX_B S.F S.kin (topRead_of T) (W.b x hx) hb hn q C.fk (by show c.scope.names.lookup _=_;rw[hs];exact hl) hdb
theorem noStar:∀ (e:E) (ts:List Expr),True:=λ _ _=>trivial
theorem v5(pos:Pos)(l:List (Bool×Sem Value)):(backTo pos l).any (·.1)=l.any (·.1):=by
 unfold backTo
 rw[List.any_map]
 rfl
noncomputable def star?(t:Expr):Bool:=Nat.beq t.ctorIdx 22
theorem z0F(h:star? t=false):∀ e p,t≠.Starred e p:=λ _ _ q=>tf (show star? (.Starred _ _)=false from q ▸ h)
noncomputable def zt(ts:List Expr):Bool:=ts.all λ t=>!star? t
theorem wH(h:zt (t::ts)=true):(∀ e p,t≠.Starred e p)/\zt ts=true:=
 ⟨z0F (by have h':(!star? t)=true:=(V.beqB h).1;revert h';cases star? t<;>intro h<;>first | rfl | exact ft h),(V.beqB h).2⟩
theorem starE{env:Env}(h:∀ e p,t≠.Starred e p):starEach (t::ts) env=(false,eval t env)::starEach ts env:=by cases t<;>first | rfl | exact absurd rfl (h _ _)
theorem wk{env:Env}(h:zt ts=true):(starEach ts env).any (·.1)=false:=by
 induction ts with
 | nil=>rfl
 | cons t ts ih=>
  rw[starE (wH h).1]
  exact ih (wH h).2
theorem yi{env:Env}{id:String}{s:Shared}{M:Model}(hp:zt (t::ts)=true)(h:wpAny M A (spliced (backTo pos (starEach (t::ts) env))) (λ vs s'=>wpAny M A (call (.builtin id) vs) Q X s') X s):wpAny M A (callWith pos (.builtin id) [] (backTo pos (starEach (t::ts) env)) []) Q X s:=by
 refine Calls.callWith_builtin (by rw[v5];exact wk hp) ?_
 rw[zH (wH hp).1] at h ⊢
 exact Calls.evalArgs_plain h
set_option tactic.hygienic true in
theorem z2P{v r:V}{M:V->V->Prop}(h:lenO v H=some r)(k1:∀ s,M (.str s) (.int s.length))(k2:∀ i l,H[i]?=some (.lst l)->M (.ref i) (.int l.length))(k3:∀ l,l.length<2 ^ 20->M (.clst l) (.int l.length)):M v r:=by
 cases v<;>first | exact n1 h | skip
 ·exact so h λ e=>e ▸ k1 _
 ·rename_i i
  revert h
  show(match H[i]? with | some (.lst l)=>some (V.int l.length) | _=>none)=some r->_
  cases ho:H[i]? with
  | none=>exact λ h=>n1 h
  | some o=>cases o<;>intro h<;>first | exact n1 h | exact so h λ e=>e ▸ k2 _ _ ho
 ·rename_i l
  by_cases hz:decide (l.length<2 ^ 20)=true
  ·exact so ((if_pos hz).symm.trans h) λ e=>e ▸ k3 _ (of_decide_eq_true hz)
  ·exact n1 ((if_neg hz).symm.trans h)
set_option tactic.hygienic true in
theorem Qa{v r:V}(h:ordO v=some r):∃ c:Nat,v=.str [c]/\r=.int c:=by
 cases v<;>first | exact n1 h | skip
 rename_i s
 cases s with
 | nil=>exact n1 h
 | cons c q=>cases q with
  | nil=>exact⟨c,rfl,(Option.some.inj h).symm⟩
  | cons _ _=>exact n1 h
theorem biS{k:Bi}{s:Shared}(hh:A.handled=none)(S:St K tb c.w c.h₀ c.L s.heap m M I H)(z:RVs K tb I (z6 M) vs xs)(p:Post K tb (zU K tb) c s m M I (lift H (biV k xs H)) Q X):wpAny (model pw c.w) A (call (.builtin (biP k).2) vs) Q X s:=by
 cases hb:biV k xs H with
 | none=>rw[hb] at p;exact p.elim
 | some r=>
 rw[hb] at p
 cases xs with
 | nil=>exact n1 hb
 | cons v q=>
 refine RVs.eCons z λ z1 z2=>?_
 cases q with
 | nil=>
  refine RVs.eNil z2 ?_
  cases k with
  | len=>
   refine z2P (M:=λ v r=>RV K tb I (z6 M) _ v->Post K tb (zU K tb) c s m M I (lift H (some r)) Q X->wpAny (model pw c.w) A (call (.builtin (biP .len).2) [_]) Q X s) hb (λ l z1 p=>?_) (λ i l ho z1 p=>?_) (λ l hz z1 p=>?_) z1 p
   ·refine RV.eStr z1 λ t hx=>PyProof.Rows.len_str (by have:=hx.2;rw[zc];omega) ?_
    rw[zc]
    exact p.now S (.int _ _) _
   ·refine RV.eRef z1 λ a' hi=>?_
    obtain⟨ws,hl,hv⟩:=S.list hi ho
    have hz:=S.fit hi ho
    have hn:=hv.length
    refine Calls.call_len_list hl (by simp only[List.size_toArray];omega) ?_
    rw[show((ws.toArray.size:Nat):Int)=(l.length:Int) from congrArg Nat.cast hn]
    exact p.now S (.int _ _) _
   ·refine RV.eClst z1 λ g1 hv=>?_
    have hn:=hv.length
    refine Calls.call_len_list ⟨_,S.kget g1,rfl,_,rfl⟩ (by simp only[List.size_toArray];omega) ?_
    rw[show(((List.toArray _).size:Nat):Int)=(l.length:Int) from congrArg Nat.cast hn]
    exact p.now S (.int _ _) _
  | ord=>
   obtain⟨d,e1,e2⟩:=Qa hb
   subst e1 e2
   exact RV.eStr z1 λ t hx=>PyProof.Rows.ord_of_one (by rfl) (p.now S (.int _ _) _)
  | max=>exact n1 hb
 | cons u q=>
  refine RVs.eCons z2 λ y1 y2=>?_
  cases k with
  | max=>
   cases q with
   | cons=>exact n1 hb
   | nil=>
    refine RVs.eNil y2 ?_
    refine ZG (λ o=>o=some r) (M:=λ v u=>RV K tb I (z6 M) _ v->RV K tb I (z6 M) _ u->wpAny (model pw c.w) A (call (.builtin (biP .max).2) [_,_]) Q X s) hb (λ g=>n1 g) (λ i j e z1 y1=>?_) z1 y1
    refine RV.eInt z1 λ _=>RV.eInt y1 λ _=>PyProof.Rows.max_two_N hh S.F S.N λ h' tk F' N'=>?_
    refine so e λ e=>?_
    subst e
    exact p _ h' tk M I ⟨F',N',S.nd,S.ap,S.ro,S.kin,S.tw⟩ (Ext.refl _ _) (.int _ _)
  | len=>exact n1 hb
  | ord=>exact n1 hb
theorem Y3(k:Bi):bootBuiltins (biP k).1=some (.builtin (biP k).2):=by
 cases k<;>rfl
theorem se_bi{k:Bi}{as:E}(W:Amb K tb G gn)(hh:hd=false)(hl:fi.sc.names.lookup (biP k).1=some .globalImplicit)(hpl:zt (t::ts)=true)(h:SLp K tb G F hd n fi as (t::ts)) :
  SEp K tb G F hd n fi (.bi k as) (.Call (.Name (biP k).1 p1) (t::ts) [] pos):=by
 intro c A s m M I L H Q X C hs ht S LL p
 rw[yp (λ _ _ _ q=>by cases q)]
 refine wpAny_bind (kv W C hs S hl (by cases k<;>decide) (Y3 k) (by cases k<;>decide) (by cases k<;>decide) (yi hpl ?_))
 refine h c A s m M I L H pos _ _ C hs ht S LL (p.bind λ vs x H' h' tk M' I' S' e z p'=>?_)
 exact biS (C.hh hh) S' z p'
set_option tactic.hygienic true in
theorem z05{a:E}(W:Amb K tb G gn)(hl:fi.sc.names.lookup ("int":Str)=some .globalImplicit)(hpl:zt [t]=true)(h:SEp K tb G F hd n fi a t) :
  SEp K tb G F hd n fi (.int_ a) (.Call (.Name "int" p1) [t] [] pos):=by
 intro c A s m M I L H Q X C hs ht S LL p
 have hns:=(wH hpl).1
 rw[yp (λ _ _ _ q=>by cases q)]
 refine wpAny_bind (kv (v:=.type "int") W C hs S hl (by decide) (by rfl) (by decide) (by decide) (callWith_type1 ?_ (by cases t<;>first | rfl | exact absurd rfl (hns _ _)) rfl))
 rw[zH hns]
 refine Calls.spliced_cons (wp1 ht (h c A s m M I L H _ _ C hs ht S LL (p.bind λ v x H' h' tk M' I' S' e z p' ht'=>?_)))
 refine Calls.spliced_nil ?_
 split at p'
 ·split at p'
  ·rename_i l hz
   cases hi:PySem.intText? (z0 l) with
   | none=>rw[hi] at p';exact p'.elim
   | some i=>
    rw[hi] at p'
    cases z
    exact KIN.call_text hi (by rw[zc];have:=of_decide_eq_true hz;omega) (p'.now S' (.int _ _) _)
  ·exact p'.elim
 ·exact p'.elim
end
structure AmbC(K:Frag)(tb:Tab):Prop where
 cl:∀ k C,tb.c k=some C->keepIn K (.ref C)=true/\makesIn K C=true/\∃ fI,findIn K (.ref C) "__init__"=some (some (.ref fI))/\isFn K (.ref fI)=true/\tb.f k=some fI
section
variable {K:Frag}{tb:Tab}{G:Nat->Option V}{gn:Nat->Option Str}{F:Fn}{hd:Bool}{n:Nat}{fi:Fi}
theorem jm{M:Model}{s:Shared}{f:Value}{Q:Args->Shared->Prop}(h:wpAny M A (spliced []) (λ vs s'=>Q ⟨vs,[]⟩ s') X s):wpAny M A (evalArgs f true [] []) Q X s:=by
 unfold evalArgs
 show wpAny M A (spliced [] >>= _) Q X s
 refine wpAny_bind (wpAny_mono h (λ vs t q=>wpAny_bind (wpAny_pure ?_)) λ _ _ x=>x)
 refine wpAny_holding ?_
 exact wpAny_bind (wpAny_pure (wpAny_bind (wpAny_pure (wpAny_pure q))))
theorem jZ{M:Model}{s:Shared}{env:Env}{f:Value}(hk:keepIn K f=true)(hpl:zt ts=true)(h:wpAny M A (spliced (backTo pos (starEach ts env))) (λ vs s'=>K.In s'.heap/\wpAny M A (call f vs) Q X s') X s):wpAny M A (callWith pos f [] (backTo pos (starEach ts env)) []) Q X s:=by
 refine callWith_of (by rw[v5,wk hpl];rfl) (keeps_K hk) ?_
 cases ts with
 | nil=>exact jm h
 | cons t r=>
  rw[zH (wH hpl).1] at h ⊢
  exact Calls.evalArgs_plain h
theorem Cok.under(C:Cok K hd n 8 c A)(a:Args):Cok K hd n 4 c (A.under (.builtin "type.__call__" a)):=by
 have hfr:(Code.builtin "type.__call__" a).frames=0:=by kernel_rfl
 have hg:(Code.builtin "type.__call__" a).isGuard=false:=by kernel_rfl
 have hc:(Code.builtin "type.__call__" a).isCaller=false:=by kernel_rfl
 have h1:(Code.builtin "type.__call__" a).weight<=1:=by
  unfold Code.weight
  rw[hfr,hg,hc]
  split<;>simp
 have h2:(Code.builtin "type.__call__" a).cUnits=1:=by
  have:(Code.builtin "type.__call__" a).cUnits=1+3*(Code.builtin "type.__call__" a).frames:=rfl
  rw[this,hfr]
 have h3:(Code.builtin "type.__call__" a).envs=[]:=by
  have:(Code.builtin "type.__call__" a).isFrame=false:=by rfl
  unfold Code.envs
  rw[this];rfl
 obtain⟨B,hA,T,kb,fk,hh,dp,un⟩:=C
 have e1:(A.under (.builtin "type.__call__" a)).frames=pushEnvs (Code.builtin "type.__call__" a).envs A.frames:=rfl
 have e2:(A.under (.builtin "type.__call__" a)).depth=A.depth+(Code.builtin "type.__call__" a).weight:=rfl
 have e3:(A.under (.builtin "type.__call__" a)).units=A.units+(Code.builtin "type.__call__" a).cUnits:=rfl
 refine⟨B,?_,T,kb,fk,hh,?_,?_⟩
 ·rw[e1,h3,hA];rfl
 ·rw[e2];exact ud dp (Nat.le_trans (Nat.add_le_add_right h1 4) (by decide))
 ·rw[e3,h2];exact ud un (by decide)
set_option tactic.hygienic true in
theorem Jb{f as:E}(W:Amb K tb G gn)(WC:AmbC K tb)(hF:Xf K tb F n)(hh:hd=false)(hat:∀ o n p,t≠.Attribute o n p)(hpl:zt ts=true)(hf:SEp K tb G F hd n fi f t)(ha:SLp K tb G F hd n fi as ts):SEp K tb G F hd n fi (.call f as) (.Call t ts [] pos):=by
 subst hh
 intro c A s m M I L H Q X C hs ht S LL p
 rw[yp hat]
 refine wpAny_bind (wp1 ht (hf c A s m M I L H _ _ C hs ht S LL (p.bind λ v x H' h' tk M' I' S' e z p' ht'=>?_)))
 cases x with
 | fn k=>
  simp only[kT,wv] at p'
  ·cases z with
   | fn hk=>
    rename_i a
    refine jZ (W.fk _ _ hk) hpl (wp1 ht' (ha c A _ m M' I' L H' pos _ _ C hs ht' S' (LL.ext e) (p'.bind λ vs xs H'' h'' tk' M'' I'' S'' e' z' p'' ht''=>?_)))
    refine⟨S''.kin.keeps S''.F.keep,wpAny_call (hF k a xs vs c A _ m M'' I'' H'' Q X hk ⟨C.B,C.hA,C.Tb,C.kb,C.fk,C.hh,by have:=C.dp;omega,by have:=C.un;omega⟩ ht'' S'' z' p'')⟩
 | cls k=>
  simp only[kT,wv] at p'
  ·cases z with
   | cls hk=>
    rename_i a
    obtain⟨k1,k2,fI,k3,k4,k5⟩:=WC.cl _ _ hk
    refine jZ k1 hpl (wp1 ht' (ha c A _ m M' I' L H' pos _ _ C hs ht' S' (LL.ext e) (p'.bind λ vs xs H'' h'' tk' M'' I'' S'' e' z' p'' ht''=>?_)))
    refine⟨S''.kin.keeps S''.F.keep,call_cls S''.F S''.kin S''.N k2 k3 k4 λ x dx h3 F3 N3 n1 n2=>?_⟩
    obtain⟨S3,e3⟩:=St.newM (s:={s with heap:=h'',toks:=tk'}) (o:=.att []) (ob:=dictOf [] 0) S'' (λ p hp=>Nat.ne_of_lt (n1 p hp)) F3 (λ p hp=>N3 p (.tail _ hp)) (.att .nil)
    have hdx:(z6 (M''++[(dx,dictOf [] 0)]))[H''.length]?=some dx:=by rw[←S''.ro.length];exact zG
    have hm2:∀ p∈(M''++[(dx,dictOf [] 0)])++I'',p=(dx,dictOf [] 0)\/p∈M''++I'':=λ p hp=>by
     rcases ma_ hp with q | q
     ·rcases ma_ q with q | q
      ·exact .inr (List.mem_append_left _ q)
      ·exact .inl (by simpa using q)
     ·exact .inr (List.mem_append_right _ q)
    have e4':Ext (M''++[(dx,dictOf [] 0)]) I'' ((M''++[(dx,dictOf [] 0)])++[(x,instObj a dx)]) I'':=⟨λ _ h=>h,λ _ _ h=>getElem?_map_append_left h⟩
    obtain⟨S4,e4⟩:=St.newM (s:={s with heap:=h3,toks:=tk'}) (o:=.inst k H''.length) (ob:=instObj a dx) S3 (λ p hp=>by
      rcases hm2 p hp with rfl | q
      ·exact Nat.ne_of_lt n2
      ·exact Nat.ne_of_lt (Nat.lt_trans (n1 p q) n2)) F3 (λ p hp=>by
      rcases mc_ hp with rfl | q
      ·exact N3 _ (.head _)
      ·rcases hm2 p q with rfl | q
       ·exact N3 _ (.tail _ (.head _))
       ·exact N3 _ (.tail _ (.tail _ q))) (.inst hk (e4'.m _ _ hdx))
    have hx:(z6 ((M''++[(dx,dictOf [] 0)])++[(x,instObj a dx)]))[H''.length+1]?=some x:=by
     have:=zG (M:=M''++[(dx,dictOf [] 0)]) (a:=x) (ob:=instObj a dx)
     rw[List.length_append] at this
     rw[←S''.ro.length]
     exact this
    have e34:=e3.trans e4
    rw[show H''++[O.att [],O.inst k H''.length]=(H''++[O.att []])++[O.inst k H''.length] by simp] at p''
    refine codeAny_mono (hF k fI (.ref (H''.length+1)::xs) (.ref x::vs) c _ {s with heap:=h3,toks:=tk'} m _ I'' _ (λ v s'=>v=.none/\Q (.ref x) s') X k5 (C.under _) ht'' S4 (.cons (.ref hx) (z'.ext e34)) ?_) λ r s' q=>?_
    ·refine(Post.ext (tk:=tk') (h':=h3) e34 p'').bind λ v y H5 h5 tk5 M5 I5 S5 e5 z5 p5=>?_
     split at p5
     ·exact⟨z5.none_inv,p5.now' S5 (.ref (e5.m _ _ hx))⟩
     ·exact p5.elim
    ·rcases r with er | (v | _ | _ | _)
     ·exact q
     all_goals first | exact q | exact q.elim
 | _=>exact p'.elim
end
theorem xH(x:List Nat):(z0 x).cps.toList=x:=by simp [z0]
theorem wS:∀ (l:List Nat) (k:Nat),(∀ i,i<=l.length->p.isPrefixOf (l.drop i)=false)->z8 p l k = -1
 | [],k,h=>by
  have h0:=h 0 (Nat.zero_le _)
  have:p≠[]:=by intro q;subst q;simp at h0
  simp [z8,this]
 | a::r,k,h=>by
  have h0:=h 0 (Nat.zero_le _)
  simp only[List.drop_zero] at h0
  simp only[z8,h0,Bool.false_eq_true,if_false]
  exact wS r (k+1) λ i hi=>by have:=h (i+1) (by simp;omega);simpa using this
theorem wW:∀ (l:List Nat) (k i:Nat),i<=l.length->p.isPrefixOf (l.drop i)=true->(∀ j,j<i->p.isPrefixOf (l.drop j)=false)->z8 p l k=((k+i:Nat):Int)
 | [],k,i,hi,h,hm=>by
  simp only[List.length_nil,Nat.le_zero_eq] at hi
  subst hi
  simp only[List.drop_nil] at h
  have:p=[]:=by cases p with | nil=>rfl | cons a r=>simp at h
  simp [z8,this]
 | a::r,k,0,hi,h,hm=>by
  simp only[List.drop_zero] at h
  simp [z8,h]
 | a::r,k,i+1,hi,h,hm=>by
  have h0:=hm 0 (Nat.zero_lt_succ _)
  simp only[List.drop_zero] at h0
  simp only[z8,h0,Bool.false_eq_true,if_false]
  rw[wW r (k+1) i (by simpa using hi) (by simpa using h) λ j hj=>by have:=hm (j+1) (by omega);simpa using this]
  congr 1
  omega
theorem XJ(x y:List Nat)(i:Nat):StrLaws.At (z0 x) (z0 y) (z0 x).length i↔i<=x.length/\y.isPrefixOf (x.drop i)=true:=by
 unfold StrLaws.At
 rw[StrLaws.subAt_eq,zc,zc,xH,xH,beq_iff_eq,List.isPrefixOf_iff_prefix,List.prefix_iff_eq_take]
 constructor
 ·rintro⟨h1,h2⟩
  exact⟨by omega,h2.symm⟩
 ·rintro⟨h1,h2⟩
  refine⟨?_,h2.symm⟩
  have:=congrArg List.length h2
  simp at this
  omega
theorem JK(x y:List Nat):Txt.find (z0 x) (z0 y)=z8 y x 0:=by
 rcases find_whole (z0 x) (z0 y) with ⟨h1,h2⟩ | ⟨i,h1,h2,h3⟩
 ·rw[h1,wS]
  intro i hi
  have:=h2 i
  rw[XJ] at this
  exact Bool.eq_false_iff.mpr λ q=>this ⟨hi,q⟩
 ·rw[XJ] at h2
  rewrite [h1,wW x 0 i h2.1 h2.2 λ j hj=>?_]
  ·simp
  ·have:=h3 j hj
   rw[XJ] at this
   have hj':j<=x.length:=by omega
   exact Bool.eq_false_iff.mpr λ q=>this ⟨hj',q⟩
theorem qd(c:Nat):∀ l:List Nat,PyProof.Rows.cnt c l=(l.count c:Nat)
 | []=>by rw[cnt_nil];rfl
 | n::r=>by
  rw[cnt_cons,qd c r,List.count_cons]
  by_cases h:n=c
  ·simp [h];omega
  ·simp [h]
theorem Vx(x:List Nat)(c:Nat):Txt.count (z0 x) (z0 [c])=(x.count c:Nat):=by
 have:=PyProof.Rows.count_is (z0 x) c
 rw[show z0 [c]=(⟨#[c]⟩:Str) from rfl,this]
 have h2:=qd c x
 unfold PyProof.Rows.cnt at h2
 rw[xH]
 exact h2
noncomputable def vn(c:Nat):List (List Nat)->List Nat
 | []=>[]
 | [a]=>a
 | a::b::r=>a++c::vn c (b::r)
theorem wR{c:Nat}:∀ {x:List Nat},c∉x->z7 c x=[x]
 | [],_=>rfl
 | a::r,h=>by
  have h1:(a==c)=false:=by simp at h ⊢;exact λ e=>h.1 e.symm
  have h2:c∉r:=λ q=>h (.tail _ q)
  simp [z7,h1,wR h2]
theorem vE{c:Nat}:∀ {a:List Nat} (r:List Nat),c∉a->z7 c (a++c::r)=a::z7 c r
 | [],r,_=>by simp [z7]
 | b::a,r,h=>by
  have h1:(b==c)=false:=by simp at h ⊢;exact λ e=>h.1 e.symm
  have h2:c∉a:=λ q=>h (.tail _ q)
  simp [z7,h1,vE r h2]
theorem qO(c:Nat):∀ ps:List (List Nat),ps≠[]->(vn c ps).count c+1=(ps.map (List.count c)).sum+ps.length
 | [],h=>absurd rfl h
 | [a],_=>by simp [vn]
 | a::b::r,_=>by
  have ih:=qO c (b::r) (by simp)
  simp only[vn,List.count_append,List.count_cons_self,List.map_cons,List.sum_cons,List.length_cons] at ih ⊢
  omega
theorem qJ{c:Nat}:∀ {ps:List (List Nat)},ps≠[]->(∀ p∈ps,c∉p)->z7 c (vn c ps)=ps
 | [],h,_=>absurd rfl h
 | [a],_,h=>wR (h a (.head _))
 | a::b::r,_,h=>by
  rw[vn,vE _ (h a (.head _)),qJ (by simp) λ p hp=>h p (.tail _ hp)]
theorem YZ(c:Nat):∀ ps:List Str,(Str.join (z0 [c]) ps).cps.toList=vn c (ps.map λ p=>p.cps.toList)
 | []=>rfl
 | [a]=>rfl
 | a::b::r=>by
  have ih:=YZ c (b::r)
  show((a++z0 [c]++Str.join (z0 [c]) (b::r)):Str).cps.toList=_
  have e:vn c ((a::b::r).map λ p=>p.cps.toList)=a.cps.toList++c::vn c ((b::r).map λ p=>p.cps.toList):=rfl
  rw[e,←ih]
  show(a.cps++(z0 [c]).cps++(Str.join (z0 [c]) (b::r)).cps).toList=_
  simp [z0]
theorem Xi:∀ {l:List Nat},l.sum=0->∀ a∈l,a=0
 | [],_,a,h=>by cases h
 | b::r,e,a,h=>by
  simp only[List.sum_cons] at e
  cases h with
  | head=>omega
  | tail _ h=>exact Xi (by omega) a h
theorem VI(x:List Nat)(c:Nat):(Txt.split (z0 x) (z0 [c])).map (λ p=>p.cps.toList)=z7 c x:=by
 have h1:=StrLaws.join_split (z0 x) (z0 [c])
 have h2:=PyProof.Rows.split_len (z0 x) c
 rw[show(⟨#[c]⟩:Str)=z0 [c] from rfl,xH,qd] at h2
 have h3:=YZ c (Txt.split (z0 x) (z0 [c]))
 rw[h1,xH] at h3
 generalize hg:(Txt.split (z0 x) (z0 [c])).map (λ p=>p.cps.toList)=ps at h3 ⊢
 have hl:ps.length=(Txt.split (z0 x) (z0 [c])).length:=by rw[←hg];simp
 have hne:ps≠[]:=by intro q;rw[q] at hl;simp only[List.length_nil] at hl;omega
 have h4:=qO c ps hne
 rw[←h3] at h4
 have h5:(ps.map (List.count c)).sum=0:=by omega
 rw[h3]
 refine(qJ hne λ p hp q=>?_).symm
 have h6:=Xi h5 _ (List.mem_map_of_mem hp)
 exact absurd q (List.count_eq_zero.mp h6)
section
variable {K:Frag}{tb:Tab}{G:Nat->Option V}{gn:Nat->Option Str}{F:Fn}{hd:Bool}{n:Nat}{fi:Fi}
theorem zY{o:Expr}{nm:Str}{env:Env}{w:Sem Value}(h:∀ f a k p,o≠.Call f a k p):attributeBase o nm env w=w:=by
 cases o<;>first | rfl | exact absurd rfl (h _ _ _ _)
theorem YB{env:Env}(h:∀ e p,t≠.Starred e p):starEach [t] env=[(false,eval t env)]:=by
 cases t<;>first | rfl | exact absurd rfl (h _ _)
theorem R.bind_assoc{γ:Type}(r:R α)(f:α->Hp->R β)(g:β->Hp->R γ):(r.bind f).bind g=r.bind λ a H=>(f a H).bind g:=by
 cases r<;>rfl
theorem ZE{a:E}:evL G F (.cons a .nil) L H=(evE G F a L H).bind λ x H=>.ok [x] H:=by
 rfl
theorem JO(s p:List Nat)(H:Hp):meV .find (.str s) [.str p] H=if p=[] then .bad else .ok (.int (z8 p s 0)) H:=rfl
theorem z1I(s:List Nat)(a:Nat)(H:Hp):meV .replace (.str s) [.str [a],.str []] H=.ok (.str (s.filter λ c=>c !=a)) H:=rfl
theorem z2D(l:List (List Nat×Int))(x:List Nat)(d:V)(H:Hp):meV .get (.cdct l) [.str x,d] H=.ok (match l.lookup x with | some i=>.int i | none=>d) H:=rfl
theorem z1T(l:List (List Nat×Int)):jx .get (.cdct l)=true:=rfl
theorem Jq(s:List Nat):jx .find (.str s)=true:=rfl
theorem Ky(s:List Nat):jx .count (.str s)=true:=rfl
theorem KK(s:List Nat):jx .split (.str s)=true:=rfl
theorem z3n(s:List Nat):jx .replace (.str s)=true:=rfl
theorem Jp{o a:E}{ot at_:Expr}{apos:Pos}(hb:∀ f a k p,ot≠.Call f a k p)(hline:(apos.endLine==pos.line)=true)(hn:∀ e p,at_≠.Starred e p)(ho:SEp K tb G F hd n fi o ot)(ha:SEp K tb G F hd n fi a at_) :
  SEp K tb G F hd n fi (.me .find o (.cons a .nil)) (.Call (.Attribute ot "find" apos) [at_] [] pos):=by
 intro c A s m M I L H Q X C hs ht S LL p
 refine Call_method1 (zY hb) (YB hn) hline (wp1 ht (ho c A s m M I L H _ _ C hs ht S LL (p.bind λ v x H' h' tk M' I' S' e z p' ht'=>?_)))
 cases x with
 | str l=>
  simp only[Jq,ZE,R.bind_assoc,R.bind_ok] at p'
  refine RV.eStr z λ t hx=>?_
  refine SB.find (ha c A _ m M' I' L H' _ _ C hs ht' S' (LL.ext e) (p'.bind λ u y H'' h'' tk' M'' I'' S'' e' z' p''=>?_))
  cases y with
  | str l2=>
   rw[JO] at p''
   cases z' with | str t2 hy=>
   split at p''
   ·exact p''.elim
   ·refine⟨_,_,rfl,?_⟩
    rw[JK]
    exact p''.now S'' (.int _ _) _
  | _=>exact p''.elim
 | _=>exact p'.elim
set_option tactic.hygienic true in
theorem Qn{o a:E}{ot at_:Expr}{apos:Pos}(hb:∀ f a k p,ot≠.Call f a k p)(hline:(apos.endLine==pos.line)=true)(hn:∀ e p,at_≠.Starred e p)(ho:SEp K tb G F hd n fi o ot)(ha:SEp K tb G F hd n fi a at_) :
  SEp K tb G F hd n fi (.me .count o (.cons a .nil)) (.Call (.Attribute ot "count" apos) [at_] [] pos):=by
 intro c A s m M I L H Q X C hs ht S LL p
 refine Call_method1 (zY hb) (YB hn) hline (wp1 ht (ho c A s m M I L H _ _ C hs ht S LL (p.bind λ v x H' h' tk M' I' S' e z p' ht'=>?_)))
 cases x with
 | str l=>
  simp only[Ky,ZE,R.bind_assoc,R.bind_ok] at p'
  refine RV.eStr z λ t hx=>?_
  refine SB.count (ha c A _ m M' I' L H' _ _ C hs ht' S' (LL.ext e) (p'.bind λ u y H'' h'' tk' M'' I'' S'' e' z' p''=>?_))
  cases z' with
  | str t2 hy=>
   rename_i l2
   match l2,hy,p'' with
   | [d],hy,p''=>
    refine⟨_,_,rfl,?_⟩
    rw[Vx]
    exact p''.now S'' (.int _ _) _
   | [],_,p''=>exact p''.elim
   | _::_::_,_,p''=>exact p''.elim
  | _=>exact p''.elim
 | _=>exact p'.elim
theorem vV{l:List Nat}:∀ {p:List Nat},p∈z7 d l->(∀ x∈p,x∈l)/\p.length<=l.length:=by
 induction l with
 | nil=>
  intro p h
  rw[List.mem_singleton.mp h];exact⟨λ _ h=>(nomatch h),Nat.le_refl _⟩
 | cons a r ih=>
  intro p hp
  cases h:a==d with
  | true=>
   rw[so_t h] at hp
   refine(mc_ hp).elim (λ e=>?_) λ hp=>⟨λ x hx=>.tail _ ((ih hp).1 x hx),Nat.le_succ_of_le (ih hp).2⟩
   rw[e];exact⟨λ _ h=>(nomatch h),Nat.zero_le _⟩
  | false=>
   obtain⟨x,q,h1,_,_⟩:=so_c d r
   rw[so_f h h1] at hp
   rw[h1] at ih
   refine(mc_ hp).elim (λ e=>?_) λ hp=>⟨λ x hx=>.tail _ ((ih (.tail _ hp)).1 x hx),Nat.le_succ_of_le (ih (.tail _ hp)).2⟩
   rw[e]
   exact⟨λ y hy=>(mc_ hy).elim (λ e=>e ▸ .head _) λ hy=>.tail _ ((ih (.head _)).1 y hy),Nat.succ_le_succ (ih (.head _)).2⟩
set_option tactic.hygienic true in
theorem vF(d:Nat):∀ l:List Nat,(z7 d l).length<=l.length+1
 | []=>by simp [z7]
 | a::r=>by
  have:=vF d r
  simp only[z7]
  split
  ·simp;omega
  ·split
   ·simp
   ·rename_i h0;rw[h0] at this;simp at this ⊢;omega
theorem YD:∀ {ps:List (Str×Tok)} {qs:List (List Nat)},ps.map (λ p=>p.1.cps.toList)=qs->(∀ q∈qs,zu q)->RVs K tb I μ (strValues ps) (qs.map .str)
 | [],qs,h,_=>by subst h;exact .nil
 | p::r,qs,h,hq=>by
  subst h
  refine .cons ?_ (YD rfl λ q hh=>hq q (.tail _ hh))
  have h1:p.1=z0 p.1.cps.toList:=by
   obtain⟨⟨a⟩,t⟩:=p
   simp [z0]
  show RV K tb I μ (.str p.1 p.2) _
  have h2:=RV.str (K:=K) (tb:=tb) (I:=I) (μ:=μ) p.2 (hq p.1.cps.toList (.head _))
  rw[←h1] at h2
  exact h2
set_option tactic.hygienic true in
theorem QY{o a:E}{ot at_:Expr}{apos:Pos}(hb:∀ f a k p,ot≠.Call f a k p)(hline:(apos.endLine==pos.line)=true)(hn:∀ e p,at_≠.Starred e p)(ho:SEp K tb G F hd n fi o ot)(ha:SEp K tb G F hd n fi a at_) :
  SEp K tb G F hd n fi (.me .split o (.cons a .nil)) (.Call (.Attribute ot "split" apos) [at_] [] pos):=by
 intro c A s m M I L H Q X C hs ht S LL p
 refine Call_method1 (zY hb) (YB hn) hline (wp1 ht (ho c A s m M I L H _ _ C hs ht S LL (p.bind λ v x H' h' tk M' I' S' e z p' ht'=>?_)))
 cases x with
 | str l=>
  simp only[KK,ZE,R.bind_assoc,R.bind_ok] at p'
  refine RV.eStr z λ t hx=>?_
  refine⟨"str",_,PySem.F.plainAttrs_str,PySem.F.slot_str_split,PySem.F.type_str_split,typeIs_str _ _ _,(λ _ e=>nomatch e),?_⟩
  refine Calls.callWith_builtin rfl (Calls.evalArgs_plain (Calls.spliced_cons (ha c A _ m M' I' L H' _ _ C hs ht' S' (LL.ext e) (p'.bind λ u y H'' h'' tk' M'' I'' S'' e' z' p''=>Calls.spliced_nil ?_))))
  cases z' with
  | str t2 hy=>
   rename_i l2
   match l2,hy,p'' with
   | [d],hy,p''=>
    refine splitN1 S''.F S''.N rfl (λ ps h3 k3 hps F3 N3=>?_) (by rw[zc,sizeLine_eq];have:=hx.2;omega)
    have h4:ps.map (λ p=>p.1.cps.toList)=z7 d l:=by
     rw[←VI,←hps,List.map_map];rfl
    have hok:∀ q∈z7 d l,zu q:=λ q hq=>yW hx (vV hq).1 (vV hq).2
    obtain⟨S5,e5⟩:=St.newM (s:={s with heap:=h'',toks:=tk'}) (o:=.lst ((z7 d l).map .str)) S'' (x9 (s:={s with heap:=h'',toks:=tk'}) S'') F3 N3 (RO.lst (YD h4 hok) (by
     have:=vF d l
     have:=hx.2
     simp only[List.length_map];omega))
    refine p'' _ _ k3 _ _ S5 e5 (.ref ?_)
    rw[←S''.ro.length]
    exact zG
   | [],_,p''=>exact p''.elim
   | _::_::_,_,p''=>exact p''.elim
  | _=>exact p''.elim
 | _=>exact p'.elim
theorem XN{o:E}{ot:Expr}{apos:Pos}{k1 k2:Nat}(hb:∀ f a k p,ot≠.Call f a k p)(hline:(apos.endLine==pos.line)=true)(ho:SEp K tb G F hd n fi o ot) :
  SEp K tb G F hd n fi (.me .replace o (.cons (.cst (.str [d])) (.cons (.cst (.str [])) .nil))) (.Call (.Attribute ot "replace" apos) [.Constant (.str (z0 [d])) k1 p1,.Constant (.str (z0 [])) k2 p2] [] pos):=by
 intro c A s m M I L H Q X C hs ht S LL p
 refine Call_method2 (zY hb) rfl hline (wp1 ht (ho c A s m M I L H _ _ C hs ht S LL (p.bind λ v x H' h' tk M' I' S' e z p' ht'=>?_)))
 cases x with
 | str l=>
  simp only[z3n,l_nil,l_cons,e_cst,R.bind_ok,z1I] at p'
  refine RV.eStr z λ t hx=>?_
  refine⟨"str",_,PySem.F.plainAttrs_str,PySem.F.slot_str_replace,PySem.F.type_str_replace,typeIs_str _ _ _,(λ _ e=>nomatch e),?_⟩
  refine Calls.callWith_builtin rfl (Calls.evalArgs_plain (Calls.spliced_cons (wpAny_Constant_str (Calls.spliced_cons (wpAny_Constant_str (Calls.spliced_nil ?_))))))
  have ht2:1<=tk:=ht'
  refine SC.replace (x:=z0 l) (y:=z0 [d]) (z:=z0 []) (by show tk≠0;omega) (by show tk+1≠0;omega) (by show tk≠tk+1;omega) (by rw[ke];rfl) (by rw[zc,zc];have:=hx.2;simp;omega) λ t' k'=>?_
  have e1:=PyProof.Rows.replace_strikes (z0 l) d
  rw[xH] at e1
  have e2:Txt.replace (z0 l) (z0 [d]) (z0 [])=z0 (l.filter (· !=d)):=by
   have:Txt.replace (z0 l) (z0 [d]) (z0 [])=z0 (Txt.replace (z0 l) ⟨#[d]⟩ ⟨#[]⟩).cps.toList:=by simp [z0]
   rw[this,e1]
  rw[e2]
  exact p'.now S' (.str _ (yW hx (λ c hc=>(List.mem_filter.mp hc).1) (List.length_filter_le _ _))) _
 | _=>exact p'.elim
end
section
variable {K:Frag}{tb:Tab}{G:Nat->Option V}{gn:Nat->Option Str}{F:Fn}{hd:Bool}{n:Nat}{fi:Fi}
noncomputable def Wg(K:Frag)(tb:Tab)(G:Nat->Option V)(F:Fn)(hd:Bool)(n:Nat)(fi:Fi)(e:E)(t:Option Expr):Prop:=match t with
 | none=>e=.cst .none
 | some t=>SEp K tb G F hd n fi e t
theorem Wn{s:Shared}{e:E}{t:Option Expr}(h:Wg K tb G F hd n fi e t)(C:Cok K hd n 8 c A)(hs:c.scope=fi.sc)(ht:1<=s.toks)(S:St K tb c.w c.h₀ c.L s.heap m M I H)(LL:LR K tb fi.ns m I (z6 M) L)(p:Post K tb (zU K tb) c s m M I (evE G F e L H) Q X):wpAny (model pw c.w) A (evalPart t c.env) Q X s:=by
 cases t with
 | none=>
  have:e=.cst .none:=h
  subst this
  rw[evalPart_none]
  exact wpAny_pure (p.now' S .none)
 | some t=>
  rw[evalPart_some]
  exact h c A s m M I L H Q X C hs ht S LL p
theorem St.push{L:Addr}(S:St K tb tb.w h₀ L h m M I H)(o:Obj):St K tb tb.w h₀ L (h.push o) m M I H:=⟨Fr.push S.F o,News.pushKeep S.N o,S.nd,S.ap,S.ro,S.kin,S.tw⟩
theorem St.push'{L:Addr}(S:St K tb w h₀ L h m M I H)(o:Obj):St K tb w h₀ L (h.push o) m M I H:=⟨Fr.push S.F o,News.pushKeep S.N o,S.nd,S.ap,S.ro,S.kin,S.tw⟩
set_option tactic.hygienic true in
theorem Jo{s:Shared}{l:List Nat}{t:Tok}{lo hi:Option (Int×Tok)}(S:St K tb c.w c.h₀ c.L s.heap m M I H)(hx:zu l)(q:∀ t' tk o,Q (.str (z0 ((l.take (((hi.map (·.1)).map (adj l.length)).getD l.length)).drop (((lo.map (·.1)).map (adj l.length)).getD 0))) t') {s with heap:=s.heap.push o,toks:=tk})(vl vu:Value) :
  (sliceMade (z0 l) t lo hi none).post Q {s with heap:=s.heap.push {cls:=.type "slice",data:=.fields #[vl,vu,.none]}}:=by
 have e0:(slicePicked (z0 l) lo hi none)=Builtin.Str.strSliceIndices (lo.map (·.1)) (hi.map (·.1)) 1 l.length:=by unfold slicePicked;rw[zc];rfl
 have e1:(⟨((slicePicked (z0 l) lo hi none).filterMap ((z0 l).cps[·]?)).toArray⟩:Str)=z0 ((l.take (((hi.map (·.1)).map (adj l.length)).getD l.length)).drop (((lo.map (·.1)).map (adj l.length)).getD 0)):=by
  rw[e0,←Xu]
  rfl
 unfold sliceMade
 refine post_val_or_str ?_
 have e2:(if (((none:Option (Int×Tok)).map (·.1)).getD 1==1&&(slicePicked (z0 l) lo hi none).length==(z0 l).length)=true then z0 l else⟨((slicePicked (z0 l) lo hi none).filterMap ((z0 l).cps[·]?)).toArray⟩)=z0 ((l.take (((hi.map (·.1)).map (adj l.length)).getD l.length)).drop (((lo.map (·.1)).map (adj l.length)).getD 0)):=by
  split
  ·rename_i hc
   simp only[Bool.and_eq_true,beq_iff_eq] at hc
   have:=hc.2
   rw[e0,zc] at this
   rw[X6 _ _ _ this]
  ·exact e1
 rw[e2]
 refine⟨?_,λ t' k=>q t' k _⟩
 rw[zc,sizeLine_eq]
 have:=hx.2
 simp
 omega
set_option tactic.hygienic true in
theorem z2c{o lo hi:E}{x:Str}{l u:Option Expr}(ho:SEp K tb G F hd n fi o (.Name x p1))(hl:Wg K tb G F hd n fi lo l)(hu:Wg K tb G F hd n fi hi u) :
  SEp K tb G F hd n fi (.slc o lo hi) (.Subscript (.Name x p1) (.Slice l u none p2) pos):=by
 intro c A s m M I L H Q X C hs ht S LL p
 refine wpAny_Subscript_str_slice (wp1 ht (ho c A s m M I L H _ _ C hs ht S LL (p.bind λ v x H' h' tk M' I' S' e z p' ht'=>?_)))
 refine wp1 ht' (Wn hl C hs ht' S' (LL.ext e) (p'.bind λ v2 y H2 h2 tk2 M2 I2 S2 e2 z2 p2 ht2=>?_))
 refine Wn hu C hs ht2 S2 ((LL.ext e).ext e2) (p2.bind λ v3 w H3 h3 tk3 M3 I3 S3 e3 z3 p3=>?_)
 cases hc:wY x y w with
 | none=>rw[hc] at p3;exact p3.elim
 | some r=>
  rw[hc] at p3
  cases x with
  | str l0=>
   refine RV.eStr z λ t hx=>?_
   have sub:∀ (a b:Nat),zu ((l0.take b).drop a):=λ a b=>yW hx (λ c hc=>List.mem_of_mem_take (List.mem_of_mem_drop hc)) (by simp;omega)
   simp only[wY] at hc
   split at hc
   ·cases z2;cases z3;cases hc
    rename_i j t3
    refine⟨z0 l0,t,none,some (j,t3),rfl,rfl,rfl,Jo S3 hx (λ t' tk o=>?_) _ _⟩
    exact p3 _ _ tk _ _ (S3.push' o) (Ext.refl _ _) (.str _ (sub 0 _))
   ·cases z2;cases z3;cases hc
    rename_i j t3
    refine⟨z0 l0,t,some (j,t3),none,rfl,rfl,rfl,Jo S3 hx (λ t' tk o=>?_) _ _⟩
    have:=sub (adj l0.length j) l0.length
    rw[List.take_length] at this
    simp only[Option.map_none,Option.getD_none,Option.map_some,Option.getD_some,List.take_length]
    exact p3 _ _ tk _ _ (S3.push' o) (Ext.refl _ _) (.str _ this)
   ·cases z2;cases z3;cases hc
    rename_i i j t3 t4
    refine⟨z0 l0,t,some (i,t3),some (j,t4),rfl,rfl,rfl,Jo S3 hx (λ t' tk o=>?_) _ _⟩
    exact p3 _ _ tk _ _ (S3.push' o) (Ext.refl _ _) (.str _ (sub _ _))
   ·cases hc
  | _=>cases hc
theorem kO(items:Array Value){k:Int}(h:0<=k):(slicePick items none (some k) none).toList=items.toList.take k.toNat:=by
 have:=slicePick_upto' items k.toNat
 rw[Int.toNat_of_nonneg h] at this
 rw[this]
noncomputable def inP'(ng:Bool):CmpOp:=inP ng
set_option tactic.hygienic true in
theorem z1p{s:Shared}{x z:V}{vx:Value}(hu:A.units+8<cLine)(S:St K tb c.w c.h₀ c.L s.heap m M I H)(hx:RV K tb I (z6 M) vx x)(e:xp x y z H=some r)(hy:y=.ref i)(ho:H[i]?=some (.lst xs)){k:Int}(hz:z=.int k)(hv:RVs K tb I (z6 M) vs xs){nl:Addr}(hg:s.heap.get? nl=some {cls:=.type "list",data:=.seq (vs.take k.toNat).toArray j})(q:Q (.bool r) s):wpAny (model pw c.w) A (compareOp .In vx (.ref nl)) Q X s:=by
 subst hy hz
 simp only[xp,ho] at e
 split at e
 ·rename_i h0
  split at e
  ·rename_i d ds h1 h2
   cases e
   obtain⟨⟨as,r1⟩,c1,p1⟩:=S.reads hx h1
   obtain⟨⟨bs,r2⟩,c2,p2⟩:=S.readss (hv.take k.toNat) h2
   have p1':=Nat.min_le_right (PyData.depthAll ds) d.depth
   exact SeqAt.in_list_reads (.list hg rfl rfl (by simpa using r2)) r1 c2 c1 (by omega) q
  ·cases e
 ·cases e
set_option tactic.hygienic true in
theorem Z5{x z:V}(e:xp x y z H=some r):(Ex3 λ i k xs=>A4 (y=.ref i) (z=.int k) (H[i]?=some (.lst xs)) (0<=k)):=by
 unfold xp at e
 split at e
 ·rename_i i k
  split at e
  ·rename_i xs ho
   split at e
   ·rename_i h0;exact⟨i,k,xs,rfl,rfl,ho,h0⟩
   ·cases e
  ·cases e
 ·cases e
set_option tactic.hygienic true in
theorem z0t{a l k:E}{at_ kt:Expr}{x:Str}{p3:Pos}(ha:SEp K tb G F hd n fi a at_)(hl:SEp K tb G F hd n fi l (.Name x p1))(hk:SEp K tb G F hd n fi k kt) :
  SEp K tb G F hd n fi (.inSl a l k) (.Compare at_ [.In] [.Subscript (.Name x p1) (.Slice none (some kt) none p2) p3] pos):=by
 intro c A s m M I L H Q X C hs ht S LL p
 refine wpAny_Compare1 (wp1 ht (ha c A s m M I L H _ _ C hs ht S LL (p.bind λ v x H' h' tk M' I' S' e z p' ht'=>?_))) rfl
 refine wpAny_Subscript_list_slice (wp1 ht' (hl c A _ m M' I' L H' _ _ C hs ht' S' (LL.ext e) (p'.bind λ v2 y H2 h2 tk2 M2 I2 S2 e2 z2 p2 ht2=>?_)))
 rw[evalPart_none]
 refine wpAny_pure ?_
 rw[evalPart_some]
 refine hk c A _ m M2 I2 L H2 _ _ C hs ht2 S2 ((LL.ext e).ext e2) (p2.bind λ v3 w H3 h3 tk3 M3 I3 S3 e3 z3 p3=>?_)
 cases hc:xp x y w H3 with
 | none=>rw[hc] at p3;exact p3.elim
 | some r=>
  rw[hc] at p3
  obtain⟨i,kk,xs,rfl,rfl,ho,h0⟩:=Z5 hc
  refine RV.eRef z2 λ _ hi=>?_
  refine RV.eInt z3 λ t3=>?_
  rename_i la
  have hi':=e3.m _ _ hi
  obtain⟨vs,hls,hv⟩:=St.list (s:={s with heap:=h3,toks:=tk3}) S3 hi' ho
  have hz:=St.fit (s:={s with heap:=h3,toks:=tk3}) S3 hi' ho
  refine⟨la,vs.toArray,none,some kk,rfl,hls,?_,.none,.int _ _,?_⟩
  ·have:=hv.length
   simp only[List.size_toArray]
   rw[sizeLine_eq];omega
  ·have hsl:=kO vs.toArray h0
   have harr:slicePick vs.toArray none (some kk) none=(vs.take kk.toNat).toArray:=by
    apply Array.toList_inj.mp
    rw[hsl]
   have S5:=(S3.push' {cls:=.type "slice",data:=.fields #[.none,.int kk t3,.none]}).push' {cls:=.type "list",data:=.seq (slicePick vs.toArray none (some kk) none)}
   refine z1p (nl:=h3.objs.size+1) (j:=0) (un8 C) S5 ((z.ext e2).ext e3) hc rfl ho rfl hv ?_ ?_
   ·rw[←harr]
    have:h3.objs.size+1=(h3.push {cls:=.type "slice",data:=.fields #[.none,.int kk t3,.none]}).objs.size:=by rw[Heap.size_push]
    rw[this]
    exact Heap.get?_push_size _ rfl
   ·exact p3 _ _ tk3 _ _ S5 (Ext.refl _ _) (.bool r)
set_option tactic.hygienic true in
theorem Jc{a l k:E}{at_ kt:Expr}{x:Str}{p3:Pos}(ha:SEp K tb G F hd n fi a at_)(hl:SEp K tb G F hd n fi l (.Name x p1))(hk:SEp K tb G F hd n fi k kt) :
  STp K tb G F hd n fi (.inSl a l k) (.Compare at_ [.In] [.Subscript (.Name x p1) (.Slice none (some kt) none p2) p3] pos):=by
 intro c A s m M I L H Q X C hs ht S LL p
 refine wpAny_isTrue_Compare1 (wp1 ht (ha c A s m M I L H _ _ C hs ht S LL (p.bind λ v x H' h' tk M' I' S' e z p' ht'=>?_))) rfl
 refine wpAny_Subscript_list_slice (wp1 ht' (hl c A _ m M' I' L H' _ _ C hs ht' S' (LL.ext e) (p'.bind λ v2 y H2 h2 tk2 M2 I2 S2 e2 z2 p2 ht2=>?_)))
 rw[evalPart_none]
 refine wpAny_pure ?_
 rw[evalPart_some]
 refine hk c A _ m M2 I2 L H2 _ _ C hs ht2 S2 ((LL.ext e).ext e2) (p2.bind λ v3 w H3 h3 tk3 M3 I3 S3 e3 z3 p3=>?_)
 cases hc:xp x y w H3 with
 | none=>rw[hc] at p3;exact p3.elim
 | some r=>
  rw[hc] at p3
  obtain⟨i,kk,xs,rfl,rfl,ho,h0⟩:=Z5 hc
  refine RV.eRef z2 λ _ hi=>?_
  refine RV.eInt z3 λ t3=>?_
  rename_i la
  have hi':=e3.m _ _ hi
  obtain⟨vs,hls,hv⟩:=St.list (s:={s with heap:=h3,toks:=tk3}) S3 hi' ho
  have hz:=St.fit (s:={s with heap:=h3,toks:=tk3}) S3 hi' ho
  refine⟨la,vs.toArray,none,some kk,rfl,hls,?_,.none,.int _ _,?_⟩
  ·have:=hv.length
   simp only[List.size_toArray]
   rw[sizeLine_eq];omega
  ·have hsl:=kO vs.toArray h0
   have harr:slicePick vs.toArray none (some kk) none=(vs.take kk.toNat).toArray:=by
    apply Array.toList_inj.mp
    rw[hsl]
   have S5:=(S3.push' {cls:=.type "slice",data:=.fields #[.none,.int kk t3,.none]}).push' {cls:=.type "list",data:=.seq (slicePick vs.toArray none (some kk) none)}
   refine z1p (nl:=h3.objs.size+1) (j:=0) (un8 C) S5 ((z.ext e2).ext e3) hc rfl ho rfl hv ?_ ?_
   ·rw[←harr]
    have:h3.objs.size+1=(h3.push {cls:=.type "slice",data:=.fields #[.none,.int kk t3,.none]}).objs.size:=by rw[Heap.size_push]
    rw[this]
    exact Heap.get?_push_size _ rfl
   ·exact wpAny_truthy_bool (p3 _ _ tk3 _ _ S5 (Ext.refl _ _) rfl)
theorem Yp{x:List Nat}{tk:List Nat->Tok}:∀ {l:List (List Nat×Int)},valueAt (l.map λ p=>(z0 p.1,Value.int p.2 (tk p.1))) (z0 x)=(l.lookup x).map λ i=>Value.int i (tk x)
 | []=>rfl
 | (a,i)::r=>by
  have ih:=Yp (x:=x) (tk:=tk) (l:=r)
  by_cases e:a=x
  ·subst e
   simp [valueAt,List.lookup]
  ·have e':(z0 a=z0 x)=False:=by
    refine eq_false λ q=>e ?_
    have:=congrArg (λ z:Str=>z.cps.toList) q
    simpa [z0] using this
   have hx:(x==a)=false:=by simpa using λ q=>e q.symm
   simp only[List.map_cons,List.lookup,hx]
   rw[←ih]
   simp [valueAt,e']
theorem cd_{x:V}{P:V->Prop}(h:P x)(hb:∀ x,jx .get x=false->P x->False):∃ l,x=.cdct l:=by
 cases x<;>first | exact⟨_,rfl⟩ | exact(hb _ rfl h).elim
theorem st_{x:V}{P:V->Prop}(h:P x)(hb:∀ x,str? x=none->P x->False):∃ l,x=.str l:=by
 cases x<;>first | exact⟨_,rfl⟩ | exact(hb _ rfl h).elim
theorem mv_no{d:V}{l:List (List Nat×Int)}(h:str? y=none):meV .get (.cdct l) [y,d] H=.bad:=by
 cases y<;>first | rfl | exact n2 h
set_option tactic.hygienic true in
theorem z3p{o a b:E}{ot at_ bt:Expr}{apos:Pos}(hb:∀ f a k p,ot≠.Call f a k p)(hline:(apos.endLine==pos.line)=true)(hn:∀ e p,at_≠.Starred e p)(hn2:∀ e p,bt≠.Starred e p)(ho:SEp K tb G F hd n fi o ot)(ha:SEp K tb G F hd n fi a at_)(hb2:SEp K tb G F hd n fi b bt) :
  SEp K tb G F hd n fi (.me .get o (.cons a (.cons b .nil))) (.Call (.Attribute ot "get" apos) [at_,bt] [] pos):=by
 intro c A s m M I L H Q X C hs ht S LL p
 have hst:starEach [at_,bt] c.env=[(false,eval at_ c.env),(false,eval bt c.env)]:=by
  have:=YB (env:=c.env) hn2
  cases at_<;>first | (show(false,_)::starEach [bt] c.env=_;rw[this]) | exact absurd rfl (hn _ _)
 refine Call_method2 (zY hb) hst hline (wp1 ht (ho c A s m M I L H _ _ C hs ht S LL (p.bind λ v x H' h' tk M' I' S' e z p' ht'=>?_)))
 have k0:=cd_ (P:=λ x=>Post K tb (zU K tb) c _ m M' I' (match jx .get x with | true=>(evL G F (.cons a (.cons b .nil)) L H').bind λ xs H=>meV .get x xs H | false=>.bad) Q X) p'
 obtain⟨l,rfl⟩:=k0 λ x hx h=>by rw[hx] at h;exact h.elim
 clear k0
 ·simp only[z1T,l_nil,l_co,R.bind_assoc,R.bind_ok] at p'
  refine RV.eCdct z λ tkn q0 q1 q2=>?_
  rename_i da od
  have hdict:∀ {h3:Heap} {M3 I3:Led} {H3:Hp},St K tb c.w c.h₀ c.L h3 m M3 I3 H3->Heap.DictOf (strKind pw c.w) h3 da (l.map λ p=>(z0 p.1,Value.int p.2 (tkn p.1))):=λ S=>Heap.dictOf_iff.mpr ⟨od,S.kget q1,S.tw ▸ q2⟩
  have hd1:=hdict S'
  refine⟨"dict",_,PySem.F.plainAttrs_dict,PySem.F.slot_dict_get,PySem.F.type_dict_get,Heap.DictOf.typeIs (s:={s with heap:=h',toks:=tk}) hd1,Heap.MapOf.noDict hd1.mapOf,?_⟩
  refine wpAny_dict_get2 (K:=Str) (knd:=strKind pw c.w) q0 (wp1 ht' (ha c A _ m M' I' L H' _ _ C hs ht' S' (LL.ext e) (p'.bind λ u y H2 h2 tk2 M2 I2 S2 e2 z2 p2 ht2=>?_)))
  refine hb2 c A _ m M2 I2 L H2 _ _ C hs ht2 S2 ((LL.ext e).ext e2) (p2.bind λ u3 y3 H3 h3 tk3 M3 I3 S3 e3 z3 p3=>?_)
  have k1:=st_ (P:=λ y=>Post K tb (zU K tb) c _ m M3 I3 (meV .get (.cdct l) [y,y3] H3) Q X) p3
  obtain⟨xx,rfl⟩:=k1 λ x hx h=>by rw[mv_no hx] at h;exact h.elim
  clear k1
  refine RV.eStr z2 λ t hx=>?_
  ·refine⟨z0 xx,_,strKind_is _ _ _ _,(hdict S3).mapOf,?_⟩
   rw[Yp]
   rw[z2D] at p3
   cases hl:l.lookup xx with
   | none=>rw[hl] at p3;exact p3.now S3 z3 _
   | some i=>rw[hl] at p3;exact p3.now S3 (.int i _) _
end
structure AmbA(K:Frag)(tb:Tab)(an:List (List Nat)):Prop where
 at_:∀ k C nm,tb.c k=some C->nm∈an->plainGet K C (z0 nm)=true/\hasDictIn K C=true/\∃ attr,findIn K (.ref C) (z0 nm)=some attr/\noGet K attr=true
 set_:∀ k C nm,tb.c k=some C->nm∈an->findIn K (.ref C) "__setattr__"=some (some (.builtin "object.__setattr__"))/\plainOver K C=true/\takerIn K C (z0 nm)=some none
theorem QZ{a b:List Nat}(h:z0 a=z0 b):a=b:=by
 have:=congrArg (λ z:Str=>z.cps.toList) h
 simpa [z0] using this
section
variable {K:Frag}{tb:Tab}{G:Nat->Option V}{gn:Nat->Option Str}{F:Fn}{hd:Bool}{n:Nat}{fi:Fi}
theorem AttR.noRef(h:AttR K tb I μ es l):es.any (·.refKey)=false:=by
 induction h with
 | nil=>rfl
 | cons h1 h2 r ih=>
  rw[List.any_cons,ih]
  simp [DictEntry.refKey,h1]
theorem AttR.get(h:AttR K tb I μ es l):(∃ e y,es.find? (·.key.isStr (z0 nm))=some e/\l.lookup nm=some y/\RV K tb I μ e.val y)\/(es.find? (·.key.isStr (z0 nm))=none/\l.lookup nm=none):=by
 induction h with
 | nil=>exact .inr ⟨rfl,rfl⟩
 | @cons e t a v r q h1 h2 r' ih=>
  by_cases e':a=nm
  ·subst e'
   refine .inl ⟨e,v,?_,by simp [List.lookup],h2⟩
   simp [List.find?,h1,Value.isStr]
  ·have h3:e.key.isStr (z0 nm)=false:=by
    rw[h1]
    simp only[Value.isStr]
    rw[ke]
    simpa using e'
   have h4:(nm==a)=false:=by simpa using λ q=>e' q.symm
   simp only[List.find?,h3,List.lookup,h4]
   exact ih
theorem AttR.getL(h:AttR K tb I μ es l):(getL (z0 nm) es).isSome=true:=by
 unfold PySem.W.getL
 split
 ·rfl
 ·rw[if_neg (by rw[h.noRef];simp)];rfl
theorem AttR.put{hsh:Int}{tk:Tok}(hv:RV K tb I μ v y)(h:AttR K tb I μ es l):AttR K tb I μ (putL (z0 nm) hsh (.str (z0 nm) tk) v es) (jr nm y l):=by
 induction h with
 | nil=>exact .cons rfl hv .nil
 | @cons e t a u r q h1 h2 r' ih=>
  have h3:e.key.isStr (z0 nm)=(a==nm):=by
   rw[h1]
   simp only[Value.isStr]
   rw[ke]
  simp only[putL,jr,h3]
  by_cases e':(a==nm)=true
  ·rw[if_pos e',if_pos e']
   have:=be_ e'
   subst this
   exact .cons h1 hv r'
  ·rw[if_neg e',if_neg e']
   exact .cons h1 h2 ih
theorem X2(nm:List Nat)(y:V):∀ l,(jr nm y l).length<=l.length+1
 | []=>by simp [jr]
 | p::r=>by
  simp only[jr]
  split
  ·simp
  ·have:=X2 nm y r;simp;omega
set_option tactic.hygienic true in
theorem St.inst{s:Shared}(S:St K tb c.w c.h₀ c.L s.heap m M I H){a:Addr}(hi:(z6 M)[i]?=some a)(ho:H[i]?=some (.inst k d))(hd:H[d]?=some (.att l)) :
  (Ex4 λ C D es j=>A4 (tb.c k=some C) (M[d]?=some (D,dictOf es j)) (AttR K tb I (z6 M) es l) (InstAt s.heap a (instObj C D) C (some (dictOf es j)))):=by
 obtain⟨ob,h1,h2,h3⟩:=S.obj hi ho
 cases h3 with
 | inst q1 q2=>
  rename_i C D
  obtain⟨ob2,g1,g2,g3⟩:=S.obj q2 hd
  cases g3 with
  | att r1=>
   rename_i es j
   exact⟨C,D,es,j,q1,g1,r1,⟨h2,rfl,rfl,g2⟩⟩
theorem jX{x:V}(h:RV K tb I μ v x):handedIn v=true:=by cases h<;>rfl
set_option tactic.hygienic true in
theorem z0b{o:E}{ot:Expr}{an:List (List Nat)}(W:AmbA K tb an)(hn:nm∈an)(hb:∀ f a k p,ot≠.Call f a k p)(ho:SEp K tb G F hd n fi o ot)(hex:∀ (c:Cx) (A:Around) (s:Shared) (m:Str->Option Value) (M I:Led) (H:Hp) (k d:Nat) (v:Value) (y:V) (Q X:Value->Shared->Prop),Cok K hd n 8 c A->St K tb c.w c.h₀ c.L s.heap m M I H->RV K tb I (z6 M) v (.exc k d)->zN H nm (.exc k d)=some y->Post K tb (zU K tb) c s m M I (.ok y H) Q X->wpAny (model pw c.w) A (getAttr v (z0 nm) true) Q X s) :
  SEp K tb G F hd n fi (.attr o nm) (.Attribute ot (z0 nm) pos):=by
 intro c A s m M I L H Q X C hs ht S LL p
 rw[arm_eval_Attribute,zY hb]
 refine wpAny_bind (wp1 ht (ho c A s m M I L H _ _ C hs ht S LL (p.bind λ v x H' h' tk M' I' S' e z p' ht'=>?_)))
 refine wpAny_bind (wpAny_standAt (wpAny_bind (wpAny_holding ?_)))
 have fin:wpAny (model pw c.w) A (getAttr v (z0 nm) true) Q X {s with heap:=h',toks:=tk}->wpAny (model pw c.w) A (getAttr v (z0 nm) true) (λ r t=>wpAny (model pw c.w) A (letTemporaryGo ot v r >>= λ _=>pure r) Q X t) X {s with heap:=h',toks:=tk}:=
  λ h=>wpAny_mono h (λ r t q=>wpAny_bind (wpAny_letTemporaryGo (wpAny_pure q))) λ _ _ x=>x
 refine fin ?_
 cases hc:zN H' nm x with
 | none=>rw[hc] at p';exact p'.elim
 | some y=>
  rw[hc] at p'
  cases x with
  | ref i=>
   simp only[zN] at hc
   split at hc
   ·rename_i k d hi
    split at hc
    ·rename_i l hl
     refine RV.eRef z λ _ ha=>?_
     obtain⟨CC,D,es,j,g1,g2,g3,g4⟩:=St.inst (s:={s with heap:=h',toks:=tk}) S' ha hi hl
     obtain⟨w1,w2,attr,w3,w4⟩:=W.at_ _ _ _ g1 hn
     rcases g3.get (nm:=nm) with ⟨en,y',f1,f2,f3⟩ | ⟨_,f2⟩
     ·rw[hc] at f2
      cases f2
      exact get_own S'.F S'.kin g4 w1 w2 w3 w4 (by unfold PySem.W.getL;rw[f1]) (jX f3) (p'.now S' f3 _)
     ·rw[hc] at f2;cases f2
    ·cases hc
   ·cases hc
  | exc k d=>exact hex c A _ m M' I' H' k d v y Q X C S' z hc p'
  | _=>cases hc
theorem updM:∀ {M:Led} {I:Led} {i:Nat} {a:Addr} {ob ob':Obj},M[i]?=some (a,ob)->(z6 M).Nodup->(∀ p∈I,p.1≠a)->Upd a ob ob' (M++I) (M.set i (a,ob')++I)
 | [],_,i,_,_,_,h,_,_=>by simp at h
 | p::r,I,0,a,ob,ob',h,nd,ap=>by
  simp only[List.getElem?_cons_zero,Option.some.injEq] at h
  subst h
  refine .head λ q hq e=>?_
  have nd':=List.nodup_cons.mp nd
  rcases ma_ hq with h1 | h1
  ·exact nd'.1 (List.mem_map.mpr ⟨q,h1,e⟩)
  ·exact ap q h1 e
 | p::r,I,i+1,a,ob,ob',h,nd,ap=>by
  simp only[List.getElem?_cons_succ] at h
  have nd':=List.nodup_cons.mp nd
  refine .tail (λ e=>?_) (updM h nd'.2 ap)
  exact nd'.1 (List.mem_map.mpr ⟨(a,ob),List.mem_of_getElem? h,e.symm⟩)
theorem Kh{a:Addr}{ob':Obj}(hM:M[i]?=some (a,ob)):z6 (M.set i (a,ob'))=z6 M:=by
 have hlt:i<M.length:=(gs_ hM).1
 apply List.ext_getElem?
 intro j
 rw[List.getElem?_map,List.getElem?_map,List.getElem?_set]
 by_cases hj:i=j
 ·subst hj;rw[if_pos rfl,if_pos hlt,hM];rfl
 ·rw[if_neg hj]
theorem St.setN{Lc':Addr}(S:St K tb w h₀ Lc' h m M I H){a:Addr}{ob':Obj}{o:O}(hM:M[i]?=some (a,ob))(F:Fr h₀ Lc' h' m)(N:News h₀ Lc' h' (M.set i (a,ob')++I))(hnd:∀ l,H[i]?≠some (.dct l))(ho:RO K tb w I (z6 M) a ob' o) :
  St K tb w h₀ Lc' h' m (M.set i (a,ob')) I (H.set i o)/\Ext M I (M.set i (a,ob')) I:=by
 have had:=Kh (ob':=ob') hM
 refine⟨⟨F,N,by rw[had];exact S.nd,λ p hp q=>?_,by rw[had];exact S.ro.set hM ho,S.kin,S.tw⟩,λ _ h=>h,λ _ _ h=>by rw[had];exact h⟩
 rw[had] at q
 obtain⟨j,l,h1,h2⟩:=S.ap p hp q
 have hij:i≠j:=λ e=>by subst e;exact hnd l h2
 exact⟨j,l,by rw[List.getElem?_set_ne hij];exact h1,by rw[List.getElem?_set_ne hij];exact h2⟩
theorem St.apart{Lc':Addr}(S:St K tb w h₀ Lc' h m M I H){a:Addr}(hM:M[i]?=some (a,ob))(hnd:∀ l,H[i]?≠some (.dct l)):∀ p∈I,p.1≠a:=λ p hp e=>by
 have ha:p.1∈z6 M:=by rw[e];exact List.mem_map.mpr ⟨(a,ob),List.mem_of_getElem? hM,rfl⟩
 obtain⟨j,l,h1,h2⟩:=S.ap p hp ha
 have e1:(z6 M)[i]?=some a:=kd hM
 have e2:(z6 M)[j]?=some a:=by rw[List.getElem?_map,h1];simp [e]
 have hij:i=j:=by
  obtain⟨l1,q1⟩:=gs_ e1
  obtain⟨l2,q2⟩:=gs_ e2
  exact(List.getElem_inj S.nd).mp (q1.trans q2.symm)
 subst hij
 exact hnd l h2
theorem setS{s:Shared}{Q:Unit->Shared->Prop}{an:List (List Nat)}(W:AmbA K tb an)(hn:nm∈an)(S:St K tb c.w c.h₀ c.L s.heap m M I H){a:Addr}(hi:(z6 M)[i]?=some a)(ho:H[i]?=some (.inst k d))(hd:H[d]?=some (.att l))(hz:l.length<100)(hv:RV K tb I (z6 M) v y)(q:∀ h' tk M',St K tb c.w c.h₀ c.L h' m M' I (H.set d (.att (jr nm y l)))->Ext M I M' I->Q () {s with heap:=h',toks:=tk}):wpAny (model pw c.w) A (setAttr (.ref a) (z0 nm) v) Q X s:=by
 obtain⟨CC,D,es,j,g1,g2,g3,g4⟩:=S.inst hi ho hd
 obtain⟨w1,w2,_,_,_⟩:=W.at_ _ _ _ g1 hn
 obtain⟨x1,x2,x3⟩:=W.set_ _ _ _ g1 hn
 have hput:=AttR.put (nm:=nm) (hsh:=PyData.keyHash c.w.params (z0 nm)) (tk:=s.toks+1) hv g3
 refine set_dict S.F S.kin S.N g4 rfl x1 x2 x3 w2 g3.getL rfl (updM g2 S.nd (S.apart g2 (by rw[hd];intro l q;cases q))) ?_ λ h' F' N'=>?_
 ·have h1:=hput.length
  have h2:=X2 nm y l
  omega
 ·obtain⟨S',e'⟩:=S.setN g2 F' N' (by rw[hd];intro l q;cases q) (.att hput)
  exact q _ _ _ S' e'
theorem appS{s:Shared}(S:St K tb c.w c.h₀ c.L s.heap m M I H){a:Addr}{l:List V}(hi:(z6 M)[i]?=some a)(ho:H[i]?=some (.lst l))(hz:l.length<2 ^ 20)(hv:RV K tb I (z6 M) v y)(q:∀ h' M',St K tb c.w c.h₀ c.L h' m M' I (H.set i (.lst (l++[y])))->Ext M I M' I->Q .none {s with heap:=h'}):wpAny (model pw c.w) A (call (.builtin "list.append") [.ref a,v]) Q X s:=by
 obtain⟨ob,h1,h2,h3⟩:=S.obj hi ho
 obtain⟨vs,j,rfl,hvs,_⟩:=h3.lst_inv
 refine append_K S.F S.N (updM (ob':=PySem.W.listOf (vs.toArray.push v) (j+1)) h1 S.nd (S.apart h1 (by rw[ho];intro l q;cases q))) (λ h' F' N'=>?_) ?_
 ·obtain⟨S',e'⟩:=S.setN (o:=.lst (l++[y])) h1 F' N' (by rw[ho];intro l q;cases q) (by
   have:PySem.W.listOf (vs.toArray.push v) (j+1)={cls:=.type "list",data:=.seq (vs++[v]).toArray (j+1)}:=by simp [PySem.W.listOf]
   rw[this]
   exact .lst (hvs.append (.cons hv .nil)) (by simp;omega))
  exact q _ _ S' e'
 ·have:=hvs.length
  simp only[List.size_toArray]
  rw[sizeLine_eq];omega
noncomputable def qp(s:List Nat):Bool:=s.all (λ c=>decide (c<1114112))&&decide (s.length<2 ^ 20)
theorem zk(h:qp s=true):zu s:=by
 simp only[qp,Bool.and_eq_true,List.all_eq_true,decide_eq_true_eq] at h
 exact h
noncomputable def z1k(gn:Nat->Option Str)(fi:Fi)(e:E)(t:Expr):Bool:=match e with
 | .cst v=>onVi v λ i=>onC t λ c=>onCi c λ j=>j==i
 | .glb i=>onN t λ x=>jQ gn fi i x
 | _=>false
@[elab_as_elim] theorem Jk{v:E}{M:Expr->Prop}(h:z1k gn fi v t=true)(e:Yz G v=some y)(k1:∀ i k p,y=.int i->M (.Constant (.int i) k p))(k2:∀ j x p,jQ gn fi j x=true->G j=some y->M (.Name x p)):M t:=by
 cases v<;>first | cases h;done | skip
 ·revert e
  exact eVi h λ i h e=>eC h λ c k p h=>eCi h λ j h=>eB h (k1 i k p (Option.some.inj e).symm)
 ·exact eN h λ x p h=>k2 _ x p h e
noncomputable def okD(gn:Nat->Option Str)(fi:Fi):E->E->List (Option Expr)->List Expr->Bool
 | ks,vs,[],vt=>wV ks (wV vs (qX vt))
 | ks,vs,a::kt,vt=>qy ks λ k r=>j0 k λ k=>VH k λ k=>qy vs λ v q=>onO a λ x=>onC x λ x=>K6 x λ x=>onc vt λ t vr=>x==z0 k&&qp k&&z1k gn fi v t&&okD gn fi r q kt vr
theorem jD{k:List Nat}{r v q:E}(e:xy G (.cons (.cst (.str k)) r) (.cons v q)=some l):∃ y l',Yz G v=some y/\xy G r q=some l'/\l=(k,y)::l':=by
 change (match Yz G v with | some y=>(xy G r q).map ((k,y)::·) | none=>none)=some l at e
 cases hv:Yz G v with
 | none=>rw[hv] at e;cases e
 | some y=>
  rw[hv] at e
  obtain⟨l',e1,e2⟩:=om_ e
  exact⟨y,l',rfl,e1,e2.symm⟩
theorem Jm{kt:List (Option Expr)}:∀ {ks vs:E} {vt:List Expr} {l:List (List Nat×V)},okD gn fi ks vs kt vt=true->xy G ks vs=some l->kt.length=vt.length/\kt.length=l.length/\kt.all (·.isSome)=true:=by
 induction kt with
 | nil=>
  intro ks vs vt l h e
  revert e
  refine eNil h λ h=>eNil h λ h=>eL h λ e=>?_
  cases e
  exact⟨rfl,rfl,rfl⟩
 | cons a kt ih=>
  intro ks vs vt l h e
  revert e
  refine YY h λ k r h=>V9 h λ k h=>eVs h λ k h=>YY h λ v q h=>eO h λ x h=>eC h λ x _ _ h=>eCs h λ x h=>ec h λ t vr h=>K4 h λ _ _ _ h4 e=>?_
  obtain⟨y,l',_,e1,rfl⟩:=jD e
  obtain⟨a1,a2,a3⟩:=ih h4 e1
  exact⟨congrArg (·+1) a1,congrArg (·+1) a2,a3⟩
theorem Va(W:Amb K tb G gn)(C:Cok K hd n 8 c A)(hs:c.scope=fi.sc)(kt:List (Option Expr)):∀ (ks vs:E) (vt:List Expr) (l:List (List Nat×V)) (s:Shared) (m:Str->Option Value) (M I:Led) (H:Hp) (Q:List (Value×Value)->Shared->Prop),
  St K tb c.w c.h₀ c.L s.heap m M I H->xy G ks vs=some l->okD gn fi ks vs kt vt=true->
  (∀ ps kvs tk,Carries (strKind pw c.w) ps kvs->KvR K tb I (z6 M) kvs l->kvs.map (·.1)=l.map (λ p=>z0 p.1)->Q ps {s with toks:=tk})->
  wpAny (model pw c.w) A (evalPairs (pairTrees kt vt c.env pos)) Q X s:=by
 induction kt with
 | nil=>
  intro ks vs vt l s m M I H Q S e h q
  revert e
  refine eNil h λ h=>eNil h λ h=>eL h λ e=>?_
  cases e
  exact evalPairs_nil (q [] [] s.toks trivial .nil rfl)
 | cons a kt ih=>
  intro ks vs vt l s m M I H Q S e h q
  revert e
  refine YY h λ k r h=>V9 h λ k h=>eVs h λ k h=>YY h λ v q h=>eO h λ x h=>eC h λ x _ _ h=>eCs h λ x h=>ec h λ t vr h=>K4 h λ h1 h2 h3 h4=>eB h1 λ e=>?_
  obtain⟨y,l',hv,e1,rfl⟩:=jD e
  have hok:=zk h2
  refine evalPairs_cons (wpAny_Constant_str (wpAny_bind ?_))
  refine Jk h3 hv (λ i _ _ hi=>?_) λ j xn _ h3 hy=>?_
  ·subst hi
   refine wpAny_Constant_int (wpAny_bind (wpAny_standAt (wpAny_pure ?_)))
   exact ih r _ vr l' _ m M I H _ S e1 h4 λ ps kvs tk c1 c2 c3=>q _ ((z0 k,.int i (s.toks+1))::kvs) tk ⟨strKind_is _ _ _ _,rfl,c1⟩ (.cons hok (.int _ _) c2) (congrArg (z0 k::·) c3)
  ·simp only[jQ,Bool.and_eq_true,beq_iff_eq,decide_eq_true_eq,Bool.not_eq_true'] at h3
   obtain⟨⟨f1,f2⟩,f3⟩:=h3
   obtain⟨pp,lo,mean,mg,mb,T⟩:=C.T
   obtain⟨vv,q1,q2⟩:=W.g j y xn f1 hy
   refine nameX_K S.F S.kin (topRead_of T) q1 ?_ C.fk (by show c.scope.names.lookup _=_;rw[hs];exact f2) f3
   refine wpAny_bind (wpAny_standAt (wpAny_pure ?_))
   exact ih r _ vr l' _ m M I H _ S e1 h4 λ ps kvs tk c1 c2 c3=>q _ ((z0 k,vv)::kvs) tk ⟨strKind_is _ _ _ _,rfl,c1⟩ (.cons hok (q2 _ _) c2) (congrArg (z0 k::·) c3)
theorem kA:∀ {l:List (List Nat)},l.Nodup->(l.map z0).Nodup
 | [],_=>by simp
 | a::r,h=>by
  have h':=List.nodup_cons.mp h
  rw[List.map_cons,List.nodup_cons]
  refine⟨λ q=>?_,kA h'.2⟩
  obtain⟨b,hb,e⟩:=List.mem_map.mp q
  exact h'.1 (QZ e ▸ hb)
set_option tactic.hygienic true in
theorem z2F{ks vs:E}{kt:List (Option Expr)}{vt:List Expr}(W:Amb K tb G gn)(hok:okD gn fi ks vs kt vt=true):SEp K tb G F hd n fi (.dct ks vs) (.Dict kt vt pos):=by
 intro c A s m M I L H Q X C hs ht S LL p
 change Post K tb (zU K tb) c s m M I (JA H (xy G ks vs)) Q X at p
 cases hD:xy G ks vs with
 | none=>rw[hD] at p;exact p.elim
 | some l=>
  rw[hD] at p
  change Post K tb (zU K tb) c s m M I (if decide (l.map (·.1)).Nodup&&decide (l.length<=15) then _ else _) Q X at p
  split at p
  ·rename_i hc
   simp only[Bool.and_eq_true,decide_eq_true_eq] at hc
   obtain⟨l1,l2,l3⟩:=Jm hok hD
   obtain⟨pp,lo,mean,mg,mb,T⟩:=C.T
   by_cases h0:kt=[]
   ·subst h0
    have hv:vt=[]:=by cases vt with | nil=>rfl | cons=>simp at l1
    subst hv
    have hl:l=[]:=by cases l with | nil=>rfl | cons=>simp at l2
    subst hl
    refine newDict_K S.F S.N T.nolimit λ d h' o F' N' lt hsm hdo _ _ _=>?_
    obtain⟨S',e'⟩:=St.newD (l:=[]) hsm S (λ p hp=>Nat.ne_of_lt (lt p hp)) F' N' hdo .nil
    refine p _ _ s.toks _ _ S' e' (.ref ?_)
    rw[←S.ro.length]
    exact zG
   ·refine Dict_made (knd:=strKind pw c.w) (pos:=pos) S.F l3 l1 h0 (by omega) λ Fp=>?_
    have Sp:=S.push' {cls:=.type "dict",data:=.dict #[]}
    have hne:(s.heap.push {cls:=.type "dict",data:=.dict #[]}).get? s.heap.objs.size=some {cls:=.type "dict",data:=.dict #[]}:=Heap.get?_push_size _ rfl
    refine Va W C hs kt ks vs vt l {s with heap:=s.heap.push {cls:=.type "dict",data:=.dict #[]}} m M I H _ Sp hD hok λ ps kvs tk c1 c2 c3=>?_
    refine⟨kvs,c1,Heap.dictOf_iff.mpr ⟨_,hne,?_⟩,λ h' hd' hsb=>?_⟩
    ·exact⟨#[],0,⟨rfl,rfl,rfl⟩,rfl,λ e he=>by simp at he,.nil,by simp⟩
    ·have hnd:(kvs.map (·.1)).Nodup:=by
      rw[c3]
      have:=kA hc.1
      rwa [List.map_map] at this
     rw[merged_nil_of_nodup _ hnd] at hd'
     obtain⟨ob,g1,g2⟩:=Heap.dictOf_iff.mp hd'
     have hsm:(s.heap.objs.size==sysModules)=false:=by
      obtain⟨a,o,h1,h2⟩:=W.sys
      have h3:s.heap.objs.size≠1:=Nat.ne_of_gt (Nat.lt_trans h1 (Heap.lt_size (S.kget h2)))
      exact bn_ h3
     have F':Fr c.h₀ c.L h' m:=Fr.filled S.F hsb
     have N':News c.h₀ c.L h' ((s.heap.objs.size,ob)::(M++I)):=News.filled S.F S.N hsb g1
     obtain⟨S',e'⟩:=St.newD hsm S (x9 S) F' N' g2 c2
     refine p _ _ _ _ _ S' e' (.ref ?_)
     rw[←S.ro.length]
     exact zG
  ·exact p.elim
end
noncomputable def TbT(B:Heap)(e:Addr)(h:Heap)(vs:Array Value):Prop:=(Ex3 λ T oT ts=>A6 (vs[1]?=some (.ref T)) (B.get? T=none) (T≠e) (h.get? T=some oT) (oT.data=.fields ts) (3<ts.size))
noncomputable def FlyT(B:Heap)(l:List Env)(e C D:Addr)(h:Heap):Prop:=
 A4 (B.StaysIn h) (B.get? e=none) (h.FunFrames B l) (Ex2 λ oe vs=>A7 (h.get? e=some oe) (oe.cls=.ref C) (oe.dict=some D) (oe.data=.fields vs) (2<vs.size) (CtxOk C vs) (TbT B e h vs))
theorem FlyT.x{B:Heap}{l:List Env}{e:Addr}(x:FlyT B l e C D h):QO B l e C D h:=by
 obtain⟨a,b,c,oe,vs,d1,d2,d3,d4,d5,d7,d6⟩:=x
 exact⟨a,b,c,oe,vs,d1,d2,d3,d4,d5,d7,.inr d6⟩
section
variable {M:Model}{A:Around}{E:Value->Shared->Prop}{s:Shared}{B:Heap}{env:Env}{outer l:List Env}{L e C D:Addr}{Q:Unit->Shared->Prop}
theorem jN{e:Addr}{oe:Obj}{vs:Array Value}(he:h.get? e=some oe)(hd:oe.data=.fields vs){b:Addr}{o:Obj}(hb:h.get? b=some o)(hn:∀ vs,o.data≠.fields vs):b≠e:=λ q=>by
 rw[q,he] at hb;cases hb;exact hn vs hd
theorem qZ{T:Addr}{oT:Obj}{ts:Array Value}(hT:h.get? T=some oT)(hd:oT.data=.fields ts)(k:Nat)(x:Value)(g:Obj->Obj)(hg:g=Obj.mapFields (·.setIfInBounds k x)) :
  (h.update T g).get? T=some (g oT)/\(g oT).data=.fields (ts.setIfInBounds k x)/\(g oT).cls=oT.cls/\(g oT).dict=oT.dict/\∀ b,b≠T->(h.update T g).get? b=h.get? b:=by
 subst hg
 have h1:=Obj.data_mapFields hd (·.setIfInBounds k x)
 refine⟨Heap.get?_update_self _ hT (Obj.isFreed_of_fields h1),h1,Obj.cls_mapFields _ _,?_,λ b hb=>Heap.get?_update_other _ _ (Ne.symm hb)⟩
 obtain⟨c,d,dt,sl⟩:=oT
 cases hd
 rfl
theorem CtxOk.upd{vs:Array Value}{x:Value}(h:CtxOk C vs):CtxOk C (vs.setIfInBounds 1 x):=h.imp id λ q=>by rw[Array.getElem?_setIfInBounds,if_neg (by decide)];exact q
theorem Ze{oe:Obj}{vs:Array Value}{head:Value}{hadNext:Bool}(hfr:A.frames=some (env::outer))(hf:env.frame=some L)(hl:s.heap.FunFrames B (env::outer))(he:s.heap.get? e=some oe)(hkb:B.StaysIn s.heap)(hen:B.get? e=none)(hc:oe.cls=.ref C)(hdi:oe.dict=some D)(hd:oe.data=.fields vs)(hsz:2<vs.size)(hcx:CtxOk C vs)(h:∀ h',FlyT B (env::outer) e C D h'->Up s.heap h'->Q () {s with heap:=h'}) :
  wpAny M A (do let a ←frameOf env;let pl ←entryPlaceOf L hadNext;let b ←EntryCells.newEntry head a .none (rawInt L) .none pl;setField (.ref e) 1 b) Q E s:=by
 have hene:e∉(env::outer).filterMap (·.frame):=λ hm=>by
  obtain⟨_,o,ho,hnf⟩:=hl.mem hm
  rw[he] at ho;cases ho;exact hnf vs hd
 refine wpAny_bind (wpAny_frameOf_fun hfr hl hf λ h₁ hs₁=>?_)
 refine wpAny_bind (wpAny_entryPlaceOf λ pl hpl=>?_)
 unfold EntryCells.newEntry newFields
 refine wpAny_bind (wpAny_newObj_type ?_ (hpl.sizeOk5 _ _ _ _ _))
 have he₁:h₁.get? e=some oe:=(hs₁.2.1 e hene).trans he
 have kb₁:B.StaysIn h₁:=λ b o hbo=>(hs₁.2.1 b λ hm=>by rw[(hl.mem hm).1] at hbo;cases hbo).trans (hkb b o hbo)
 have he₂:=Heap.get?_push_of_some (h:=h₁) {cls:=.type "traceback",dict:=none,data:=.fields ([head,.ref L,.none,rawInt L,.none]++(if pl.isEmpty then List.replicate 6 Value.none else pl)).toArray} he₁
 refine wpAny_setField he₂ hd (by omega) (h _ ?_ ?_)
 all_goals
  have hTe:h₁.objs.size≠e:=Nat.ne_of_gt (Heap.lt_size he₁)
  obtain⟨u1,u2,u3,u4,u5⟩:=qZ he₂ hd 1 (Value.ref h₁.objs.size) _ rfl
  have hT₂:=Heap.get?_push_size (o:={cls:=.type "traceback",dict:=none,data:=.fields ([head,.ref L,.none,rawInt L,.none]++(if pl.isEmpty then List.replicate 6 Value.none else pl)).toArray}) h₁ rfl
  have keep:∀ b o,b≠e->h₁.get? b=some o->((h₁.push {cls:=.type "traceback",dict:=none,data:=.fields ([head,.ref L,.none,rawInt L,.none]++(if pl.isEmpty then List.replicate 6 Value.none else pl)).toArray}).update e (Obj.mapFields (·.setIfInBounds 1 (Value.ref h₁.objs.size)))).get? b=some o:=
   λ b o hbe hb=>(u5 b hbe).trans (Heap.get?_push_of_some _ hb)
 ·refine⟨λ b o hbo=>keep b o (λ q=>by rw[q,hen] at hbo;cases hbo) (kb₁ b o hbo),hen,hl.of_keeps λ b o hb hnf=>?_,_,_,u1,u3.trans hc,u4.trans hdi,u2,by simpa using hsz,hcx.upd,h₁.objs.size,_,_,by simp [show 1<vs.size by omega],kb₁.fresh,hTe,(u5 _ hTe).trans hT₂,rfl,by simp only[List.size_toArray,List.length_append,List.length_cons,List.length_nil];omega⟩
  obtain⟨sl,hs⟩:=hs₁.2.2 b o hb
  exact⟨_,keep b _ (jN he hd hb hnf) hs,rfl⟩
 ·refine⟨λ b o hb hnf=>?_,λ b eb=>?_⟩
  ·obtain⟨sl,hs⟩:=hs₁.2.2 b o hb
   exact⟨sl,keep b _ (jN he hd hb hnf) hs⟩
  ·obtain⟨o,hb⟩:=Option.isSome_iff_exists.mp eb
   by_cases q:b=e
   ·rw[q,u1];rfl
   ·obtain⟨sl,hs⟩:=hs₁.2.2 b o hb
    rw[keep b _ q hs];rfl
theorem WP(hfr:A.frames=some (env::outer))(hf:env.frame=some L)(x:QO B (env::outer) e C D s.heap)(h:∀ h',FlyT B (env::outer) e C D h'->Up s.heap h'->Q () {s with heap:=h'}):wpAny M A (noteFrame (.ref e) env) Q E s:=by
 obtain⟨hkb,hen,hl,oe,vs,he,hc,hdi,hd,hsz,hcx,htb⟩:=x
 unfold noteFrame
 simp only[hf]
 rcases htb with h1 | ⟨T,oT,ts,h1,hnT,hTe,hT,hdT,h3⟩
 ·refine wpAny_bind (wpAny_field he hd h1 ?_)
  rw[if_neg (by decide)]
  exact Ze hfr hf hl he hkb hen hc hdi hd hsz hcx h
 ·refine wpAny_bind (wpAny_field he hd h1 ?_)
  rw[if_pos (show(Value.ref T !=Value.none)=true from by simp)]
  refine wpAny_bind (wpAny_field hT hdT (x:=ts[3]) (by simp [h3]) ?_)
  by_cases hq:(ts[3]==rawInt L)=true
  ·rw[if_pos hq]
   exact wpAny_pure (h s.heap ⟨hkb,hen,hl,oe,vs,he,hc,hdi,hd,hsz,hcx,T,oT,ts,h1,hnT,hTe,hT,hdT,h3⟩ (.refl _))
  ·rw[if_neg hq]
   refine wpAny_bind (wpAny_setField hT hdT h3 ?_)
   obtain⟨u1,u2,u3,u4,u5⟩:=qZ hT hdT 3 Value.none _ rfl
   refine Ze hfr hf (hl.of_keeps λ b o hb hnf=>⟨o,(u5 b (jN hT hdT hb hnf)).trans hb,rfl⟩) ((u5 e (Ne.symm hTe)).trans he) (λ b o hbo=>(u5 b λ q=>by rw[q,hnT] at hbo;cases hbo).trans (hkb b o hbo)) hen hc hdi hd hsz hcx λ h' f1 f2=>h h' f1 ?_
   refine⟨λ b o hb hnf=>f2.1 b o ((u5 b (jN hT hdT hb hnf)).trans hb) hnf,λ b eb=>f2.2 b ?_⟩
   by_cases q:b=T
   ·rw[q];show(Heap.get? _ _).isSome=true;rw[u1];rfl
   ·show(Heap.get? _ _).isSome=true;rw[u5 b q];exact eb
theorem vy{fr:Option Addr}(x:FlyT B l e C D s.heap)(h:∀ h',FlyT B l e C D h'->Up s.heap h'->Q () {s with heap:=h'}):wpAny M A (setFlight (.ref e) fr) Q E s:=by
 obtain⟨hkb,hen,hl,oe,vs,he,hc,hdi,hd,hsz,hcx,T,oT,ts,h1,hnT,hTe,hT,hdT,h3⟩:=x
 unfold setFlight
 refine wpAny_bind (wpAny_field he hd h1 ?_)
 rw[if_pos (show(Value.ref T !=Value.none)=true from by simp)]
 refine wpAny_setField hT hdT h3 (h _ ?_ ?_)
 all_goals obtain⟨u1,u2,u3,u4,u5⟩:=qZ hT hdT 3 (fr.elim .none λ f=>rawInt f) _ rfl
 ·exact⟨λ b o hbo=>(u5 b λ q=>by rw[q,hnT] at hbo;cases hbo).trans (hkb b o hbo),hen,hl.of_keeps λ b o hb hnf=>⟨o,(u5 b (jN hT hdT hb hnf)).trans hb,rfl⟩,oe,vs,(u5 e (Ne.symm hTe)).trans he,hc,hdi,hd,hsz,hcx,T,_,_,h1,hnT,hTe,u1,u2,by simpa using h3⟩
 ·refine⟨λ b o hb hnf=>⟨o.slots,(u5 b (jN hT hdT hb hnf)).trans hb⟩,λ b eb=>?_⟩
  by_cases q:b=T
  ·rw[q];show(Heap.get? _ _).isSome=true;rw[u1];rfl
  ·show(Heap.get? _ _).isSome=true;rw[u5 b q];exact eb
theorem z3z(hfr:A.frames=some (env::outer))(hf:env.frame=some L)(x:QO B (env::outer) e C D s.heap)(h:∀ h',FlyT B outer e C D h'->Up s.heap h'->Q () {s with heap:=h'}):wpAny M A (leaving env (.ref e)) Q E s:=by
 unfold leaving
 refine wpAny_bind (WP hfr hf x λ h₁ f1 u1=>vy (fr:=none) (s:={s with heap:=h₁}) f1 λ h₂ f2 u2=>h h₂ ?_ (u1.trans u2))
 obtain⟨a,b,⟨_,_,c⟩,d⟩:=f2
 exact⟨a,b,c,d⟩
theorem Qf(hfr:A.frames=some (env::outer))(hf:env.frame=some L)(x:QO B (env::outer) e C D s.heap)(h:∀ h',FlyT B (env::outer) e C D h'->Up s.heap h'->E (.ref e) {s with heap:=h'}):notedBy M A env E (.ref e) s:=WP hfr hf x h
theorem z1w(x:FlyT B l e C D s.heap)(h:∀ h',FlyT B l e C D h'->Up s.heap h'->E (.ref e) {s with heap:=h'}):cameBackBy M A env E (.ref e) s:=by
 obtain⟨hkb,hen,hl,oe,vs,he,hc,hdi,hd,hsz,hcx,T,oT,ts,h1,r1,r2,r3,r4,r5⟩:=x
 unfold cameBackBy
 refine wpAny_bind (wpAny_field he hd h1 ?_)
 rw[if_neg (by simp)]
 exact vy ⟨hkb,hen,hl,oe,vs,he,hc,hdi,hd,hsz,hcx,T,oT,ts,h1,r1,r2,r3,r4,r5⟩ h
end
section
variable (K:Frag)(tb:Tab)
noncomputable def PostS(fi:Fi)(c:Cx)(s:Shared)(M I:Led)(o:Out)(Q:Flow->Shared->Prop)(X:Value->Shared->Prop):Prop:=match o with
 | .next L' H'=>∀ h' tk m' M' I',St K tb c.w c.h₀ c.L h' m' M' I' H'->Ext M I M' I'->LR K tb fi.ns m' I' (z6 M') L'->Q .next {s with heap:=h',toks:=tk}
 | .cont L' H'=>∀ h' tk m' M' I',St K tb c.w c.h₀ c.L h' m' M' I' H'->Ext M I M' I'->LR K tb fi.ns m' I' (z6 M') L'->Q .cont {s with heap:=h',toks:=tk}
 | .ret v H'=>∀ a h' tk m' M' I',St K tb c.w c.h₀ c.L h' m' M' I' H'->Ext M I M' I'->RV K tb I' (z6 M') a v->Q (.ret a) {s with heap:=h',toks:=tk}
 | .exc k d H'=>∀ e h' tk m',XPost K tb c m' M I k d H' e h'->X (.ref e) {s with heap:=h',toks:=tk}
 | .bad=>False
variable (G:Nat->Option V)(F:Fn)(W:Nat)(hd:Bool)(n:Nat)(fi:Fi)
noncomputable def SSp(x:S)(t:Stmt):Prop:=∀ (c:Cx) (A:Around) (s:Shared) (m:Str->Option Value) (M I:Led) (L:Lc) (H:Hp) (Q:Flow->Shared->Prop) (X:Value->Shared->Prop),
 Cok K hd n 8 c A->c.scope=fi.sc->1<=s.toks->St K tb c.w c.h₀ c.L s.heap m M I H->LR K tb fi.ns m I (z6 M) L->PostS K tb fi c s M I (evS G F W x L H) Q X->wpAny (model pw c.w) A (exec t c.env) Q X s
noncomputable def SSs(x:S)(ts:List Stmt):Prop:=∀ (c:Cx) (A:Around) (s:Shared) (m:Str->Option Value) (M I:Led) (L:Lc) (H:Hp) (Q:Flow->Shared->Prop) (X:Value->Shared->Prop),
 Cok K hd n 8 c A->c.scope=fi.sc->1<=s.toks->St K tb c.w c.h₀ c.L s.heap m M I H->LR K tb fi.ns m I (z6 M) L->PostS K tb fi c s M I (evS G F W x L H) Q X->wpAny (model pw c.w) A (execs ts c.env) Q X s
end
section
variable {K:Frag}{tb:Tab}{G:Nat->Option V}{gn:Nat->Option Str}{F:Fn}{W:Nat}{hd:Bool}{n:Nat}{fi:Fi}
theorem XPost.ext{e:Addr}(x:Ext M I M' I')(q:XPost K tb c m M' I' k d H e h):XPost K tb c m M I k d H e h:=by
 obtain⟨C,D,M2,I2,q1,q2,q3,q4,q5,q6,q7,q8,q9⟩:=q
 exact⟨C,D,M2,I2,q1,q2,q3,q4,q5,q6,q7,q8,x.trans q9⟩
theorem PostS.ext{s:Shared}{o:Out}{Q:Flow->Shared->Prop}{tk:Nat}(x:Ext M I M' I')(p:PostS K tb fi c s M I o Q X):PostS K tb fi c {s with heap:=h',toks:=tk} M' I' o Q X:=by
 cases o with
 | next L H=>exact λ h'' tk' m' M2 I2 S y l=>p h'' tk' m' M2 I2 S (x.trans y) l
 | cont L H=>exact λ h'' tk' m' M2 I2 S y l=>p h'' tk' m' M2 I2 S (x.trans y) l
 | ret v H=>exact λ a h'' tk' m' M2 I2 S y l=>p a h'' tk' m' M2 I2 S (x.trans y) l
 | exc k d H=>exact λ e h'' tk' m' q=>p e h'' tk' m' (q.ext x)
 | bad=>exact p
theorem PostS.bind{Rel:Led->List Addr->α->β->Prop}{s:Shared}{r:R β}{f:β->Hp->Out}{Q:Flow->Shared->Prop}{Q1:α->Shared->Prop}(p:PostS K tb fi c s M I (r.out f) Q X)(h:∀ a b H' h' tk M' I',St K tb c.w c.h₀ c.L h' m M' I' H'->Ext M I M' I'->Rel I' (z6 M') a b->PostS K tb fi c {s with heap:=h',toks:=tk} M' I' (f b H') Q X->Q1 a {s with heap:=h',toks:=tk}) :
  Post K tb Rel c s m M I r Q1 X:=by
 cases r with
 | ok b H'=>exact λ a h' tk M' I' S x z=>h a b H' h' tk M' I' S x z (PostS.ext x p)
 | exc k d H'=>exact λ e h' tk q=>p e h' tk m q
 | bad=>exact p
theorem PostS.now{s:Shared}{Q:Flow->Shared->Prop}(p:PostS K tb fi c s M I (.next L H) Q X)(S:St K tb c.w c.h₀ c.L s.heap m M I H)(l:LR K tb fi.ns m I (z6 M) L)(tk:Nat):Q .next {s with toks:=tk}:=
 p s.heap tk m M I S (.refl _ _) l
theorem LR.set{ns:List Str}{x:Str}(hn:ns.Nodup)(h:LR K tb ns m I μ L)(hi:ns[i]?=some x)(hv:RV K tb I μ v y) :
  LR K tb ns (λ z=>if z=x then some v else m z) I μ (L.set i (some y)):=by
 intro j z e
 rw[List.getElem?_set] at e
 by_cases hj:i=j
 ·subst hj
  rw[if_pos rfl] at e
  split at e
  ·cases e
   exact⟨x,v,hi,by simp,hv⟩
  ·cases e
 ·rw[if_neg hj] at e
  obtain⟨nm,u,h1,h2,h3⟩:=h j z e
  refine⟨nm,u,h1,?_,h3⟩
  have:nm≠x:=λ q=>by
   subst q
   have a1:=(gs_ hi)
   have a2:=(gs_ h1)
   obtain⟨l1,e1⟩:=a1
   obtain⟨l2,e2⟩:=a2
   exact hj ((List.getElem_inj hn).mp (e1.trans e2.symm))
  simp only[this,if_false]
  exact h2
theorem ql{s:Shared}{x:Str}{Q:Unit->Shared->Prop}(C:Cok K hd n 8 c A)(hs:c.scope=fi.sc)(hl:fi.sc.names.lookup x=some .local)(S:St K tb c.w c.h₀ c.L s.heap m M I H)(q:∀ h' tk,St K tb c.w c.h₀ c.L h' (λ z=>if z=x then some v else m z) M I H->Q () {s with heap:=h',toks:=tk}):wpAny (model pw c.w) A (storeName c.env x v) Q X s:=by
 refine wpAny_storeName_local (by show c.scope.names.lookup _=_;rw[hs];exact hl) S.F.ns (λ h' hn hsb=>q h' _ ⟨S.F.set hn hsb,λ p hp=>⟨(hsb.2 _ (S.N p hp).2.1).trans (S.N p hp).1,(S.N p hp).2⟩,S.nd,S.ap,S.ro,S.kin,S.tw⟩) ?_
 show(c.scope.kind==.class||(c.scope.kind==.module&&_))=false
 rw[C.fk];rfl
noncomputable def yC(t:Expr):Bool:=!(Nat.beq t.ctorIdx 8||(Nat.beq t.ctorIdx 9||Nat.beq t.ctorIdx 10))
theorem y5{v:Expr}{t:Option Expr}{l:Nat}{env:Env}(h:yC v=true):swapsWith v t l env=pure false:=by
 cases v<;>first | rfl | cases h
theorem yX{x:Str}(h:yw fi i x=true):fi.ns[i]?=some x/\fi.sc.names.lookup x=some .local:=by
 simp only[yw,Bool.and_eq_true,beq_iff_eq,decide_eq_true_eq] at h
 exact⟨h.1.1,h.1.2⟩
theorem z2X{e:E}{x:Str}(hnd:fi.ns.Nodup)(hx:yw fi i x=true)(hc:yC t=true)(h:SEp K tb G F hd n fi e t):SSp K tb G F W hd n fi (.asg i e) (.Assign [.Name x p1] t pos):=by
 intro c A s m M I L H Q X C hs ht S LL p
 obtain⟨hi,hl⟩:=yX hx
 refine wpAny_Assign_Name (h c A s m M I L H _ _ C hs ht S LL (PostS.bind p λ v y H' h' tk M' I' S' e' z p'=>?_)) (y5 hc)
 exact ql (s:={s with heap:=h',toks:=tk}) C hs hl S' λ h2 tk2 S2=>p' _ _ _ _ _ S2 (.refl _ _) ((LL.ext e').set hnd hi z)
set_option tactic.hygienic true in
theorem K7{k:Bop}{x:V}{a b:Value}{s:Shared}(hk:qG k x=true)(S:St K tb c.w c.h₀ c.L s.heap m M I H)(ha:RV K tb I (z6 M) a x)(hb:RV K tb I (z6 M) b y)(p:Post K tb (zU K tb) c s m M I (xT k x y H) Q X):wpAny (model pw c.w) A (inplaceOp (qQ k) a b) Q X s:=by
 cases k<;>cases x<;>first | cases hk;done | skip
 ·cases ha
  cases y with
  | int j=>cases hb;exact PyProof.Rows.iadd_int (p.now S (.int _ _) _)
  | _=>exact p.elim
 ·refine RV.eStr ha λ ta h1=>?_
  cases y with
  | str l2=>
   refine RV.eStr hb λ tb' h2=>?_
   rename_i l1
   change Post K tb (zU K tb) c s m M I (if decide (l1.length+l2.length<2 ^ 20) then .ok (.str (l1++l2)) H else .bad) Q X at p
   split at p
   ·rename_i hz
    have hz':=of_decide_eq_true hz
    have e0:∀ t' tk,Q (.str (z0 (l1++l2)) t') {s with toks:=tk}:=λ t' tk=>p.now S (.str _ (vo h1 h2 hz')) tk
    refine PySem.P.iadd_str ?_
    split
    ·rename_i q
     have:l1=[]:=by simpa [zc] using q
     subst this
     exact e0 _ s.toks
    ·split
     ·rename_i q
      have:l2=[]:=by simpa [zc] using q
      subst this
      have:=e0 ta s.toks
      rw[List.append_nil] at this
      exact this
     ·rw[qC]
      exact⟨by rw[zc,sizeLine_eq];simp;omega,e0 _ _⟩
   ·exact p.elim
  | _=>exact p.elim
 ·cases ha
  cases y with
  | int j=>cases hb;exact PyProof.Rows.isub_int (p.now S (.int _ _) _)
  | _=>exact p.elim
set_option tactic.hygienic true in
theorem z37{k:Bop}{e:E}{x:Str}(hnd:fi.ns.Nodup)(hx:yw fi i x=true)(h:SEp K tb G F hd n fi e t):SSp K tb G F W hd n fi (.aug i k e) (.AugAssign (.Name x p1) (qQ k) t pos):=by
 intro c A s m M I L H Q X C hs ht S LL p
 obtain⟨hi,hl⟩:=yX hx
 simp only[x_auo] at p
 split at p
 ·rename_i xv hv
  split at p
  ·rename_i hk
   obtain⟨nm,u,q1,q2,q3⟩:=LL i xv hv
   rw[hi] at q1
   cases q1
   refine wpAny_AugAssign_Name (wpAny_loadName_local (env:=c.env) C.fk (by show c.scope.names.lookup _=_;rw[hs];exact hl) S.F.ns q2 ?_)
   refine h c A s m M I L H _ _ C hs ht S LL (PostS.bind p λ v y H' h' tk M' I' S' e' z p'=>?_)
   refine K7 (c:=c) (s:={s with heap:=h',toks:=tk}) hk S' (q3.ext e') z (PostS.bind p' λ v2 y2 H2 h2 tk2 M2 I2 S2 e2 z2 p2=>?_)
   exact ql (s:={s with heap:=h2,toks:=tk2}) C hs hl S2 λ h3 tk3 S3=>p2 _ _ _ _ _ S3 (.refl _ _) (((LL.ext e').ext e2).set hnd hi z2)
  ·exact p.elim
 ·exact p.elim
theorem ss_if{x:E}{a b:S}{ta tb':List Stmt}(hx:STp K tb G F hd n fi x t)(ha:SSs K tb G F W hd n fi a ta)(hb:SSs K tb G F W hd n fi b tb'):SSp K tb G F W hd n fi (.if_ x a b) (.If t ta tb' pos):=by
 intro c A s m M I L H Q X C hs ht S LL p
 refine wpAny_If (wp1 ht (hx c A s m M I L H _ _ C hs ht S LL (PostS.bind p λ u y H' h' tk M' I' S' e z p' ht'=>?_)))
 cases z
 cases u
 ·exact hb c A _ m M' I' L H' _ _ C hs ht' S' (LL.ext e) p'
 ·exact ha c A _ m M' I' L H' _ _ C hs ht' S' (LL.ext e) p'
theorem z1N{e:E}(h:SEp K tb G F hd n fi e t):SSp K tb G F W hd n fi (.ret e) (.Return (some t) pos):=by
 intro c A s m M I L H Q X C hs ht S LL p
 refine wpAny_Return_some (h c A s m M I L H _ _ C hs ht S LL (PostS.bind p λ v y H' h' tk M' I' S' e' z p'=>?_))
 exact p' _ _ _ _ _ _ S' (.refl _ _) z
theorem z11:SSp K tb G F W hd n fi (.ret (.cst .none)) (.Return none pos):=by
 intro c A s m M I L H Q X C hs ht S LL p
 exact wpAny_Return_none (p _ _ s.toks _ _ _ S (.refl _ _) .none)
theorem z07:SSp K tb G F W hd n fi .cont (.Continue pos):=by
 intro c A s m M I L H Q X C hs ht S LL p
 exact wpAny_Continue (p _ s.toks _ _ _ S (.refl _ _) LL)
theorem JU:SSp K tb G F W hd n fi .pass (.Pass pos):=by
 intro c A s m M I L H Q X C hs ht S LL p
 exact wpAny_Pass (p _ s.toks _ _ _ S (.refl _ _) LL)
theorem ss_ex{e:E}(hc:yC t=true)(h:SEp K tb G F hd n fi e t):SSp K tb G F W hd n fi (.ex e) (.Expr t pos):=by
 intro c A s m M I L H Q X C hs ht S LL p
 refine wpAny_Expr (h c A s m M I L H _ _ C hs ht S LL (PostS.bind p λ v y H' h' tk M' I' S' e' z p'=>?_)) ?_ (y5 hc)
 ·split at p'
  ·have:=z.none_inv
   subst this
   exact p' _ _ _ _ _ S' (.refl _ _) (LL.ext e')
  ·exact p'.elim
 ·show(c.scope.kind==_&&_)=false
  rw[C.fk];rfl
theorem z1M:SSs K tb G F W hd n fi .nil []:=by
 intro c A s m M I L H Q X C hs ht S LL p
 exact wpAny_execs_nil (p _ s.toks _ _ _ S (.refl _ _) LL)
theorem z0n{x r:S}{t:Stmt}{ts:List Stmt}(hx:SSp K tb G F W hd n fi x t)(hr:SSs K tb G F W hd n fi r ts):SSs K tb G F W hd n fi (.cons x r) (t::ts):=by
 intro c A s m M I L H Q X C hs ht S LL p
 refine wpAny_execs_cons (wp1 ht (hx c A s m M I L H _ _ C hs ht S LL ?_))
 simp only[x_cons] at p
 cases hev:evS G F W x L H with
 | next L' H'=>
  rw[hev] at p
  exact λ h' tk m' M' I' S' e l ht'=>hr c A _ m' M' I' L' H' _ _ C hs ht' S' l (PostS.ext e p)
 | cont L' H'=>rw[hev] at p;exact λ h' tk m' M' I' S' e l _=>p h' tk m' M' I' S' e l
 | ret v H'=>rw[hev] at p;exact λ a h' tk m' M' I' S' e l _=>p a h' tk m' M' I' S' e l
 | exc k d H'=>rw[hev] at p;exact p
 | bad=>rw[hev] at p;exact p
end
section
variable {K:Frag}{tb:Tab}{G:Nat->Option V}{gn:Nat->Option Str}{F:Fn}{W:Nat}{hd:Bool}{n:Nat}{fi:Fi}
noncomputable def jb(fi:Fi):List Nat->List Expr->Bool
 | [],ts=>qX ts
 | i::is,ts=>onc ts λ t r=>onN t λ x=>yw fi i x&&jb fi is r
@[elab_as_elim] theorem VD{M:List Expr->Prop}(h:jb fi (i::is) ts=true)(k:∀ x p r,yw fi i x=true->jb fi is r=true->M (.Name x p::r)):M ts:=
 ec h λ t r h=>eN h λ x p h=>K2 h λ h1 h2=>k x p r h1 h2
theorem vp:∀ {is:List Nat} {ts:List Expr},jb fi is ts=true->ts.length=is.length/\∀ env:Env,(assignEach ts env).length=is.length/\(assignEach ts env).findIdx? (·.1)=none
 | [],ts,h=>eL h ⟨rfl,λ env=>⟨rfl,rfl⟩⟩
 | i::is,ts,h=>VD h λ x p r _ h=>⟨congrArg (·+1) (vp h).1,λ env=>by
  have e:assignEach (.Name x p::r) env=(false,assign (.Name x p) env)::assignEach r env:=rfl
  rw[e]
  refine⟨congrArg (·+1) ((vp h).2 env).1,?_⟩
  rw[List.findIdx?_cons,((vp h).2 env).2]
  rfl⟩
theorem Jh(hnd:fi.ns.Nodup)(C:Cok K hd n 8 c A)(hs:c.scope=fi.sc)(is:List Nat):∀ (ts:List Expr) (vs:List Value) (l:List V) (s:Shared) (m:Str->Option Value) (M I:Led) (L:Lc) (H:Hp) (Q:Unit->Shared->Prop),
  jb fi is ts=true->RVs K tb I (z6 M) vs l->l.length=is.length->St K tb c.w c.h₀ c.L s.heap m M I H->LR K tb fi.ns m I (z6 M) L->
  (∀ h' tk m',St K tb c.w c.h₀ c.L h' m' M I H->LR K tb fi.ns m' I (z6 M) (setAll is l L)->Q () {s with heap:=h',toks:=tk})->
  wpAny (model pw c.w) A (assignInOrder ((assignEach ts c.env).map (·.2)) vs) Q X s:=by
 induction is with
 | nil=>
  intro ts vs l s m M I L H Q h hv hl S LL q
  have hl':l=[]:=List.length_eq_zero_iff.mp hl
  subst hl'
  cases hv
  exact eL h (assignInOrder_nil (q s.heap s.toks m S LL))
 | cons i is ih=>
  intro ts vs l s m M I L H Q h hv hl S LL q
  refine VD h λ x p r h1 h2=>?_
  obtain⟨hi,hlk⟩:=yX h1
  cases hv with
  | nil=>simp at hl
  | cons g1 g2=>
   have e:assignEach (.Name x p::r) c.env=(false,assign (.Name x p) c.env)::assignEach r c.env:=rfl
   rw[e,List.map_cons]
   refine assignInOrder_cons (PyProof.Rows.assign_Name (ql C hs hlk S λ h' tk S'=>?_))
   exact ih r _ _ {s with heap:=h',toks:=tk} _ M I _ H _ h2 g2 (by simpa using hl) S' (LL.set hnd hi g1) λ h2 tk2 m2 S2 l2=>q h2 tk2 m2 S2 l2
theorem Zi{l:List V}{s:Shared}{Q:Unit->Shared->Prop}(hnd:fi.ns.Nodup)(C:Cok K false n 8 c A)(hs:c.scope=fi.sc)(hok:jb fi is ts=true)(hv:RV K tb I (z6 M) v (.tup l))(hl:l.length=is.length)(S:St K tb c.w c.h₀ c.L s.heap m M I H)(LL:LR K tb fi.ns m I (z6 M) L)(q:∀ h' tk m',St K tb c.w c.h₀ c.L h' m' M I H->LR K tb fi.ns m' I (z6 M) (setAll is l L)->Q () {s with heap:=h',toks:=tk}) :
  wpAny (model pw c.w) A (assign (.Tuple ts k pos) c.env v) Q X s:=by
 have fin:∀ {t:Addr} {items:Array Value},IsTup s.heap t items->RVs K tb I (z6 M) items.toList l->wpAny (model pw c.w) A (assign (.Tuple ts k pos) c.env (.ref t)) Q X s:=by
  intro t items ht hvs
  obtain⟨h1,h2⟩:=vp hok
  obtain⟨h3,h4⟩:=h2 c.env
  refine unpackN_ S.F S.N ht (C.hh rfl) (by rw[h3];have:=hvs.length;simp only[Array.length_toList] at this;omega) h4 λ h' F' N'=>?_
  exact Jh hnd C hs is ts _ l {s with heap:=h'} m M I L H Q hok hvs hl ⟨F',N',S.nd,S.ap,S.ro,S.kin,S.tw⟩ LL λ h2 tk m' S' l'=>q h2 tk m' S' l'
 cases hv with
 | tup g1 g2 g3 g4=>exact fin ⟨_,(S.N _ (List.mem_append_right _ g1)).1,g2,_,g3⟩ g4
 | tupK g1 g4=>exact fin ⟨_,S.kget g1,rfl,_,rfl⟩ (by simpa using g4)
noncomputable def kn(t:Expr):Bool:=Nat.beq t.ctorIdx 16
set_option tactic.hygienic true in
theorem z0V{e:E}(hnd:fi.ns.Nodup)(hh:hd=false)(hok:jb fi is ts=true)(hc:kn t=true)(h:SEp K tb G F hd n fi e t):SSp K tb G F W hd n fi (.asgT is e) (.Assign [.Tuple ts k p1] t pos):=by
 subst hh
 intro c A s m M I L H Q X C hs ht S LL p
 refine Assign_Tuple (h c A s m M I L H _ _ C hs ht S LL (PostS.bind p λ v y H' h' tk M' I' S' e' z p'=>?_)) (by cases t<;>first | rfl | cases hc) (by cases t<;>first | rfl | cases hc)
 split at p'
 ·rename_i l
  split at p'
  ·rename_i hl
   exact Zi (s:={s with heap:=h',toks:=tk}) hnd C hs hok z hl S' (LL.ext e') λ h2 tk2 m2 S2 l2=>p' _ _ _ _ _ S2 (.refl _ _) l2
  ·exact p'.elim
 ·exact p'.elim
set_option tactic.hygienic true in
theorem J0{o e:E}{ot:Expr}{an:List (List Nat)}(WA:AmbA K tb an)(hn:nm∈an)(hc:yC t=true)(ho:SEp K tb G F hd n fi o ot)(h:SEp K tb G F hd n fi e t) :
  SSp K tb G F W hd n fi (.asgA o nm e) (.Assign [.Attribute ot (z0 nm) p1] t pos):=by
 intro c A s m M I L H Q X C hs ht S LL p
 refine plainObj_wpAny_Assign_Attribute (wp1 ht (h c A s m M I L H _ _ C hs ht S LL (PostS.bind p λ v y H' h' tk M' I' S' e' z p' ht'=>?_))) (y5 hc)
 refine ho c A _ m M' I' L H' _ _ C hs ht' S' (LL.ext e') (PostS.bind p' λ v2 y2 H2 h2 tk2 M2 I2 S2 e2 z2 p2=>?_)
 split at p2
 ·rename_i i
  split at p2
  ·rename_i k d hi
   split at p2
   ·rename_i l hl
    split at p2
    ·rename_i hz
     refine RV.eRef z2 λ _ ha=>?_
     exact setS (s:={s with heap:=h2,toks:=tk2}) WA hn S2 ha hi hl (of_decide_eq_true hz) (z.ext e2) λ h3 tk3 M3 S3 e3=>p2 _ _ _ _ _ S3 e3 (((LL.ext e').ext e2).ext e3)
    ·exact p2.elim
   ·exact p2.elim
  ·exact p2.elim
 ·exact p2.elim
set_option tactic.hygienic true in
theorem z2I{o a:E}{ot at_:Expr}{apos cpos:Pos}(hb:∀ f a k p,ot≠.Call f a k p)(hline:(apos.endLine==cpos.line)=true)(hn:∀ e p,at_≠.Starred e p)(ho:SEp K tb G F hd n fi o ot)(ha:SEp K tb G F hd n fi a at_) :
  SSp K tb G F W hd n fi (.app o a) (.Expr (.Call (.Attribute ot "append" apos) [at_] [] cpos) pos):=by
 intro c A s m M I L H Q X C hs ht S LL p
 refine wpAny_Expr (Call_method1 (zY hb) (YB hn) hline (wp1 ht (ho c A s m M I L H _ _ C hs ht S LL (PostS.bind p λ v x H' h' tk M' I' S' e z p' ht'=>?_)))) ?_ (y5 rfl)
 ·split at p'
  ·rename_i hil
   cases x with
   | ref i=>
    simp only[kQ] at hil
    split at hil
    ·rename_i l0 ho0
     refine RV.eRef z λ _ hi=>?_
     obtain⟨vs0,hl0,_⟩:=St.list (s:={s with heap:=h',toks:=tk}) S' hi ho0
     obtain⟨ob0,b1,b2,b3⟩:=S'.obj hi ho0
     obtain⟨vs1,j1,rfl,_,_⟩:=b3.lst_inv
     refine⟨"list",_,PySem.F.plainAttrs_list,PySem.F.slot_list_append,PySem.F.type_list_append,hl0.typeIs,(λ a e=>by cases e;exact⟨_,b2,rfl⟩),?_⟩
     refine Calls.callWith_builtin rfl (Calls.evalArgs_plain (Calls.spliced_cons (ha c A _ m M' I' L H' _ _ C hs ht' S' (LL.ext e) (PostS.bind p' λ v2 y2 H2 h2 tk2 M2 I2 S2 e2 z2 p2=>Calls.spliced_nil ?_))))
     dsimp only at p2
     split at p2
     ·rename_i l ho
      split at p2
      ·rename_i hz
       exact appS (s:={s with heap:=h2,toks:=tk2}) S2 (e2.m _ _ hi) ho (of_decide_eq_true hz) z2 λ h3 M3 S3 e3=>p2 _ _ _ _ _ S3 e3 (((LL.ext e).ext e2).ext e3)
      ·exact p2.elim
     ·exact p2.elim
    ·cases hil
   | _=>cases hil
  ·exact p'.elim
 ·show(c.scope.kind==_&&_)=false
  rw[C.fk];rfl
end
section
variable {K:Frag}{tb:Tab}{G:Nat->Option V}{gn:Nat->Option Str}{F:Fn}{W:Nat}{hd:Bool}{n:Nat}{fi:Fi}
theorem yA{a:Addr}(x:h.Ns a m)(u:Up h h'):h'.Ns a m:=by
 obtain⟨o,es,ep,ho,hd,hk,hf⟩:=x
 obtain⟨sl,h2⟩:=u.1 a o ho (λ vs q=>by rw[hd] at q;cases q)
 exact⟨_,es,ep,h2,hd,hk,hf⟩
theorem XPost.loop{s:Shared}{e:Addr}(hA:A.frames=some (c.env::c.outer))(q:XPost K tb c m M I k d H e s.heap)(h:∀ h',XPost K tb c m M I k d H e h'->X (.ref e) {s with heap:=h'}):notedBy (model pw c.w) A c.env (λ e s'=>cameBackBy (model pw c.w) A c.env X e s') (.ref e) s:=by
 obtain⟨C,D,M2,I2,q1,q2,q3,q4,⟨B,b1,b2,b0,b3⟩,q6,q7,q8,q9⟩:=q
 refine Qf hA rfl b3 λ h3 f3 u3=>?_
 refine z1w (s:={s with heap:=h3}) f3 λ h4 f4 u4=>?_
 exact h h4 ⟨C,D,M2,I2,q1,q2,yA (yA q3 u3) u4,(q4.trans u3).trans u4,⟨B,b1,b2,b0,f4.x⟩,q6,q7,q8,q9⟩
theorem PostS.loop{s:Shared}{o:Out}{Q:Flow->Shared->Prop}(hA:A.frames=some (c.env::c.outer))(p:PostS K tb fi c s M I o Q X) :
  PostS K tb fi c s M I o Q (notedBy (model pw c.w) A c.env (λ e s'=>cameBackBy (model pw c.w) A c.env X e s')):=by
 cases o with
 | exc k d H=>exact λ e h' tk m' q=>q.loop (s:={s with heap:=h',toks:=tk}) hA λ h2 q2=>p e h2 tk m' q2
 | next L H=>exact p
 | cont L H=>exact p
 | ret v H=>exact p
 | bad=>exact p
theorem Post.loop{Rel:Led->List Addr->α->β->Prop}{s:Shared}{r:R β}{Q:α->Shared->Prop}(hA:A.frames=some (c.env::c.outer))(p:Post K tb Rel c s m M I r Q X) :
  Post K tb Rel c s m M I r Q (notedBy (model pw c.w) A c.env (λ e s'=>cameBackBy (model pw c.w) A c.env X e s')):=by
 cases r with
 | exc k d H=>exact λ e h' tk q=>q.loop (s:={s with heap:=h',toks:=tk}) hA λ h2 q2=>p e h2 tk q2
 | ok L H=>exact p
 | bad=>exact p
theorem PostS.turn{s:Shared}{o:Out}{f:Lc->Hp->Out}{Q Q':Flow->Shared->Prop}(p:PostS K tb fi c s M I (o.turn f) Q X)(h1:∀ L H h' tk m' M' I',St K tb c.w c.h₀ c.L h' m' M' I' H->Ext M I M' I'->LR K tb fi.ns m' I' (z6 M') L->PostS K tb fi c {s with heap:=h',toks:=tk} M' I' (f L H) Q X->Q' .next {s with heap:=h',toks:=tk}/\Q' .cont {s with heap:=h',toks:=tk})(h2:∀ v s',Q (.ret v) s'->Q' (.ret v) s'):PostS K tb fi c s M I o Q' X:=by
 cases o with
 | next L H=>exact λ h' tk m' M' I' S' e l=>(h1 L H h' tk m' M' I' S' e l (PostS.ext e p)).1
 | cont L H=>exact λ h' tk m' M' I' S' e l=>(h1 L H h' tk m' M' I' S' e l (PostS.ext e p)).2
 | ret v H=>exact λ a h' tk m' M' I' S' e z=>h2 _ _ (p a h' tk m' M' I' S' e z)
 | exc k d H=>exact p
 | bad=>exact p
theorem z35{x:E}{b:S}{tb':List Stmt}(hx:STp K tb G F hd n fi x t)(hb:SSs K tb G F W hd n fi b tb'):SSp K tb G F W hd n fi (.whl x b) (.While t tb' [] pos):=by
 intro c A s m M I L H Q X C hs ht S LL p
 refine wpAny_While ?_
 let cd:=λ L H=>evT G F x L H
 let bd:=λ L H=>evS G F W b L H
 refine codeAny_whileLoop (λ k s'=>(Ex7 λ h tk m' M' I' L' H'=>A5 (s'={s with heap:=h,toks:=tk}) (1<=tk) (St K tb c.w c.h₀ c.L h m' M' I' H') (LR K tb fi.ns m' I' (z6 M') L') (PostS K tb fi c {s with heap:=h,toks:=tk} M' I' (zZ cd bd k L' H') Q X))) (λ k s' hI=>?_) W ⟨s.heap,s.toks,m,M,I,L,H,rfl,ht,S,LL,p⟩
 obtain⟨h,tk,m',M',I',L',H',rfl,ht',S',LL',p'⟩:=hI
 cases k with
 | zero=>exact p'.elim
 | succ k=>
  simp only[zZ] at p'
  refine wp1 ht' (hx c A {s with heap:=h,toks:=tk} m' M' I' L' H' _ _ C hs ht' S' LL' (Post.loop C.hA (PostS.bind p' λ u y H2 h2 tk2 M2 I2 S2 e2 z p2 ht2=>?_)))
  cases z
  cases u
  ·rw[if_neg (by decide)]
   exact wpAny_execs_nil (p2 _ tk2 _ _ _ S2 (.refl _ _) (LL'.ext e2))
  ·rw[if_pos rfl]
   refine wp1 ht2 (hb c A {s with heap:=h2,toks:=tk2} m' M2 I2 L' H2 _ _ C hs ht2 S2 (LL'.ext e2) (PostS.loop C.hA (PostS.turn p2 (λ L3 H3 h3 tk3 m3 M3 I3 S3 e3 l3 p3=>?_) λ v s3 q _=>q)))
   have:1<=tk3->∃ j,j<k+1/\(Ex7 λ h tk m' M' I' L' H'=>A5 (({s with heap:=h3,toks:=tk3}:Shared)={s with heap:=h,toks:=tk}) (1<=tk) (St K tb c.w c.h₀ c.L h m' M' I' H') (LR K tb fi.ns m' I' (z6 M') L') (PostS K tb fi c {s with heap:=h,toks:=tk} M' I' (zZ cd bd j L' H') Q X)):=λ h1=>
    ⟨k,Nat.lt_succ_self k,h3,tk3,m3,M3,I3,L3,H3,rfl,h1,S3,l3,p3⟩
   exact⟨this,this⟩
end
noncomputable def Xj(o:Obj):Prop:=o.cls=.type "tuple"\/(∃ C,o.cls=.ref C)\/o.cls=.type "dict"
section
variable {K:Frag}{tb:Tab}{I I':Led}{μ:List Addr}
theorem RV.sub(hI:∀ p∈I,Xj p.2->p∈I'){x:V}(h:RV K tb I μ v x):RV K tb I' μ v x:=
 RV.rec (motive_1:=λ v x _=>RV K tb I' μ v x) (motive_2:=λ v x _=>RVs K tb I' μ v x) .none .bool .int .str (λ h1 h2 h3 _ h4=>.tup (hI _ h1 (.inl h2)) h2 h3 h4) (λ h1 _ h4=>.tupK h1 h4) .ref .fn .cls
  (λ h1 h2 h3 h4 h5 h6=>.exc (hI _ h1 (.inr (.inl ⟨_,h3⟩))) h2 h3 h4 h5 h6) (λ h1 _ h4=>.clst h1 h4) .cdct .nil (λ _ _ h r=>.cons h r) h
theorem RVs.sub(hI:∀ p∈I,Xj p.2->p∈I'){v:List Value}{x:List V}(h:RVs K tb I μ v x):RVs K tb I' μ v x:=h.ind .nil λ h _ r=>.cons (h.sub hI) r
theorem AttR.sub(hI:∀ p∈I,Xj p.2->p∈I')(h:AttR K tb I μ es l):AttR K tb I' μ es l:=h.rec (motive:=λ es l _=>AttR K tb I' μ es l) .nil λ h1 h2 _ r=>.cons h1 (h2.sub hI) r
theorem KvR.sub(hI:∀ p∈I,Xj p.2->p∈I'){es:List (Str×Value)}(h:KvR K tb I μ es l):KvR K tb I' μ es l:=h.rec (motive:=λ es l _=>KvR K tb I' μ es l) .nil λ h1 h2 _ r=>.cons h1 (h2.sub hI) r
theorem xP{prog:Program}{T:Type}[DecidableEq T]{knd:KeyKind prog w T}{o:Obj}{kvs:List (T×Value)}(h:o.IsDictOf knd kvs):o.cls=.type "dict":=by
 obtain⟨es,ep,h1,_⟩:=h
 exact h1.1
theorem RO.sub(hI:∀ p∈I,Xj p.2->p∈I'){a:Addr}{o:O}(h:RO K tb w I μ a ob o):RO K tb w I' μ a ob o:=by
 cases h with
 | lst h hz=>exact .lst (h.sub hI) hz
 | dct hs h0 h1 h5=>exact .dct hs (hI _ h0 (.inr (.inr (xP h1)))) h1 (h5.sub hI)
 | att h=>exact .att (h.sub hI)
 | inst h1 h2=>exact .inst h1 h2
theorem ROs.sub(hI:∀ p∈I,Xj p.2->p∈I')(h:ROs K tb w I μ M H):ROs K tb w I' μ M H:=h.rec (motive:=λ M H _=>ROs K tb w I' μ M H) .nil λ h _ r=>.cons (h.sub hI) r
end
section
variable {K:Frag}{tb:Tab}{G:Nat->Option V}{gn:Nat->Option Str}{F:Fn}{W:Nat}{hd:Bool}{n:Nat}{fi:Fi}
noncomputable def Wr:List String:=["list_iterator","tuple_iterator","str_iterator","str_ascii_iterator","range_iterator","dict_keyiterator","range"]
noncomputable def ItOk(o:Obj):Prop:=∃ nm,o.cls=.type nm/\nm∈Wr
theorem ItOk.slow{o:Obj}(h:ItOk o):¬Xj o:=by
 obtain⟨nm,h1,h2⟩:=h
 rintro(q | ⟨C,q⟩ | q)
 ·rw[h1] at q;cases q;revert h2;decide
 ·rw[h1] at q;cases q
 ·rw[h1] at q;cases q;revert h2;decide
noncomputable def but(it:Addr)(I:Led):Led:=I.filter λ p=>p.1 !=it
theorem mem_but{it:Addr}{p:Addr×Obj}:p∈but it I↔p∈I/\p.1≠it:=by simp [but]
theorem St.drop{Lc':Addr}{it:Addr}{o:Obj}(S:St K tb w h₀ Lc' h m M I H)(hm:(it,o)∈I)(ho:ItOk o)(hk:∀ b ob,b≠it->h.get? b=some ob->h'.get? b=some ob) :
  St K tb w h₀ Lc' h' m M (but it I) H/\(∀ v x,RV K tb I (z6 M) v x->RV K tb (but it I) (z6 M) v x):=by
 have only:∀ p∈I,p.1=it->p.2=o:=λ p hp e=>by
  have h1:=(S.N p (List.mem_append_right _ hp)).1
  have h2:=(S.N _ (List.mem_append_right _ hm)).1
  rw[e] at h1
  dsimp only at h2
  rw[h1] at h2
  exact Option.some.inj h2
 have hI:∀ p∈I,Xj p.2->p∈but it I:=λ p hp hf=>mem_but.mpr ⟨hp,λ e=>ho.slow (only p hp e ▸ hf)⟩
 have hit:=S.N _ (List.mem_append_right _ hm)
 have hLne:Lc'≠it:=hit.2.1.symm
 have hb:∀ b ob,h₀.get? b=some ob->b≠it:=λ b ob e q=>by rw[q,hit.2.2] at e;cases e
 have hM:∀ p∈M,p.1≠it:=λ p hp e=>by
  obtain⟨i,l,h1,h2⟩:=S.ap _ hm (by rw[←e];exact List.mem_map.mpr ⟨p,hp,rfl⟩)
  obtain⟨a',ob,g1,g2⟩:=S.ro.get h2
  rw[h1] at g1
  cases g1
  cases g2 with
  | dct _ _ q _=>exact ho.slow (.inr (.inr (xP q)))
 refine⟨⟨⟨?_,λ b ob e=>hk b ob (hb b ob e) (S.F.keep b ob e),S.F.above⟩,λ p hp=>?_,S.nd,λ p hp q=>S.ap p (mem_but.mp hp).1 q,S.ro.sub hI,S.kin,S.tw⟩,λ v x q=>q.sub hI⟩
 ·obtain⟨oL,es,ep,g1,g2⟩:=S.F.ns
  exact⟨oL,es,ep,hk _ _ hLne g1,g2⟩
 ·rcases ma_ hp with q | q
  ·exact⟨hk _ _ (hM p q) (S.N p (List.mem_append_left _ q)).1,(S.N p (List.mem_append_left _ q)).2⟩
  ·have:=mem_but.mp q
   exact⟨hk _ _ this.2 (S.N p (List.mem_append_right _ this.1)).1,(S.N p (List.mem_append_right _ this.1)).2⟩
theorem St.moved{Lc':Addr}{it:Addr}{o o':Obj}(S:St K tb w h₀ Lc' h m M I H)(hm:(it,o)∈I)(ho:ItOk o)(hk:∀ b ob,b≠it->h.get? b=some ob->h'.get? b=some ob)(hg:h'.get? it=some o') :
  St K tb w h₀ Lc' h' m M ((it,o')::but it I) H/\(∀ v x,RV K tb I (z6 M) v x->RV K tb ((it,o')::but it I) (z6 M) v x):=by
 obtain⟨S',hv⟩:=S.drop hm ho hk
 have hit:=S.N _ (List.mem_append_right _ hm)
 refine⟨⟨S'.F,λ p hp=>?_,S'.nd,λ p hp q=>?_,S'.ro.mono (λ p hp=>.tail _ hp) λ _ _ h=>h,S'.kin,S'.tw⟩,λ v x q=>(hv v x q).mono (λ p hp=>.tail _ hp) λ _ _ h=>h⟩
 ·rcases ma_ hp with q | q
  ·exact S'.N p (List.mem_append_left _ q)
  ·cases q with
   | head=>exact⟨hg,hit.2⟩
   | tail _ q=>exact S'.N p (List.mem_append_right _ q)
 ·cases hp with
  | head=>
   obtain⟨i,l,h1,h2⟩:=S.ap _ hm q
   obtain⟨a',ob,g1,g2⟩:=S.ro.get h2
   rw[h1] at g1
   cases g1
   cases g2 with
   | dct _ _ q _=>exact absurd (.inr (.inr (xP q))) ho.slow
  | tail _ hp=>exact S'.ap p hp q
theorem Ext.but{it:Addr}(e:Ext M I M' I')(hn:∀ p∈I,p.1≠it):Ext M I M' (but it I'):=⟨λ p hp=>mem_but.mpr ⟨e.i p hp,hn p hp⟩,e.m⟩
structure Src(K:Frag)(tb:Tab)(c:Cx)(A:Around)(it:Addr)(M₀ I₀:Led)(all:List V)(ok:Hp->Prop)(P:Nat->Obj->Prop):Prop where
 cls:∀ i o,P i o->ItOk o
 next:∀ (s:Shared) (m:Str->Option Value) (M I:Led) (H:Hp) (i:Nat) (o:Obj) (x:V) (Q:Option Value->Shared->Prop) (X:Value->Shared->Prop),St K tb c.w c.h₀ c.L s.heap m M I H->Ext M₀ I₀ M I->(it,o)∈I->P i o->ok H->all[i]?=some x->
  (∀ h' tk u o',(∀ b ob,b≠it->s.heap.get? b=some ob->h'.get? b=some ob)->h'.get? it=some o'->P (i+1) o'->RV K tb I (z6 M) u x->Q (some u) {s with heap:=h',toks:=tk})->wpAny (model pw c.w) A (pyNext (.ref it)) Q X s
 stop:∀ (s:Shared) (m:Str->Option Value) (M I:Led) (H:Hp) (o:Obj) (Q:Option Value->Shared->Prop) (X:Value->Shared->Prop),St K tb c.w c.h₀ c.L s.heap m M I H->Ext M₀ I₀ M I->(it,o)∈I->P all.length o->ok H->
  (∀ h' tk,(∀ b ob,b≠it->s.heap.get? b=some ob->h'.get? b=some ob)->Q none {s with heap:=h',toks:=tk})->wpAny (model pw c.w) A (pyNext (.ref it)) Q X s
noncomputable def jO(fi:Fi)(is:List Nat)(t:Expr):Bool:=match is with
 | []=>false
 | i::r=>match r with
  | []=>onN t λ x=>yw fi i x
  | j::r=>Vr t λ ts=>jb fi (i::j::r) ts
set_option tactic.hygienic true in
theorem bindS{s:Shared}{L':Lc}{Q:Unit->Shared->Prop}(hnd:fi.ns.Nodup)(C:Cok K false n 8 c A)(hs:c.scope=fi.sc)(hok:jO fi is t=true)(hv:RV K tb I (z6 M) v y)(hb:zS is y L=some L')(S:St K tb c.w c.h₀ c.L s.heap m M I H)(LL:LR K tb fi.ns m I (z6 M) L)(q:∀ h' tk m',St K tb c.w c.h₀ c.L h' m' M I H->LR K tb fi.ns m' I (z6 M) L'->Q () {s with heap:=h',toks:=tk}) :
  wpAny (model pw c.w) A (assign t c.env v) Q X s:=by
 cases is with
 | nil=>cases hok
 | cons i r=>
  cases r with
  | nil=>
   obtain rfl:L.set i (some y)=L':=Option.some.inj hb
   refine eN hok λ x p hok=>?_
   obtain⟨hi,hl⟩:=yX hok
   exact PyProof.Rows.assign_Name (ql C hs hl S λ h' tk S'=>q h' tk _ S' (LL.set hnd hi hv))
  | cons j r=>
   refine eTu hok λ ts k p hok=>?_
   cases y<;>first | cases hb;done | skip
   rename_i l
   change (if l.length=(i::j::r).length then some (setAll (i::j::r) l L) else none)=some L' at hb
   split at hb
   ·rename_i hl
    cases hb
    exact Zi hnd C hs hok hv hl S LL q
   ·cases hb
set_option tactic.hygienic true in
theorem z21{it:Addr}{o:Obj}{s:Shared}{Q:Unit->Shared->Prop}(hg:s.heap.get? it=some o)(ho:ItOk o)(q:Q () s):wpAny (model pw c.w) A (letOwnedTupleGo t (.ref it) v) Q X s:=by
 obtain⟨nm,h1,h2⟩:=ho
 have fin:∀ a,wpAny (model pw c.w) A (do
   let o ←load it
   match o.cls,o.data with
   | .type n,.fields vs=>
    if ["enumerate","zip","dict_itemiterator","dict_reverseitemiterator","odict_iterator","itertools.zip_longest","itertools.pairwise"].contains n&&vs[0]?==some (rawInt a) then
     rule "for.unpacks-the-owned-tuple"
     updateField it 0 .none
   | _,_=>pure ()) Q X s:=by
  intro a
  refine wpAny_bind (wpAny_load hg ?_)
  split
  ·rename_i n vs e1 e2
   rw[h1] at e1
   cases e1
   have:(["enumerate","zip","dict_itemiterator","dict_reverseitemiterator","odict_iterator","itertools.zip_longest","itertools.pairwise"].contains nm)=false:=by
    revert h2;unfold Wr;intro h2
    rcases mc_ h2 with rfl | h2<;>first | decide | skip
    rcases mc_ h2 with rfl | h2<;>first | decide | skip
    rcases mc_ h2 with rfl | h2<;>first | decide | skip
    rcases mc_ h2 with rfl | h2<;>first | decide | skip
    rcases mc_ h2 with rfl | h2<;>first | decide | skip
    rcases mc_ h2 with rfl | h2<;>first | decide | skip
    rcases mc_ h2 with rfl | h2<;>first | decide | skip
    cases h2
   rw[this,Bool.false_and,if_neg (by decide)]
   exact wpAny_pure q
  ·exact wpAny_pure q
 cases t with
 | Tuple ts k p=>cases v<;>first | exact wpAny_pure q | exact fin _
 | List ts p=>cases v<;>first | exact wpAny_pure q | exact fin _
 | _=>exact wpAny_pure q
end
section
variable {K:Frag}{tb:Tab}{G:Nat->Option V}{gn:Nat->Option Str}{F:Fn}{W:Nat}{n:Nat}{fi:Fi}
theorem PostS.turn0{s:Shared}{M₀ I₀:Led}{o:Out}{f:Lc->Hp->Out}{Q Q':Flow->Shared->Prop}{h0:Heap}{t0:Nat}(p:PostS K tb fi c s M₀ I₀ (o.turn f) Q X)(e0:Ext M₀ I₀ M I)(h1:∀ L H h' tk m' M' I',St K tb c.w c.h₀ c.L h' m' M' I' H->Ext M I M' I'->LR K tb fi.ns m' I' (z6 M') L->PostS K tb fi c s M₀ I₀ (f L H) Q X->Q' .next {s with heap:=h',toks:=tk}/\Q' .cont {s with heap:=h',toks:=tk})(h2:∀ v s',Q (.ret v) s'->Q' (.ret v) s'):PostS K tb fi c {s with heap:=h0,toks:=t0} M I o Q' X:=by
 cases o with
 | next L H=>exact λ h' tk m' M' I' S' e l=>(h1 L H h' tk m' M' I' S' e l p).1
 | cont L H=>exact λ h' tk m' M' I' S' e l=>(h1 L H h' tk m' M' I' S' e l p).2
 | ret v H=>exact λ a h' tk m' M' I' S' e z=>h2 _ _ (p a h' tk m' M' I' S' (e0.trans e) z)
 | exc k d H=>exact λ e h' tk m' q=>p e h' tk m' (q.ext e0)
 | bad=>exact p
theorem wL{toV:α->V}{all:List α}{lp:List α->Lc->Hp->Out}{ok:Hp->Prop}{P:Nat->Obj->Prop}{it:Addr}{M₀ I₀:Led}{b:S}{tb':List Stmt}{s:Shared}{o:Obj}{Q:Flow->Shared->Prop}(src:Src K tb c A it M₀ I₀ (all.map toV) ok P)(hnil:∀ L H,(ok H/\lp [] L H=.next L H)\/lp [] L H=.bad)(hcons:∀ v r L H,(ok H/\∃ L',zS is (toV v) L=some L'/\lp (v::r) L H=(evS G F W b L' H).turn (lp r))\/lp (v::r) L H=.bad)(hnd:fi.ns.Nodup)(C:Cok K false n 8 c A)(hs:c.scope=fi.sc)(hok:jO fi is t=true)(hb:SSs K tb G F W false n fi b tb')(ht:1<=s.toks)(S:St K tb c.w c.h₀ c.L s.heap m M I H)(e0:Ext M₀ I₀ M I)(hit:(it,o)∈I)(hP:P 0 o)(hn:∀ p∈I₀,p.1≠it)(LL:LR K tb fi.ns m I (z6 M) L)(p:PostS K tb fi c s M₀ I₀ (lp all L H) Q X) :
  codeAny (model pw c.w) A (.forLoop t (.ref it) tb' [] c.env) (λ r s'=>match r with | .ok f=>Q f s' | .error e=>cameBackBy (model pw c.w) A c.env X e s') s:=by
 refine codeAny_forLoop_any (λ k s'=>(Ex9 λ i h tk m' M' I' L' H' o=>A10 ((all.drop i).length=k) (i<=all.length) (s'={s with heap:=h,toks:=tk}) (1<=tk) (St K tb c.w c.h₀ c.L h m' M' I' H') (Ext M₀ I₀ M' I') (LR K tb fi.ns m' I' (z6 M') L') ((it,o)∈I') (P i o) (PostS K tb fi c s M₀ I₀ (lp (all.drop i) L' H') Q X)))
  (λ k s' hI=>?_) all.length ⟨0,s.heap,s.toks,m,M,I,L,H,o,rfl,Nat.zero_le _,rfl,ht,S,e0,LL,hit,hP,p⟩
 obtain⟨i,h,tk,m',M',I',L',H',o',hlen,hle,rfl,ht',S',e',LL',hit',hP',p'⟩:=hI
 cases hr:all.drop i with
 | nil=>
  rw[hr] at p'
  rcases hnil L' H' with ⟨hk,e1⟩ | e1
  ·rw[e1] at p'
   have hi:i=(all.map toV).length:=by
    rw[List.length_map];exact Nat.le_antisymm hle (List.drop_eq_nil_iff.mp hr)
   refine wp1 ht' (src.stop {s with heap:=h,toks:=tk} m' M' I' H' o' _ _ S' e' hit' (hi ▸ hP') hk λ h2 tk2 k2 ht2=>?_)
   obtain⟨S2,hv2⟩:=S'.drop hit' (src.cls _ _ hP') k2
   refine wpAny_execs_nil (p' h2 tk2 m' M' (but it I') S2 (e'.but hn) λ j x q=>?_)
   obtain⟨nm,v,g1,g2,g3⟩:=LL' j x q
   exact⟨nm,v,g1,g2,hv2 _ _ g3⟩
  ·rw[e1] at p';exact p'.elim
 | cons v r=>
  rw[hr] at p'
  have hi:all[i]?=some v:=by
   have:=congrArg (λ l=>l[0]?) hr
   simpa using this
  have hr2:all.drop (i+1)=r:=by
   have:=congrArg (List.drop 1) hr
   simpa [List.drop_drop,Nat.add_comm] using this
  rcases hcons v r L' H' with ⟨hk,L2,e1,e2⟩ | e1
  ·rw[e2] at p'
   refine wp1 ht' (src.next {s with heap:=h,toks:=tk} m' M' I' H' i o' (toV v) _ _ S' e' hit' hP' hk (by rw[List.getElem?_map,hi];rfl) λ h2 tk2 u o2 k1 k2 k3 k4 ht2=>?_)
   obtain⟨S2,hv2⟩:=S'.moved hit' (src.cls _ _ hP') k1 k2
   refine z21 (s:={s with heap:=h2,toks:=tk2}) k2 (src.cls _ _ k3) ?_
   have l2:LR K tb fi.ns m' ((it,o2)::but it I') (z6 M') L':=λ j x q=>by
    obtain⟨nm,v,g1,g2,g3⟩:=LL' j x q
    exact⟨nm,v,g1,g2,hv2 _ _ g3⟩
   have e2':Ext M₀ I₀ M' ((it,o2)::but it I'):=⟨λ p hp=>.tail _ ((e'.but hn).i p hp),e'.m⟩
   refine wp1 ht2 (bindS (s:={s with heap:=h2,toks:=tk2}) hnd C hs hok (hv2 _ _ k4) e1 S2 l2 λ h3 tk3 m3 S3 l3 ht3=>?_)
   refine wp1 ht3 (hb c A {s with heap:=h3,toks:=tk3} m3 M' _ L2 H' _ _ C hs ht3 S3 l3 (PostS.loop (X:=X) C.hA (PostS.turn0 p' e2' (λ L4 H4 h4 tk4 m4 M4 I4 S4 e4 l4 p4=>?_) λ v s' q _=>q)))
   have:1<=tk4->∃ j,j<k/\(Ex9 λ i h tk m' M' I' L' H' o=>A10 ((all.drop i).length=j) (i<=all.length) (({s with heap:=h4,toks:=tk4}:Shared)={s with heap:=h,toks:=tk}) (1<=tk) (St K tb c.w c.h₀ c.L h m' M' I' H') (Ext M₀ I₀ M' I') (LR K tb fi.ns m' I' (z6 M') L') ((it,o)∈I') (P i o) (PostS K tb fi c s M₀ I₀ (lp (all.drop i) L' H') Q X)):=λ ht4=>by
    refine⟨r.length,by rw[←hlen,hr];simp,i+1,h4,tk4,m4,M4,I4,L4,H4,o2,by rw[hr2],?_,rfl,ht4,S4,e2'.trans e4,l4,e4.i _ (.head _),k3,by rw[hr2];exact p4⟩
    exact Nat.lt_of_not_le λ h=>by rw[List.drop_eq_nil_of_le h] at hr;cases hr
   exact⟨this,this⟩
  ·rw[e1] at p';exact p'.elim
end
section
variable {K:Frag}{tb:Tab}{c:Cx}{A:Around}{it:Addr}{M₀ I₀:Led}
theorem Src.ofWalk{n:Nat}{Pv:Nat->Value->Prop}{Sw:Nat->Heap->Prop}{fp:List Addr}{P:Nat->Obj->Prop}(w:Walks pw c.w A it fp [it] n Pv Sw)(hn:all.length=n)(hc:∀ i o,P i o->ItOk o)(hin:∀ i h o (M I:Led),P i o->h.get? it=some o->Ext M₀ I₀ M I->(∀ p∈I₀,h.get? p.1=some p.2)->(∀ a o,K.lookup a=some o->h.get? a=some o)->Sw i h)(hout:∀ i h,Sw i h->∃ o,h.get? it=some o/\P i o)(hv:∀ i v x (M I:Led),Ext M₀ I₀ M I->Pv i v->all[i]?=some x->RV K tb I (z6 M) v x):Src K tb c A it M₀ I₀ all (λ _=>True) P where
 cls:=hc
 next:=λ s m M I H i o x Q X S e hit hP _ hx q=>by
  have hi:i<n:=by rw[←hn];exact(gs_ hx).1
  refine w.item i s _ _ hi (hin i s.heap o M I hP (S.N _ (List.mem_append_right _ hit)).1 e (λ p hp=>(S.N p (List.mem_append_right _ (e.i p hp))).1) λ a o h=>S.kget h) λ v h' tk hv' hS hk=>?_
  obtain⟨o',g1,g2⟩:=hout _ _ hS
  exact q h' tk v o' (λ b ob hb e=>hk b ob (by simpa using hb) e) g1 g2 (hv i v x M I e hv' hx)
 stop:=λ s m M I H o Q X S e hit hP _ q=>by
  rw[hn] at hP
  refine w.done s _ _ (hin n s.heap o M I hP (S.N _ (List.mem_append_right _ hit)).1 e (λ p hp=>(S.N p (List.mem_append_right _ (e.i p hp))).1) λ a o h=>S.kget h) λ h' tk hk=>?_
  exact q h' tk λ b ob hb e=>hk b ob (by simpa using hb) e
theorem Qz{l:List Nat}{x:V}(ho:zu l)(h:SignAt (z0 l) i v)(hx:(l.map λ c=>V.str [c])[i]?=some x):RV K tb I μ v x:=by
 obtain⟨ch,u,h1,rfl⟩:=h
 rw[List.getElem?_map] at hx
 obtain⟨d,hd,rfl⟩:=om_ hx
 have:l[i]?=some ch:=by simpa [z0] using h1
 rw[this] at hd
 cases hd
 exact .str u (xF ho (List.mem_of_getElem? this))
theorem z0L{l:List Nat}{t:Tok}(hh:A.handled=none)(ho:zu l):∃ P:Nat->Obj->Prop,P 0 {cls:=.type (strIterType (z0 l)),data:=.fields #[.str (z0 l) t,.int 0 0]}/\Src K tb c A it M₀ I₀ (l.map λ c=>.str [c]) (λ _=>True) P:=by
 refine⟨λ i o=>o.cls=.type (strIterType (z0 l))/\o.data=.fields #[.str (z0 l) t,.int i 0],⟨rfl,rfl⟩,?_⟩
 have hsz:(l.map λ c=>V.str [c]).length=(z0 l).cps.size:=by simp [z0]
 cases ha:(z0 l).cps.all (·<128) with
 | true=>
  have ht:strIterType (z0 l)="str_ascii_iterator":=by unfold strIterType;rw[ha];rfl
  rw[ht]
  exact Src.ofWalk (Walks.strAscii hh it (z0 l) t) hsz (λ i o h=>⟨_,h.1,by decide⟩) (λ i h o M I hP hg _ _ _=>⟨o,hg,hP.1,hP.2⟩) (λ i h ⟨o,h1,h2,h3⟩=>⟨o,h1,h2,h3⟩) λ i v x M I _ hv hx=>Qz ho hv hx
 | false=>
  have ht:strIterType (z0 l)="str_iterator":=by unfold strIterType;rw[ha];rfl
  rw[ht]
  exact Src.ofWalk (Walks.strWide hh it (z0 l) t) hsz (λ i o h=>⟨_,h.1,by decide⟩) (λ i h o M I hP hg _ _ _=>⟨o,hg,hP.1,hP.2⟩) (λ i h ⟨o,h1,h2,h3⟩=>⟨o,h1,h2,h3⟩) λ i v x M I _ hv hx=>Qz ho hv hx
theorem z16{t:Addr}{items:Array Value}{l:List V}(hh:A.handled=none)(hne:t≠it)(hv:RVs K tb I₀ (z6 M₀) items.toList l)(hst:∀ (h:Heap),(∀ p∈I₀,h.get? p.1=some p.2)->(∀ a o,K.lookup a=some o->h.get? a=some o)->h.IsTuple t items) :
  ∃ P:Nat->Obj->Prop,P 0 {cls:=.type "tuple_iterator",data:=.fields #[.ref t,.int 0 0]}/\Src K tb c A it M₀ I₀ l (λ _=>True) P:=by
 refine⟨λ i o=>o.cls=.type "tuple_iterator"/\o.data=.fields #[.ref t,.int i 0],⟨rfl,rfl⟩,?_⟩
 refine Src.ofWalk (Walks.tuple hh it t hne items) (by rw[←hv.length];simp) (λ i o h=>⟨_,h.1,by decide⟩) (λ i h o M I hP hg _ h1 h2=>⟨⟨o,hg,hP.1,hP.2⟩,hst h h1 h2⟩) (λ i h ⟨⟨o,h1,h2,h3⟩,_⟩=>⟨o,h1,h2,h3⟩) λ i v x M I e hv' hx=>?_
 obtain⟨u,g1,g2⟩:=hv.get hx
 have:items[i]?=some u:=by simpa using g1
 rw[this] at hv'
 cases hv'
 exact g2.ext e
theorem Q7{t:Addr}{d:Option Addr}{sl:Array (Option Value)}{l:List V}(hh:A.handled=none)(hne:t≠it)(hK:K.lookup t=some ⟨.type "list",d,.seq vs.toArray k,sl⟩)(hv:RVs K tb I₀ (z6 M₀) vs l) :
  ∃ P:Nat->Obj->Prop,P 0 {cls:=.type "list_iterator",data:=.fields #[.ref t,.int 0 0]}/\Src K tb c A it M₀ I₀ l (λ _=>True) P:=by
 refine⟨λ i o=>o.cls=.type "list_iterator"/\o.data=.fields #[.ref t,.int i 0],⟨rfl,rfl⟩,?_⟩
 refine Src.ofWalk (Walks.list hh it t hne vs.toArray) (by rw[←hv.length];simp) (λ i o h=>⟨_,h.1,by decide⟩) (λ i h o M I hP hg _ h1 h2=>⟨⟨o,hg,hP.1,hP.2⟩,⟨_,h2 _ _ hK,rfl,k,rfl⟩⟩) (λ i h ⟨⟨o,h1,h2,h3⟩,_⟩=>⟨o,h1,h2,h3⟩) λ i v x M I e hv' hx=>?_
 obtain⟨u,g1,g2⟩:=hv.get hx
 have:vs.toArray[i]?=some u:=by simpa using g1
 rw[this] at hv'
 cases hv'
 exact g2.ext e
theorem vL:∀ {n:Nat} {a:Int} {i:Nat},i<n->(zb a n)[i]?=some (.int (a+i))
 | n+1,a,0,_=>by simp [zb]
 | n+1,a,i+1,h=>by
  simp only[zb,List.getElem?_cons_succ]
  rw[vL (by omega)]
  congr 2
  push_cast
  omega
theorem xR:∀ (n:Nat) (a:Int),(zb a n).length=n
 | 0,_=>rfl
 | n+1,a=>by simp [zb,xR n]
theorem Vs{a:Int}(hh:A.handled=none):∃ P:Nat->Obj->Prop,P 0 {cls:=.type "range_iterator",data:=.fields #[rawInt a,rawInt k,rawInt 1]}/\Src K tb c A it M₀ I₀ (zb a k) (λ _=>True) P:=by
 refine⟨λ i o=>o={cls:=.type "range_iterator",dict:=none,data:=.fields #[rawInt (a+(i:Int)*1),rawInt ((k:Int)-(i:Int)),rawInt 1],slots:=#[]},by simp,?_⟩
 refine Src.ofWalk (Walks.range hh it a 1 k) (xR _ _) (λ i o h=>⟨"range_iterator",by rw[h],by decide⟩) (λ i h o M I hP hg _ h1 h2=>by rw[hP] at hg;exact hg) (λ i h h1=>⟨_,h1,rfl⟩) λ i v x M I e hv' hx=>?_
 obtain⟨t,rfl⟩:=hv'
 have hi:i<k:=by have:=(gs_ hx).1;rwa [xR] at this
 rw[vL hi] at hx
 cases hx
 rw[Int.mul_one]
 exact .int _ _
theorem z0O{a:Addr}{l:List V}(hh:A.handled=none)(hj:(z6 M₀)[j]?=some a)(hne:a≠it) :
  ∃ P:Nat->Obj->Prop,P 0 {cls:=.type "list_iterator",data:=.fields #[.ref a,.int 0 0]}/\Src K tb c A it M₀ I₀ l (λ H=>H[j]?=some (.lst l)) P:=by
 refine⟨λ i o=>o.cls=.type "list_iterator"/\o.data=.fields #[.ref a,.int i 0],⟨rfl,rfl⟩,λ i o h=>⟨_,h.1,by decide⟩,?_,?_⟩
 ·intro s m M I H i o x Q X S e hit hP ho hx q
  obtain⟨vs,h1,h2⟩:=S.list (e.m _ _ hj) ho
  obtain⟨u,g1,g2⟩:=h2.get hx
  refine wpAny_pyNext_list_item ⟨o,(S.N _ (List.mem_append_right _ hit)).1,hP.1,hP.2⟩ h1 (x:=u) (by simpa using g1) λ h' hi hs=>?_
  obtain⟨o',k1,k2,k3⟩:=hi
  exact q h' s.toks u o' (λ b ob hb e=>hs.extBut b ob hb e) k1 ⟨k2,k3⟩ g2
 ·intro s m M I H o Q X S e hit hP ho q
  obtain⟨vs,h1,h2⟩:=S.list (e.m _ _ hj) ho
  refine wpAny_pyNext_list_end hh ⟨o,(S.N _ (List.mem_append_right _ hit)).1,hP.1,hP.2⟩ h1 (by have:=h2.length;simp;omega) λ h' hs=>?_
  exact q h' s.toks λ b ob hb e=>hs b ob hb e
end
section
variable {K:Frag}{tb:Tab}{c:Cx}{A:Around}{it:Addr}{M₀ I₀:Led}
theorem KvR.key(h:KvR K tb I μ kvs l):kvs.length=l.length/\∀ {i:Nat} {k:Str} {x:Value},kvs[i]?=some (k,x)->∃ p,l[i]?=some p/\k=z0 p.1/\zu p.1:=by
 induction h with
 | nil=>exact⟨rfl,λ h=>n1 h⟩
 | cons h1 h2 r ih=>
  obtain⟨e1,e2⟩:=ih
  refine⟨by simp [e1],λ {i k x} h=>?_⟩
  cases i with
  | zero=>simp only[List.getElem?_cons_zero,Option.some.injEq,Prod.mk.injEq] at h;obtain⟨rfl,_⟩:=h;exact⟨_,rfl,rfl,h1⟩
  | succ i=>simp only[List.getElem?_cons_succ] at h ⊢;exact e2 h
theorem z0r{a:Addr}(hh:A.handled=none)(hne:a≠it)(hm:(a,ob)∈I₀)(hd:ob.IsDictOf (strKind pw c.w) kvs)(hk:KvR K tb I₀ (z6 M₀) kvs l) :
  ∃ ep,(∀ h:Heap,h.get? a=some ob->h.DictAt (strKind pw c.w) a kvs ep)/\∃ P:Nat->Obj->Prop,P 0 {cls:=.type "dict_keyiterator",data:=.fields #[.ref a,.int 0 0,.int kvs.length 0,.int ep 0]}/\Src K tb c A it M₀ I₀ (l.map λ p=>.str p.1) (λ _=>True) P:=by
 obtain⟨es,ep,d1,d2,d3,d4,d5⟩:=hd
 have hat:∀ h:Heap,h.get? a=some ob->h.DictAt (strKind pw c.w) a kvs ep:=λ h hg=>⟨ob,es,hg,d1,d2,d3,d4,d5⟩
 obtain⟨k1,k2⟩:=hk.key
 refine⟨ep,hat,λ i o=>o.cls=.type "dict_keyiterator"/\o.data=.fields #[.ref a,.int i 0,.int kvs.length 0,.int ep 0],⟨rfl,rfl⟩,?_⟩
 refine Src.ofWalk (Walks.dictKeys hh it a hne kvs ep) (by simp [k1]) (λ i o h=>⟨_,h.1,by decide⟩) (λ i h o M I hP hg _ h1 h2=>⟨⟨o,hg,hP.1,hP.2⟩,hat h (h1 _ hm)⟩) (λ i h ⟨⟨o,h1,h2,h3⟩,_⟩=>⟨o,h1,h2,h3⟩) λ i v x M I e hv' hx=>?_
 obtain⟨k,y,g1,g2⟩:=hv'
 obtain⟨p,q1,q2,q3⟩:=k2 g1
 rw[List.getElem?_map,q1] at hx
 cases hx
 have g3:Value.isStrOf k v=true:=g2
 obtain⟨t,rfl⟩:=Value.isStrOf_shape g3
 rw[q2]
 exact .str t q3
end
section
variable {K:Frag}{tb:Tab}{G:Nat->Option V}{gn:Nat->Option Str}{F:Fn}{W:Nat}{hd:Bool}{n:Nat}{fi:Fi}
theorem wP{b:Lc->Hp->Out}(L:Lc)(H:Hp):(True/\zh is b [] L H=.next L H)\/zh is b [] L H=.bad:=.inl ⟨trivial,rfl⟩
theorem xS{b:Lc->Hp->Out}(v:V)(r:List V)(L:Lc)(H:Hp):(True/\∃ L',zS is v L=some L'/\zh is b (v::r) L H=(b L' H).turn (zh is b r))\/zh is b (v::r) L H=.bad:=by
 cases h:zS is v L with
 | none=>exact .inr (by show Vf (zS is v L) _=_;rw[h];rfl)
 | some L'=>exact .inl ⟨trivial,L',rfl,ZD h⟩
theorem Vu{b:Lc->Hp->Out}(L:Lc)(H:Hp):(H[i]?=some (.lst all)/\yR is b i all [] L H=.next L H)\/yR is b i all [] L H=.bad:=by
 cases h:xI H i all with
 | true=>exact .inl ⟨vI h,XD (vI h)⟩
 | false=>exact .inr (by show cond (xI H i all) _ _=_;rw[h];rfl)
theorem Xx{b:Lc->Hp->Out}(v:V)(r:List V)(L:Lc)(H:Hp):(H[i]?=some (.lst all)/\∃ L',zS is v L=some L'/\yR is b i all (v::r) L H=(b L' H).turn (yR is b i all r))\/yR is b i all (v::r) L H=.bad:=by
 cases h:xI H i all with
 | true=>
  cases hb:zS is v L with
  | some L'=>exact .inl ⟨vI h,L',rfl,vP (vI h) hb⟩
  | none=>exact .inr (by show cond (xI H i all) (Vf (zS is v L) _) _=_;rw[h,hb];rfl)
 | false=>exact .inr (by show cond (xI H i all) _ _=_;rw[h];rfl)
theorem Vb{b:Lc->Hp->Out}{all:List (List Nat×V)}(L:Lc)(H:Hp):(True/\yu j b i all [] L H=.next L H)\/yu j b i all [] L H=.bad:=by
 cases h:w7 H i all with
 | true=>exact .inl ⟨trivial,KH (YO h)⟩
 | false=>exact .inr (by show cond (w7 H i all) _ _=_;rw[h];rfl)
theorem XS{b:Lc->Hp->Out}{all:List (List Nat×V)}(v:List Nat×V)(r:List (List Nat×V))(L:Lc)(H:Hp):(True/\∃ L',zS [j] (.str v.1) L=some L'/\yu j b i all (v::r) L H=(b L' H).turn (yu j b i all r))\/yu j b i all (v::r) L H=.bad:=by
 cases h:w7 H i all with
 | true=>exact .inl ⟨trivial,_,rfl,WI (YO h)⟩
 | false=>exact .inr (by show cond (w7 H i all) _ _=_;rw[h];rfl)
noncomputable def W5(t:Expr):Bool:=!Nat.beq t.ctorIdx 7
theorem jR{env:Env}(h:W5 t=true)(x:Value):foldedSetIterable t env x=pure x:=by
 cases t<;>first | rfl | cases h
theorem St.newIt{s:Shared}(S:St K tb c.w c.h₀ c.L s.heap m M I H)(o:Obj)(hf:o.isFreed=false) :
  St K tb c.w c.h₀ c.L (s.heap.push o) m M ((s.heap.objs.size,o)::I) H/\Ext M I M ((s.heap.objs.size,o)::I)/\∀ p∈I,p.1≠s.heap.objs.size:=by
 obtain⟨a,b⟩:=S.newI (x9 S) (Fr.push S.F o) (News.push S.F S.N o hf)
 exact⟨a,b,λ p hp=>x9 S p (List.mem_append_right _ hp)⟩
set_option tactic.hygienic true in
theorem Jf{e:E}{b:S}{it:Expr}{tb':List Stmt}(WB:Amb K tb G gn)(hnd:fi.ns.Nodup)(hh:hd=false)(hok:jO fi is t=true)(hns:W5 it=true)(he:SEp K tb G F hd n fi e it)(hb:SSs K tb G F W hd n fi b tb'):SSp K tb G F W hd n fi (.forE is e b) (.For t it tb' [] pos):=by
 subst hh
 intro c A s m M I L H Q X C hs ht S LL p
 refine wpAny_For (wp1 ht (he c A s m M I L H _ _ C hs ht S LL (PostS.bind p λ v x H' h' tk M' I' S' e' z p' ht'=>?_))) (jR hns)
 have hA:=C.hh rfl
 cases x with
 | str l=>
  refine RV.eStr z λ t0 hx=>?_
  refine wpAny_pyIter_strU ?_
  obtain⟨P,hP,src⟩:=z0L (K:=K) (tb:=tb) (c:=c) (A:=A) (it:=h'.objs.size) (M₀:=M') (I₀:=I') (t:=t0) hA hx
  obtain⟨S2,e2,hn⟩:=St.newIt (s:={s with heap:=h',toks:=tk}) S' {cls:=.type (strIterType (z0 l)),data:=.fields #[.str (z0 l) t0,.int 0 0]} rfl
  refine wL (toV:=id) (lp:=zh is λ L H=>evS G F W b L H) (ok:=λ _=>True) (M₀:=M') (I₀:=I') (s:={s with heap:=h'.push _,toks:=tk}) (by rw[List.map_id];exact src) wP xS hnd C hs hok hb ht' S2 e2 (.head _) hP hn ((LL.ext e').ext e2) ?_
  exact p'
 | tup l=>
  have fin:∀ {ta:Addr} {items:Array Value},RVs K tb I' (z6 M') items.toList l->ta<h'.objs.size->(∀ h:Heap,(∀ p∈I',h.get? p.1=some p.2)->(∀ a o,K.lookup a=some o->h.get? a=some o)->h.IsTuple ta items)->
    wpAny (model pw c.w) A (pyIter (.ref ta)) (λ it' s₂=>codeAny (model pw c.w) A (.forLoop t it' tb' [] c.env) (λ r s'=>match r with | .ok f=>Q f s' | .error e=>cameBackBy (model pw c.w) A c.env X e s') s₂) X {s with heap:=h',toks:=tk}:=by
   intro ta items hv hlt hst
   refine wpAny_pyIter_tuple (hst h' (λ p hp=>(S'.N p (List.mem_append_right _ hp)).1) λ a o q=>S'.kget q) ?_
   obtain⟨P,hP,src⟩:=z16 (K:=K) (tb:=tb) (c:=c) (A:=A) (it:=h'.objs.size) hA (Nat.ne_of_lt hlt) hv hst
   obtain⟨S2,e2,hn⟩:=St.newIt (s:={s with heap:=h',toks:=tk}) S' {cls:=.type "tuple_iterator",data:=.fields #[.ref ta,.int 0 0]} rfl
   exact wL (toV:=id) (lp:=zh is λ L H=>evS G F W b L H) (ok:=λ _=>True) (M₀:=M') (I₀:=I') (s:={s with heap:=h'.push _,toks:=tk}) (by rw[List.map_id];exact src) wP xS hnd C hs hok hb ht' S2 e2 (.head _) hP hn ((LL.ext e').ext e2) p'
  cases z with
  | tup g1 g2 g3 g4=>exact fin g4 (Heap.lt_size (S'.N _ (List.mem_append_right _ g1)).1) λ h h1 _=>⟨_,h1 _ g1,g2,_,g3⟩
  | tupK g1 g4=>exact fin (by simpa using g4) (Heap.lt_size (S'.kget g1)) λ h _ h2=>⟨_,h2 _ _ g1,rfl,_,rfl⟩
 | clst l=>
  refine RV.eClst z λ g1 g4=>?_
  rename_i ta d vs k sl
  have hlt:=Heap.lt_size (S'.kget g1)
  refine wpAny_pyIter_list ⟨_,S'.kget g1,rfl,k,rfl⟩ ?_
  obtain⟨P,hP,src⟩:=Q7 (K:=K) (tb:=tb) (c:=c) (A:=A) (it:=h'.objs.size) (I₀:=I') (M₀:=M') hA (Nat.ne_of_lt hlt) g1 g4
  obtain⟨S2,e2,hn⟩:=St.newIt (s:={s with heap:=h',toks:=tk}) S' {cls:=.type "list_iterator",data:=.fields #[.ref ta,.int 0 0]} rfl
  exact wL (toV:=id) (lp:=zh is λ L H=>evS G F W b L H) (ok:=λ _=>True) (M₀:=M') (I₀:=I') (s:={s with heap:=h'.push _,toks:=tk}) (by rw[List.map_id];exact src) wP xS hnd C hs hok hb ht' S2 e2 (.head _) hP hn ((LL.ext e').ext e2) p'
 | ref j=>
  refine RV.eRef z λ a hj=>?_
  change PostS K tb fi c {s with heap:=h',toks:=tk} M' I' (z08 is (evS G F W b) j H'[j]? L H') _ _ at p'
  cases ho:H'[j]? with
  | none=>rw[ho] at p';exact p'.elim
  | some ob=>
  rw[ho] at p'
  cases ob<;>first | exact p'.elim | skip
  ·rename_i l
   obtain⟨vs,hl,hv⟩:=St.list (s:={s with heap:=h',toks:=tk}) S' hj ho
   have hlt:a<h'.objs.size:=by obtain⟨o,h1,_⟩:=hl;exact Heap.lt_size h1
   refine wpAny_pyIter_list hl ?_
   obtain⟨P,hP,src⟩:=z0O (K:=K) (tb:=tb) (c:=c) (A:=A) (it:=h'.objs.size) (I₀:=I') (M₀:=M') (l:=l) hA hj (Nat.ne_of_lt hlt)
   obtain⟨S2,e2,hn⟩:=St.newIt (s:={s with heap:=h',toks:=tk}) S' {cls:=.type "list_iterator",data:=.fields #[.ref a,.int 0 0]} rfl
   exact wL (toV:=id) (lp:=yR is (λ L H=>evS G F W b L H) j l) (ok:=λ H=>H[j]?=some (.lst l)) (M₀:=M') (I₀:=I') (s:={s with heap:=h'.push _,toks:=tk}) (by rw[List.map_id];exact src) Vu Xx hnd C hs hok hb ht' S2 e2 (.head _) hP hn ((LL.ext e').ext e2) p'
  ·rename_i l
   cases is with
   | nil=>exact p'.elim
   | cons ji iq=>
   cases iq with
   | cons _ _=>exact p'.elim
   | nil=>
   obtain⟨ob,b1,b2,b3⟩:=S'.obj hj ho
   cases b3 with
   | dct qs q0 q1 q2=>
    rename_i kvs
    have hne0:(a==sysModules)=false:=qs
    have hlt:=Heap.lt_size b2
    obtain⟨ep,hat,P,hP,src⟩:=z0r (K:=K) (tb:=tb) (c:=c) (A:=A) (it:=h'.objs.size) (I₀:=I') (M₀:=M') hA (Nat.ne_of_lt hlt) q0 q1 q2
    refine wpAny_pyIter_dict hne0 (hat _ b2) ?_
    obtain⟨S2,e2,hn⟩:=St.newIt (s:={s with heap:=h',toks:=tk}) S' {cls:=.type "dict_keyiterator",data:=.fields #[.ref a,.int 0 0,.int kvs.length 0,.int ep 0]} rfl
    exact wL (toV:=λ p:List Nat×V=>V.str p.1) (all:=l) (is:=[ji]) (lp:=yu ji (λ L H=>evS G F W b L H) j l) (ok:=λ _=>True) (M₀:=M') (I₀:=I') (s:={s with heap:=h'.push _,toks:=tk}) src Vb XS hnd C hs hok hb ht' S2 e2 (.head _) hP hn ((LL.ext e').ext e2) p'
 | _=>exact p'.elim
theorem z1o{P:Out->Prop}{c:Bool}{a:Out}(p:P (if c=true then a else .bad))(n:P .bad->False):c=true/\P a:=by
 cases c with
 | true=>exact⟨rfl,p⟩
 | false=>exact(n p).elim
theorem z2k{P:Out->Prop}{b:Lc->Hp->Out}(p:P (Z8 i b L xs H))(n:P .bad->False) :
  (∃ e,xs=[.int e]/\(decide (e<2 ^ 20)&&zE e)=true/\P (zh [i] b (zb 0 e.toNat) L H))\/(∃ a e,xs=[.int a,.int e]/\(decide (e<2 ^ 20)&&decide (0<=a)&&decide (a<2 ^ 20)&&zE e)=true/\P (zh [i] b (zb a (e-a).toNat) L H)):=by
 cases xs with
 | nil=>exact(n p).elim
 | cons x r=>
  cases r with
  | nil=>
   cases x with
   | int e=>exact .inl ⟨e,rfl,z1o p n⟩
   | _=>exact(n p).elim
  | cons y r=>
   cases x with
   | int a=>
    cases r with
    | nil=>
     cases y with
     | int e=>exact .inr ⟨a,e,rfl,z1o p n⟩
     | _=>exact(n p).elim
    | cons _ _=>cases y<;>exact(n p).elim
   | _=>exact(n p).elim
theorem Jd{as:E}{b:S}{x:Str}{at_:Expr}{ats:List Expr}{tb':List Stmt}{p3:Pos}(WB:Amb K tb G gn)(hnd:fi.ns.Nodup)(hh:hd=false)(hok:jO fi [i] (.Name x p1)=true)(hl:fi.sc.names.lookup ("range":Str)=some .globalImplicit)(hpl:zt (at_::ats)=true)(ha:SLp K tb G F hd n fi as (at_::ats))(hb:SSs K tb G F W hd n fi b tb') :
  SSp K tb G F W hd n fi (.forR i as b) (.For (.Name x p1) (.Call (.Name "range" p2) (at_::ats) [] p3) tb' [] pos):=by
 subst hh
 intro c A s m M I L H Q X C hs ht S LL p
 refine wpAny_For ?_ (jR rfl)
 rw[yp (λ _ _ _ q=>by cases q)]
 have hA:=C.hh rfl
 obtain⟨hns,hpl2⟩:=wH hpl
 have run:∀ {s1:Shared} {m1:Str->Option Value} {M1 I1:Led} {H1:Hp} {L1:Lc} (r:Addr) (a e:Int) (t u v:Tok) (k:Nat) (o:Obj),k=(e-a).toNat->zE e=true->0<=a->a<2 ^ 20->e<2 ^ 20->1<=s1.toks->St K tb c.w c.h₀ c.L s1.heap m1 M1 I1 H1->LR K tb fi.ns m1 I1 (z6 M1) L1->IsRange s1.heap r a e 1 t u v->
   PostS K tb fi c s1 M1 I1 (zh [i] (λ L H=>evS G F W b L H) (zb a k) L1 H1) Q X->wpAny (model pw c.w) A (pyIter (.ref r)) (λ it' s₂=>codeAny (model pw c.w) A (.forLoop (.Name x p1) it' tb' [] c.env) (λ r s'=>match r with | .ok f=>Q f s' | .error e=>cameBackBy (model pw c.w) A c.env X e s') s₂) X s1:=by
  intro s1 m1 M1 I1 H1 L1 r a e t u v k o hk hsm ha0 ha1 he1 ht1 S1 l1 hr p1'
  have hb2:-(2 ^ 62)<=e:=Int.neg_le_of_neg_le (Int.le_trans (Int.natAbs_neg e ▸ Int.le_natAbs) (Int.le_trans (Int.le_of_lt (Int.ofNat_lt.mpr (of_decide_eq_true hsm))) (by decide)))
  refine wpAny_pyIter_range hr (small_one (Int.le_trans (by decide) ha0) (Int.lt_trans ha1 (by decide)) hb2 (Int.lt_trans he1 (by decide))) ?_
  rw[rangeSize_nat,←hk]
  obtain⟨P,hP,src⟩:=Vs (K:=K) (tb:=tb) (c:=c) (A:=A) (it:=s1.heap.objs.size) (I₀:=I1) (M₀:=M1) (a:=a) (k:=k) hA
  obtain⟨S2,e2,hn⟩:=St.newIt S1 {cls:=.type "range_iterator",data:=.fields #[rawInt a,rawInt k,rawInt 1]} rfl
  exact wL (toV:=id) (lp:=zh [i] λ L H=>evS G F W b L H) (ok:=λ _=>True) (M₀:=M1) (I₀:=I1) (s:={s1 with heap:=s1.heap.push _}) (by rw[List.map_id];exact src) wP xS hnd C hs hok hb ht1 S2 e2 (.head _) hP hn (l1.ext e2) p1'
 refine wpAny_bind (kv (v:=.type "range") WB C hs S hl (by decide) (by rfl) (by decide) (by decide) (callWith_type1 ?_ (by cases at_<;>first | rfl | exact absurd rfl (hns _ _)) (by rw[v5];exact wk hpl2)))
 refine wp1 ht (ha c A s m M I L H _ _ _ C hs ht S LL (PostS.bind p λ vs xs H' h' tk M' I' S' e' z p' ht'=>?_))
 rcases z2k (P:=λ o=>PostS K tb fi c {s with heap:=h',toks:=tk} M' I' o Q X) (i:=i) (b:=λ L H=>evS G F W b L H) (L:=L) (H:=H') (xs:=xs) p' (λ h=>h) with ⟨e,rfl,hc,p'⟩ | ⟨a,e,rfl,hc,p'⟩
 ·simp only[Bool.and_eq_true,decide_eq_true_eq] at hc
  refine RVs.eCons z λ z1 z2=>?_
  cases z2
  cases z1
  refine call_range_1 ?_
  exact run (s1:={s with heap:=h'.push _,toks:=tk+1+1}) h'.objs.size 0 e _ _ _ e.toNat {cls:=.none,data:=.plain} (by rw[Int.sub_zero]) hc.2 (Int.le_refl 0) (by decide) hc.1 (Nat.succ_pos _) (S'.push' _) (LL.ext e') (IsRange.new _ _ _ _ _ _ _) p'
 ·simp only[Bool.and_eq_true,decide_eq_true_eq] at hc
  refine RVs.eCons z λ z1 z2=>?_
  refine RVs.eCons z2 λ z2 z3=>?_
  cases z3
  cases z1
  cases z2
  refine call_range_2 ?_
  exact run (s1:={s with heap:=h'.push _,toks:=tk+1}) h'.objs.size a e _ _ _ (e-a).toNat {cls:=.none,data:=.plain} rfl hc.2 hc.1.1.2 hc.1.2 hc.1.1.1 (Nat.succ_pos _) (S'.push' _) (LL.ext e') (IsRange.new _ _ _ _ _ _ _) p'
end
end
section
open PySem.W
abbrev Xs(C t:Addr):Obj:={cls:=.ref C,data:=.fields #[.ref t,.none,.none,.none,.bool false,.none]}
abbrev jY(rest:List Value):Obj:={cls:=.type "tuple",data:=.seq rest.toArray}
structure ExcCls(bm:List Value):Prop where
 ex:bm.contains (.type "Exception")=true
 ba:bm.contains (.type "BaseException")=true
 at_:bm.contains (.type "AttributeError")=false
 nm:bm.contains (.type "NameError")=false
section
variable {w:World}{A:Around}{R:Result->Shared->Prop}{h:Heap}{g:Array GenState}{d:Drawn}{t:Nat}{os:OsState}
variable {nm q:Str}{C N:Addr}{bs bm:List Value}{hdct:Bool}{sn:List Str}{sub:List Value}{ab:Bool}{col:Option Bool}{dd:Option Addr}{k0 k1 k2 k3 k5:Option Value}
theorem Qu{M:Model}{E:Value->Shared->Prop}(Y:ExcCls bm){rest:List Value}{Q:Unit->Shared->Prop}(hC:h.get? C=some (excClassObj nm q C N bs bm hdct sn sub ab col dd k0 k1 k2 k3 k5 "Exception.__new__"))(hq:Q () ⟨h,g,d,t,os⟩):wpAny M A (checkBuiltinCall "Exception.__new__" ⟨.ref C::rest,[]⟩) Q E ⟨h,g,d,t,os⟩:=by
 have hcont:(Value.ref C::bm).contains (.type "Exception")=true:=by rw[List.contains_cons,Y.ex,Bool.or_true]
 unfold checkBuiltinCall
 rw[PySem.F.excBase_Exception.newKind]
 rw[PySem.F.excBase_Exception.newSplit]
 rw[PySem.F.excBase_Exception.newRow]
 dsimp only
 repeat (first | refine wpAny_loadPart_at hC ?_ | (refine wpAny_isSubtype_exc hC ?_;rw[hcont]) | refine wpAny_staticBase_exc hC ?_ | refine wpAny_madeBy_exc hC ?_ | wp_step)
 exact hq
theorem z1S(Y:ExcCls bm){rest:List Value}(hC:h.get? C=some (excClassObj nm q C N bs bm hdct sn sub ab col dd k0 k1 k2 k3 k5 "Exception.__new__"))(hq:R (.ok (.ret (.ref (h.objs.size+1)))) ⟨(h.push (jY rest)).push (Xs C h.objs.size),g,d,t,os⟩)(hrest:rest.length<=sizeLine) :
  codeAny (model pw w) A (.builtin "Exception.__new__" ⟨.ref C::rest,[]⟩) R ⟨h,g,d,t,os⟩:=by
 have F:=PySem.F.excBase_Exception
 have hends:=F.ends
 have hcB:(Value.ref C::bm).contains (.type "Exception")=true:=by rw[List.contains_cons,Y.ex,Bool.or_true]
 have hcA:(Value.ref C::bm).contains (.type "AttributeError")=false:=by rw[List.contains_cons,Y.at_];rfl
 have hcN:(Value.ref C::bm).contains (.type "NameError")=false:=by rw[List.contains_cons,Y.nm];rfl
 refine codeAny_builtinAt F.entry ?_
 unfold Builtin.«BaseException.__new__»
 refine wpAt_bind ?_
 show wpAt _ _ _ (stack >>= _) _ _ _
 refine wpAt_bind (wpAt_stack λ p below=>wpAt_of_wpAny ?_)
 wp_walk
 refine wpAt_of_wpAny ?_
 rw[F.owner]
 repeat (first | with_reducible refine wpAny_madeHere_exc F.canon hC ?_ | with_reducible refine wpAny_loadPart_at hC ?_ | (with_reducible refine wpAny_isSubtype_exc hC ?_;first | rewrite [hcB] | rewrite [hcA] | rewrite [hcN]) | wp_step)
 show R _ _
 rw[Heap.size_push]
 exact hq
theorem z0D(Y:ExcCls bm){rest:List Value}{init:Value}(hC:h.get? C=some (excClassObj nm q C N bs bm hdct sn sub ab col dd k0 k1 k2 k3 k5 "Exception.__new__"))(hab:ab=false)(hi:Looks (model pw w) h (typeLookup (.ref C) "__init__") (some init))(hb:∀ self,Looks (model pw w) h (bindSpecial init self) (init,[self]))(hcall:Looks (model pw w) h (specialOf (.ref C) "__call__") (some (.builtin "type.__call__")))(htyp:Looks (model pw w) h (isInstance (.ref C) (.type "type")) true)(hrest:rest.length<=sizeLine)(hq:codeAny (model pw w) (A.under (.builtin "type.__call__" ⟨.ref C::rest,[]⟩)) (.call init ⟨.ref (h.objs.size+1)::rest,[]⟩) (InitBack (h.objs.size+1) R) ⟨(h.push (jY rest)).push (Xs C h.objs.size),g,d,t,os⟩) :
  codeAny (model pw w) A (.call (.ref C) ⟨rest,[]⟩) R ⟨h,g,d,t,os⟩:=by
 subst hab
 have F:=PySem.F.excBase_Exception
 refine codeAny_of_tree ?_
 show wpAny _ _ (callAny (.ref C) _) _ _ _
 refine nd_load hC ?_
 show wpAny _ _ (callAny.viaDunder (.ref C) _) _ _ _
 unfold callAny.viaDunder
 refine wpAny_bind (hcall.at ?_)
 dsimp only
 rw[tc_bind]
 refine wpAny_bind (wpAny_pure (wpAny_bind (wpAny_pure ?_)))
 refine wpAny_pure (a:=Fin.again (.call (.builtin "type.__call__") ⟨.ref C::rest,[]⟩)) (And.intro rfl ?_)
 refine codeAny_call_builtin_at (Code.quiet_builtin _ (by decide +kernel)) entry_typeCall (check_slot tc_kind tc_split htyp (tc_args _ _ _) ?_)
 repeat (first | with_reducible refine wpAny_loadPart_at hC ?_ | with_reducible refine wpAny_madeBy_exc hC ?_ | wp_step)
 refine codeAny_call_builtin_code (Code.quiet_builtin _ F.quiet) (Qu Y hC ?_)
 refine z1S Y hC ?_ hrest
 show wpAny _ _ _ _ _ _
 have k:∀ b o,h.get? b=some o->((h.push (jY rest)).push (Xs C h.objs.size)).get? b=some o:=λ b o e=>Heap.get?_push_of_some _ (Heap.get?_push_of_some _ e)
 have hC₁:=k _ _ hC
 have hget:((h.push (jY rest)).push (Xs C h.objs.size)).get? (h.objs.size+1)=some (Xs C h.objs.size):=by heap_get
 have hcC:(Value.ref C::bm).contains (.ref C)=true:=by simp
 have i1:=hi.keeps k
 have b1:=(hb (.ref (h.objs.size+1))).keeps k
 unfold isInstance
 repeat (first | with_reducible refine wpAny_loadPart_at hget ?_ | (with_reducible refine wpAny_isSubtype_exc hC₁ ?_;rewrite [hcC]) | wp_step)
 show wpAny _ _ (typeLookup (.ref C) _) _ _ _
 refine i1.at ?_
 dsimp only
 refine wpAny_holding (wpAny_bind (b1.at ?_))
 dsimp only
 refine wpAny_bind (wpAny_call (codeAny_mono hq λ r s' z=>?_))
 rcases r with e | (v | _ | _ | _)<;>first | exact z | exact z.elim | skip
 obtain⟨rfl,z⟩:=z
 exact wpAny_pure (wpAny_pure z)
end
end
section
open PyProof.Rows PySem.W
section
variable {w:World}{A:Around}{s:Shared}{K:Frag}{x C L:Addr}{h₀:Heap}{m:Str->Option Value}{R:Result->Shared->Prop}
set_option tactic.hygienic true in
theorem jV{E:Value->Shared->Prop}{Q:Fin->Shared->Prop}{dx:Addr}{name:Str}{tk:Tok}{pre post:List (Addr×Obj)}{n:Nat}(F:Fr h₀ L s.heap m)(N:News h₀ L s.heap (pre++(dx,dictOf es n)::post))(hl:(getL name es).isSome=true)(h1:∀ p∈pre,p.1≠dx)(h2:∀ p∈post,p.1≠dx)(hz:(putL name (PyData.keyHash w.params name) (.str name s.toks) v es).length<=1000)(h:∀ h',Fr h₀ L h' m->News h₀ L h' (pre++(dx,dictOf (putL name (PyData.keyHash w.params name) (.str name s.toks) v es) (putN name es n))::post)->Q (.done (.ret .none)) {s with heap:=h',toks:=s.toks+1}) :
  wpAny (model pw w) A (Builtin.ObjectAttr.storeInDict dx (.str name tk) name v) Q E s:=by
 have e:Obj.putName name (PyData.keyHash w.params name) (.str name s.toks) v (dictOf es n)=dictOf (putL name (PyData.keyHash w.params name) (.str name s.toks) v es) (putN name es n):=putName_dict ..
 obtain⟨U1,U2⟩:=news_upd (f:=Obj.putName name (PyData.keyHash w.params name) (.str name s.toks) v) F N h1 h2 e rfl
 have D:=(N (dx,dictOf es n) (by simp)).1
 have D':=(U2 (dx,dictOf (putL name (PyData.keyHash w.params name) (.str name s.toks) v es) (putN name es n)) (by simp)).1
 refine wpAny_bind (wpAny_pure (wpAny_bind ?_))
 unfold nsSet
 refine wpAny_bind (wpAny_bind (wpAny_askSetting (wpAny_pure (wpAny_bind (wpAny_mkText (wpAny_bind (wpAny_loadPart D ?_)))))))
 dsimp only
 have c:(!es.toArray.any (·.key.isStr name)&&es.toArray.any (·.refKey))=false:=by
  rw[←Array.any_toList,←Array.any_toList]
  unfold PySem.W.getL at hl
  split at hl
  ·rename_i en he
   rw[show(es.toArray.toList.any (·.key.isStr name))=true from List.any_eq_true.mpr ⟨en,by simpa using List.mem_of_find?_eq_some he,by have:=List.find?_some (p:=λ x:DictEntry=>x.key.isStr name) he;simpa using this⟩];rfl
  ·split at hl
   ·cases hl
   ·rename_i z
    rw[Bool.not_eq_true] at z
    rw[show(es.toArray.toList.any (·.refKey))=false by simpa using z,Bool.and_false]
 rw[aRefKeyMayBeTheName_at,c]
 refine wpAny_updatePart D ?_
 refine wpAny_bind (wpAny_lookBehind D' (pastItsLine_dict (by rw[List.size_toArray,sizeLine_eq];omega)) ?_)
 exact wpAny_pure (h _ U1 U2)
structure ExcK(K:Frag)(C:Addr):Prop where
 obj:∃ nm q N bs bm hdct sn sub col dd k0 k1 k2 k3 k5,K.lookup C=some (excClassObj nm q C N bs bm hdct sn sub false col dd k0 k1 k2 k3 k5 "Exception.__new__")/\hdct=true/\ExcCls bm/\(∀ self,refuseLoop self "__setattr__" (.ref C::bm)=pure ())
 call:specialIn K (.ref C) "__call__"=some (some (.builtin "type.__call__"))
 typ:instIn K (.ref C) (.type "type")=some true
 keep:keepIn K (.ref C)=true
 sa:findIn K (.ref C) "__setattr__"=some (some (.builtin "object.__setattr__"))
 sub:subIn K (.ref C) (.type "object")=some true
 subE:subIn K (.ref C) (.type "Exception")=some true
 subB:subIn K (.ref C) (.type "BaseException")=some true
 no:∀ nm:List Nat,nm∈([txt,@"line",@"at"]:List (List Nat))->findIn K (.ref C) (z0 nm)=some none
theorem osaE{ox:Obj}{od:Option Obj}{name:Str}{tk:Tok}(X:K.In s.heap)(Y:ExcK K C)(I:InstAt s.heap x ox C od)(hn:findIn K (.ref C) name=some none)(h:wpAny (model pw w) A.in1 (Builtin.ObjectAttr.storeInOwnDict (.ref x) (.ref C) (.str name tk) name v false)
   (λ fin s'=>match fin with | .done f=>R (.ok f) s' | .again c'=>c'.quiet=true/\codeAny (model pw w) A c' R s') (λ e s'=>R (.error e) s') s) :
  codeAny (model pw w) A (.call (.builtin "object.__setattr__") ⟨[.ref x,.str name tk,v],[]⟩) R s:=by
 have SF:=PySem.F.store_object
 obtain⟨nm,q,N,bs,bm,hdct,sn,sub,col,dd,k0,k1,k2,k3,k5,hK,rfl,hY,hrf⟩:=Y.obj
 have hc:clsIn K C=some {name:=nm,bases:=bs,mro:=.ref C::bm,ns:=N,qualname:=q,hasDict:=true,slotNames:=sn,subclasses:=sub,abstract:=false,collection:=col,hasDel:=false}:=by unfold clsIn;rw[hK]
 have sb:Looks (model pw w) s.heap (isInstance (.ref x) (.type "object")) true:=I.type.andThen (looks_subIn X Y.sub)
 refine codeAny_call_builtin SF.slot.plain SF.entry (@check_slot (model pw w) _ _ s "object.__setattr__" "object" "__setattr__" (.ref x) [.str name tk,v] [] _ SF.kind SF.split sb (SF.args (.ref x) (.str name tk) v) ?_)
 have hm:Looks (model pw w) s.heap (mroOf (.ref C)) (.ref C::bm):=(looks_clsIn X hc).andThen .now
 rw[osa_eq,refuse_eq]
 refine wpAny_bind (wpAny_bind (I.type.here (wpAny_bind (hm.here ?_))))
 rw[hrf]
 refine wpAny_pure (wpAny_bind (I.type.here (wpAny_bind ((looks_findIn X hn).here (wpAny_bind (wpAny_pure ?_))))))
 exact h
theorem K1{Y:ExcK K C}:∃ cd,clsIn K C=some cd/\cd.hasDict=true:=by
 obtain⟨nm,q,N,bs,bm,hdct,sn,sub,col,dd,k0,k1,k2,k3,k5,hK,rfl,hY,hrf⟩:=Y.obj
 exact⟨_,by unfold clsIn;rw[hK],rfl⟩
theorem setE1{Q:Unit->Shared->Prop}{name:Str}{vs:Array Value}(X₀:K.In h₀)(Y:ExcK K C)(F:Fr h₀ L s.heap m)(N:News h₀ L s.heap ((x,({cls:=.ref C,data:=.fields vs}:Obj))::rest))(hr:∀ p∈rest,p.1≠x)(hn:findIn K (.ref C) name=some none)(q:∀ h' tk D hs kt,Fr h₀ L h' m->News h₀ L h' ((x,({cls:=.ref C,dict:=some D,data:=.fields vs}:Obj))::(D,dictOf [⟨hs,.str name kt,v⟩] 1)::rest)->(∀ p∈rest,p.1≠D)->x≠D->Q () {s with heap:=h',toks:=tk}) :
  wpAny (model pw w) A (setAttr (.ref x) name v) Q X' s:=by
 have X:=X₀.keeps F.keep
 have hx:=(N _ (.head _)).1
 have I:InstAt s.heap x ({cls:=.ref C,data:=.fields vs}:Obj) C none:=⟨hx,rfl,rfl,trivial⟩
 refine set_plain X I Y.sa (osaE (s:={s with toks:=s.toks+1}) X Y I hn ?_)
 obtain⟨cd,hc,hd⟩:=K1 (Y:=Y)
 refine wpAny_bind (wpAny_pure (wpAny_bind (wpAny_bind (wpAny_loadPart hx (wpAny_bind (Looks.here (s:={s with toks:=s.toks+1}) (looks_clsIn X hc) ?_))))))
 rw[hd]
 have F1:=F.push emptyDict
 have N1:=N.push F emptyDict
 have hxD:x≠s.heap.objs.size:=Nat.ne_of_lt (Heap.lt_size hx)
 have hD:∀ p∈rest,p.1≠s.heap.objs.size:=λ p hp=>Nat.ne_of_lt (Heap.lt_size (N p (.tail _ hp)).1)
 obtain⟨F2,N2⟩:=news_upd (pre:=[(s.heap.objs.size,emptyDict)]) (post:=rest) (d:=x) (o:=({cls:=.ref C,data:=.fields vs}:Obj)) (o':=({cls:=.ref C,dict:=some s.heap.objs.size,data:=.fields vs}:Obj)) (f:=λ o=>{o with dict:=some s.heap.objs.size}) F1 N1 (λ p hp=>by rw[List.mem_singleton.mp hp];exact hxD.symm) hr rfl rfl
 have hx1:=(N1 (x,({cls:=.ref C,data:=.fields vs}:Obj)) (.tail _ (.head _))).1
 refine wpAny_bind (wpAny_alloc (wpAny_bind (wpAny_update hx1 (wpAny_bind (wpAny_pure (wpAny_pure ?_))))))
 dsimp only
 refine jV (pre:=[(x,({cls:=.ref C,dict:=some s.heap.objs.size,data:=.fields vs}:Obj))]) (post:=rest) (es:=[]) (n:=0) F2 (λ p hp=>N2 p ?_) rfl (λ p hp=>by rw[List.mem_singleton.mp hp];exact hxD) hD (by simp [putL]) λ h' F3 N3=>?_
 ·have e1:[(x,({cls:=.ref C,dict:=some s.heap.objs.size,data:=.fields vs}:Obj))]++(s.heap.objs.size,dictOf [] 0)::rest=(x,({cls:=.ref C,dict:=some s.heap.objs.size,data:=.fields vs}:Obj))::(s.heap.objs.size,dictOf [] 0)::rest:=rfl
  rw[e1] at hp
  cases hp with
  | head=>exact .tail _ (.head _)
  | tail _ hp=>
   cases hp with
   | head=>exact .head _
   | tail _ hp=>exact .tail _ (.tail _ hp)
 ·exact q h' _ s.heap.objs.size _ _ F3 N3 hD hxD
theorem setE2{Q:Unit->Shared->Prop}{name:Str}{vs:Array Value}{n:Nat}(X₀:K.In h₀)(Y:ExcK K C)(F:Fr h₀ L s.heap m)(N:News h₀ L s.heap ((x,({cls:=.ref C,dict:=some D,data:=.fields vs}:Obj))::(D,dictOf es n)::rest))(hxD:x≠D)(hr:∀ p∈rest,p.1≠D)(hn:findIn K (.ref C) name=some none)(hl:(getL name es).isSome=true)(hz:es.length<=900)(q:∀ h' tk hs kt,Fr h₀ L h' m->News h₀ L h' ((x,({cls:=.ref C,dict:=some D,data:=.fields vs}:Obj))::(D,dictOf (putL name hs (.str name kt) v es) (putN name es n))::rest)->Q () {s with heap:=h',toks:=tk}) :
  wpAny (model pw w) A (setAttr (.ref x) name v) Q X' s:=by
 have X:=X₀.keeps F.keep
 have hx:=(N _ (.head _)).1
 have hD:=(N _ (.tail _ (.head _))).1
 have I:InstAt s.heap x ({cls:=.ref C,dict:=some D,data:=.fields vs}:Obj) C (some (dictOf es n)):=⟨hx,rfl,rfl,hD⟩
 refine set_plain X I Y.sa (osaE (s:={s with toks:=s.toks+1}) X Y I hn ?_)
 obtain⟨cd,hc,hd⟩:=K1 (Y:=Y)
 refine wpAny_bind (wpAny_pure (wpAny_bind (wpAny_bind (wpAny_loadPart hx (wpAny_bind (Looks.here (s:={s with toks:=s.toks+1}) (looks_clsIn X hc) ?_))))))
 rw[hd]
 refine wpAny_pure (a:=some D) ?_
 dsimp only
 refine jV (s:={s with toks:=s.toks+1}) (pre:=[(x,({cls:=.ref C,dict:=some D,data:=.fields vs}:Obj))]) (post:=rest) (es:=es) (n:=n) F N hl (λ p hp=>by rw[List.mem_singleton.mp hp];exact hxD) hr ?_ λ h' F3 N3=>?_
 ·have:∀ (es:List DictEntry),(putL name (PyData.keyHash w.params name) (.str name (s.toks+1)) v es).length<=es.length+1:=by
   intro es
   induction es with
   | nil=>simp [putL]
   | cons e r ih=>
    simp only[putL]
    split
    ·simp
    ·simp;omega
  have:=this es
  show(putL name (PyData.keyHash w.params name) (.str name (s.toks+1)) v es).length<=1000
  omega
 ·exact q h' _ _ _ F3 N3
theorem Zq{M:Model}{E:Value->Shared->Prop}{Q:Unit->Shared->Prop}{g:Array GenState}{d:Drawn}{t:Nat}{os:OsState}{nm q:Str}{N:Addr}{bs bm:List Value}{hdct:Bool}{sn:List Str}{sub:List Value}{ab:Bool}{col:Option Bool}{dd:Option Addr}{k0 k1 k2 k3 k5:Option Value}{newId:String}{oe:Obj}{rest:List Value}(Y:ExcCls bm)(hC:h.get? C=some (excClassObj nm q C N bs bm hdct sn sub ab col dd k0 k1 k2 k3 k5 newId))(he:h.get? x=some oe)(hcls:oe.cls=.ref C)(hq:Q () ⟨h,g,d,t,os⟩) :
  wpAny M A (checkBuiltinCall "Exception.__init__" ⟨.ref x::rest,[]⟩) Q E ⟨h,g,d,t,os⟩:=by
 have F:=PySem.F.excBase_Exception
 have hcB:(Value.ref C::bm).contains (.type "Exception")=true:=by rw[List.contains_cons,Y.ex,Bool.or_true]
 have hshort:=F.noStar
 simp only[checkBuiltinCall,F.initKind,F.initSplit,F.initRow]
 repeat (first | (with_reducible refine wpAny_loadPart_at he ?_;rewrite [hcls]) | with_reducible refine wpAny_loadPart_at hC ?_ | (with_reducible refine wpAny_isSubtype_exc hC ?_;rewrite [hcB]) | wp_step)
 refine wpAny_onRaise ?_
 rw[show ∀ (a b:String) (n:Nat),Bind.check ⟨.positional,"*","Exception",.self,[⟨"args",.varPos,false⟩]⟩ a b n (List.map (λ x=>x.fst) ({pos:=Value.ref x::rest}:Args).kw)=pure () from
  λ a b n=>check_star_args _ _ _ _ _ _]
 exact wpAny_pure hq
abbrev vG(t:Addr):Array Value:=#[.ref t,.none,.none,.none,.bool false,.none]
theorem z14{tv:Value}{t0:Addr}(X₀:K.In h₀)(Y:ExcK K C)(F:Fr h₀ L s.heap m)(N:News h₀ L s.heap ((x,({cls:=.ref C,data:=.fields (vG t0)}:Obj))::rest))(hr:∀ p∈rest,p.1≠x)(q:∀ h' tk T,Fr h₀ L h' m->News h₀ L h' ((x,({cls:=.ref C,data:=.fields (vG T)}:Obj))::rest)->Q .none {s with heap:=h',toks:=tk}) :
  wpAny (model pw w) A (call (.builtin "Exception.__init__") [.ref x,tv]) Q X' s:=by
 have FE:=PySem.F.excBase_Exception
 have X:=X₀.keeps F.keep
 have hx:=(N _ (.head _)).1
 have I:InstAt s.heap x ({cls:=.ref C,data:=.fields (vG t0)}:Obj) C none:=⟨hx,rfl,rfl,trivial⟩
 obtain⟨nm,qq,NN,bs,bm,hdct,sn,sub,col,dd,k0,k1,k2,k3,k5,hK,rfl,hY,hrf⟩:=Y.obj
 obtain⟨h,g,d,t,os⟩:=s
 refine wpAny_call (codeAny_call_builtin FE.init.plain FE.initEntry (Zq hY (X _ _ hK) hx rfl ?_))
 wp_walk
 have F1:=F.push {cls:=.type "tuple",data:=.seq #[tv]}
 have N1:=News.pushKeep N {cls:=.type "tuple",data:=.seq #[tv]}
 obtain⟨F2,N2⟩:=news_upd (pre:=[]) (post:=rest) (d:=x) (o:=({cls:=.ref C,data:=.fields (vG t0)}:Obj)) (o':=({cls:=.ref C,data:=.fields (vG h.objs.size)}:Obj)) (f:=Obj.mapFields (·.setIfInBounds 0 (Value.ref h.objs.size))) F1 N1 (λ p hp=>by cases hp) hr rfl rfl
 exact q _ _ _ F2 N2
end
section
variable {w:World}{A:Around}{s:Shared}{K:Frag}{x C L:Addr}{h₀:Heap}{m:Str->Option Value}{R:Result->Shared->Prop}
theorem Xg:findCls K (.type "Exception") (.type "type") ("__init__":Str)=some (.val (.builtin "Exception.__init__")):=by kernel_rfl
theorem methT{pl:Sem Bool}{Q:Value×List Value->Shared->Prop}(X:K.In s.heap)(q:∀ tk,Q (.builtin "Exception.__init__",[]) {s with toks:=tk}) :
  wpAny (model pw w) A (getMethod (.type "Exception") ("__init__":Str) pl) Q X' s:=by
 have ht:Looks (model pw w) s.heap (typeOf (.type "Exception")) (.type "type"):=Looks.of_pure (by kernel_rfl)
 have ho:Looks (model pw w) s.heap (opaqueClassAbove (.type "Exception")) none:=Looks.of_pure (by kernel_rfl)
 unfold getMethod
 refine wpAny_bind (wpAny_bind (ht.here ((Looks.of_pure KF.slot_tga.lookup).here ?_)))
 dsimp only
 rw[if_pos canon_tga]
 refine wpAny_bind (wpAny_mono (cls_open X ho ht (by kernel_rfl) (looks_hook X (by rfl)) (by kernel_rfl) Xg (wpAny_pure (by show wpAny _ _ (handedOut (.builtin "Exception.__init__")) _ _ _;rw[handedOut_of (by decide +kernel)];exact wpAny_pure (a:=Value.builtin "Exception.__init__") (q _)))) (λ _ _ z=>wpAny_pure z) λ _ _ z=>z)
end
theorem Xc{f g:α->Option β}:∀ {l:List α},(∀ k∈l,f k=g k)->l.filterMap f=l.filterMap g
 | [],_=>rfl
 | a::r,h=>by
  rw[List.filterMap_cons,List.filterMap_cons,h a (.head _),Xc λ k hk=>h k (.tail _ hk)]
theorem XR{ns:List Str}:∀ {vs:List α},ns.Nodup->vs.length=ns.length->(ns.filterMap λ n=>((ns.zip vs).lookup n).map (n,·))=ns.zip vs:=by
 induction ns with
 | nil=>exact λ _ _=>rfl
 | cons n ns ih=>
  intro vs hn h
  cases vs with
  | nil=>cases h
  | cons v vs=>
   have hn':=List.nodup_cons.mp hn
   have e2:(ns.filterMap λ k=>(((n::ns).zip (v::vs)).lookup k).map (k,·))=(ns.filterMap λ k=>((ns.zip vs).lookup k).map (k,·)):=by
    refine Xc λ k hk=>?_
    rw[List.zip_cons_cons,List.lookup_cons,bn_ λ q:k=n=>hn'.1 (q ▸ hk)]
   rw[List.filterMap_cons,e2,ih hn'.2 (Nat.succ.inj h),List.zip_cons_cons,List.lookup_cons,beq_self_eq_true]
   rfl
theorem VP{ns:List Str}:∀ {vs:List α},vs.length=ns.length->∀ n∈ns,((ns.zip vs).lookup n).isNone=false:=by
 induction ns with
 | nil=>exact λ _ _ h=>nomatch h
 | cons m ns ih=>
  intro vs h n hn
  cases vs with
  | nil=>cases h
  | cons v vs=>
   rw[List.zip_cons_cons,List.lookup_cons]
   cases e:n==m with
   | true=>rfl
   | false=>exact ih (Nat.succ.inj h) n ((mc_ hn).elim (λ q=>absurd q (ne_ e)) id)
theorem ki{s:Shared}{fd:FuncData}(h1:fd.params.posonlyargs=[])(h2:fd.params.kwonlyargs=[])(h3:fd.params.vararg=none)(h4:fd.params.kwarg=none)(h5:fd.defaults=.none)(hn:(fd.params.args.map (·.arg)).Nodup)(hl:vs.length=(fd.params.args.map (·.arg)).length) :
  BindsTo s fd ⟨vs,[]⟩ ((fd.params.args.map (·.arg)).zip vs):=by
 intro M A E Q q
 have hz:=XR (vs:=vs) hn hl
 have hs:=VP (vs:=vs) hl
 obtain⟨ns,hns⟩:∃ ns,fd.params.args.map (·.arg)=ns:=⟨_,rfl⟩
 rw[hns] at hn hl hz hs q
 have hm:((ns.take ns.length).filter λ n=>((ns.zip vs).lookup n).isNone)=[]:=by
  rw[List.take_length,List.filter_eq_nil_iff]
  intro a ha
  rw[hs a ha];simp
 have hlt:¬(vs.length>ns.length):=by omega
 obtain⟨_,_,⟨_,ar,_,_,_,_,_⟩,_,_,_,_,_,_,_,_,_,_,_,_⟩:=fd
 dsimp only at h1 h2 h3 h4 h5 hns
 subst h1 h2 h3 h4 h5 hns
 have h0:((none:Option (Array Value)).getD #[]).toList=[]:=rfl
 unfold bindArgs
 refine wpAny_bind (wpAny_pure ?_)
 refine wpAny_bind (wpAny_pure ?_)
 refine wpAny_ite_false (decide_eq_false λ h=>hlt (of_decide_eq_true (V.beqB h).1)) ?_
 refine wpAny_ite_false (by simp only[h0,List.map_nil,List.nil_append,List.drop_nil,List.length_nil,Nat.sub_zero,hm,List.isEmpty_nil,Bool.not_true,Bool.false_eq_true,decide_false]) ?_
 dsimp only
 rewrite [h0,List.drop_nil,List.zip_nil_right]
 refine wpAny_bind (wpAny_pure ?_)
 refine wpAny_bind (wpAny_pure ?_)
 refine wpAny_ite_false rfl ?_
 refine wpAny_pure ?_
 show Q (List.filterMap (λ n=>(List.lookup n ((ar.map (·.arg)).zip vs)).map (n,·)) (ar.map (·.arg)++[])) s
 rewrite [List.append_nil,hz]
 exact q
section
variable {K:Frag}{tb:Tab}{I I₀ I':Led}{μ μ':List Addr}
theorem jL{a:V}{r:List V}(h:V.flatIn.flatL (a::r)=true):a.flatIn=true/\V.flatIn.flatL r=true:=V.beqB h
theorem RV.flatSub(hI:∀ p∈I,p.2.cls=.type "tuple"->p∈I'){x:V}(hf:x.flatIn=true)(h:RV K tb I μ v x):RV K tb I' μ' v x:=
 RV.rec (motive_1:=λ v x _=>x.flatIn=true->RV K tb I' μ' v x) (motive_2:=λ v x _=>V.flatIn.flatL x=true->RVs K tb I' μ' v x) (λ _=>.none) (λ b _=>.bool b) (λ i t _=>.int i t) (λ t h _=>.str t h) (λ h1 h2 h3 _ q hf=>.tup (hI _ h1 h2) h2 h3 (q hf)) (λ h1 _ q hf=>.tupK h1 (q hf)) (λ _ hf=>by cases hf) (λ h _=>.fn h) (λ h _=>.cls h)
  (λ _ _ _ _ _ _ hf=>by cases hf) (λ h1 _ q hf=>.clst h1 (q hf)) (λ tk h0 h1 h4 _=>.cdct tk h0 h1 h4) (λ _=>.nil) (λ _ _ p q hf=>.cons (p (jL hf).1) (q (jL hf).2)) h hf
theorem RVs.flatSub(hI:∀ p∈I,p.2.cls=.type "tuple"->p∈I'){v:List Value}{x:List V}(hf:V.flatIn.flatL x=true)(h:RVs K tb I μ v x):RVs K tb I' μ' v x:=
 h.ind (P:=λ v x=>V.flatIn.flatL x=true->RVs K tb I' μ' v x) (λ _=>.nil) (λ h _ q hf=>.cons (h.flatSub hI (jL hf).1) (q (jL hf).2)) hf
theorem RV.flat{x:V}(hf:x.flatIn=true)(h:RV K tb I μ v x):RV K tb I μ' v x:=h.flatSub (λ _ h _=>h) hf
theorem RVs.flat{v:List Value}{x:List V}(hf:V.flatIn.flatL x=true)(h:RVs K tb I μ v x):RVs K tb I μ' v x:=h.flatSub (λ _ h _=>h) hf
theorem Yd(hM:∀ (i:Nat) (a:Addr),μ[i]?=some a->μ'[i]?=some a){a b:Addr}(h:μ[i]?=some a)(h':μ'[i]?=some b):μ[i]?=some b:=by
 have:=hM _ _ h
 rw[h'] at this
 cases this
 exact h
theorem RV.seq_inv{l:List V}(h:RV K tb I₀ μ v (.tup l)):∃ vs,RVs K tb I₀ μ vs l:=by cases h<;>exact⟨_,‹_›⟩
theorem RV.clst_inv{l:List V}(h:RV K tb I₀ μ v (.clst l)):∃ vs,RVs K tb I₀ μ vs l:=by cases h;exact⟨_,‹_›⟩
theorem RV.ref_inv(h:RV K tb I₀ μ v (.ref i)):∃ a,μ[i]?=some a:=by cases h;exact⟨_,‹_›⟩
theorem RV.exc_inv(h:RV K tb I₀ μ v (.exc k d)):∃ a,μ[d]?=some a:=by cases h;exact⟨_,‹_›⟩
theorem RVs.cons_inv{x:V}(h:RVs K tb I₀ μ vs (x::xs)):(∃ v,RV K tb I₀ μ v x)/\∃ vs,RVs K tb I₀ μ vs xs:=by cases h;exact⟨⟨_,‹_›⟩,_,‹_›⟩
theorem RV.cut(hM:∀ (i:Nat) (a:Addr),μ[i]?=some a->μ'[i]?=some a){v₀:Value}{x:V}(h0:RV K tb I₀ μ v₀ x)(h:RV K tb I' μ' v x):RV K tb I' μ v x:=
 RV.rec (motive_1:=λ v x _=>∀ v₀,RV K tb I₀ μ v₀ x->RV K tb I' μ v x) (motive_2:=λ v x _=>∀ v₀,RVs K tb I₀ μ v₀ x->RVs K tb I' μ v x) (λ _ _=>.none) (λ b _ _=>.bool b) (λ i t _ _=>.int i t) (λ t h _ _=>.str t h)
  (λ h1 h2 h3 _ q _ g=>g.seq_inv.elim λ vs g=>.tup h1 h2 h3 (q vs g)) (λ h1 _ q _ g=>g.seq_inv.elim λ vs g=>.tupK h1 (q vs g)) (λ h _ g=>g.ref_inv.elim λ _ g=>.ref (Yd hM g h)) (λ h _ _=>.fn h) (λ h _ _=>.cls h)
  (λ h1 h2 h3 h4 h5 h6 _ g=>g.exc_inv.elim λ _ g=>.exc h1 h2 h3 h4 h5 (Yd hM g h6)) (λ h1 _ q _ g=>g.clst_inv.elim λ vs g=>.clst h1 (q vs g)) (λ tk h0 h1 h4 _ _=>.cdct tk h0 h1 h4) (λ _ _=>.nil)
  (λ _ _ p q _ g=>g.cons_inv.1.elim λ v g1=>g.cons_inv.2.elim λ vs g2=>.cons (p v g1) (q vs g2)) h v₀ h0
theorem RVs.cut(hM:∀ (i:Nat) (a:Addr),μ[i]?=some a->μ'[i]?=some a){v v₀:List Value}{x:List V}(h0:RVs K tb I₀ μ v₀ x)(h:RVs K tb I' μ' v x):RVs K tb I' μ v x:=
 h.ind (P:=λ v x=>∀ v₀,RVs K tb I₀ μ v₀ x->RVs K tb I' μ v x) (λ _ _=>.nil) (λ h _ q _ g=>g.cons_inv.1.elim λ v g1=>g.cons_inv.2.elim λ vs g2=>.cons (g1.cut hM h) (q vs g2)) v₀ h0
theorem AttR.cut(hM:∀ (i:Nat) (a:Addr),μ[i]?=some a->μ'[i]?=some a){v v₀:List DictEntry}{x:List (List Nat×V)}(h0:AttR K tb I₀ μ v₀ x)(h:AttR K tb I' μ' v x):AttR K tb I' μ v x:=by
 induction h generalizing v₀ with
 | nil=>exact .nil
 | cons h1 h2 _ q=>cases h0 with | cons _ g p=>exact .cons h1 (g.cut hM h2) (q p)
theorem KvR.cut(hM:∀ (i:Nat) (a:Addr),μ[i]?=some a->μ'[i]?=some a){v v₀:List (Str×Value)}{x:List (List Nat×V)}(h0:KvR K tb I₀ μ v₀ x)(h:KvR K tb I' μ' v x):KvR K tb I' μ v x:=by
 induction h generalizing v₀ with
 | nil=>exact .nil
 | cons h1 h2 _ q=>cases h0 with | cons _ g p=>exact .cons h1 (g.cut hM h2) (q p)
theorem RO.cut(hM:∀ (i:Nat) (a:Addr),μ[i]?=some a->μ'[i]?=some a){a a₀:Addr}{ob₀:Obj}{o:O}(h0:RO K tb w I₀ μ a₀ ob₀ o)(h:RO K tb w I' μ' a ob o):RO K tb w I' μ a ob o:=by
 cases h with
 | lst h hz=>cases h0 with | lst g _=>exact .lst (g.cut hM h) hz
 | dct hs h0' h1 h5=>cases h0 with | dct _ _ _ g=>exact .dct hs h0' h1 (g.cut hM h5)
 | att h=>cases h0 with | att g=>exact .att (g.cut hM h)
 | inst h1 h2=>cases h0 with | inst _ g=>exact .inst h1 (Yd hM g h2)
theorem ROs.cut(hM:∀ (i:Nat) (a:Addr),μ[i]?=some a->μ'[i]?=some a){M₀:Led}{J:Hp}(h0:ROs K tb w I₀ μ M₀ H)(h:ROs K tb w I' μ' M (H++J)):ROs K tb w I' μ (M.take H.length) H:=by
 induction h0 generalizing M with
 | nil=>exact .nil
 | cons g q ih=>cases h with | cons h r=>exact .cons (g.cut hM h) (ih r)
end
theorem YH(x:Ext M I M' I'):z6 (M'.take M.length)=z6 M:=by
 apply List.ext_getElem?
 intro i
 cases h:(z6 M)[i]? with
 | some a=>
  have hl:i<M.length:=by have:=(gs_ h).1;simpa using this
  have:=x.m i a h
  rw[z6,List.map_take,List.getElem?_take,if_pos hl]
  exact this
 | none=>
  have hl:M.length<=i:=by have:=gn_ h;simpa using this
  rw[List.getElem?_eq_none_iff]
  simp only[z6,List.length_map,List.length_take]
  exact Nat.le_trans (Nat.min_le_left _ _) hl
section
variable {K:Frag}{tb:Tab}{c:Cx}
theorem St.cut{h₁:Heap}{L L':Addr}{J:Hp}{w':World}{h₀':Heap}(S₀:St K tb w h₀ L h₁ m M I H)(S:St K tb w' h₀' L' h m' M' I' (H++J))(x:Ext M I M' I') :
  St K tb w' h₀' L' h m' (M'.take M.length) I' H/\Ext M I (M'.take M.length) I':=by
 have ha:=YH x
 have hl:M.length=H.length:=S₀.ro.length
 have hw:w'=w:=S.tw.symm.trans S₀.tw
 refine⟨⟨S.F,λ p hp=>S.N p ?_,?_,λ p hp hq=>?_,?_,S.kin,S.tw⟩,x.i,λ i a e=>by rw[ha];exact e⟩
 ·rcases ma_ hp with q | q
  ·exact List.mem_append_left _ (List.mem_of_mem_take q)
  ·exact List.mem_append_right _ q
 ·rw[ha];exact S₀.nd
 ·have hq':p.1∈z6 M':=by
   obtain⟨q,h1,h2⟩:=List.mem_map.mp hq
   exact List.mem_map.mpr ⟨q,List.mem_of_mem_take h1,h2⟩
  obtain⟨i,l,h1,h2⟩:=S.ap p hp hq'
  have hi:i<M.length:=by
   obtain⟨q,h3,h4⟩:=List.mem_map.mp hq
   obtain⟨j,h5,h6⟩:=List.getElem_of_mem h3
   have hj:j<M.length:=Nat.lt_of_lt_of_le h5 (List.length_take_le _ _)
   have e1:(z6 M')[j]?=some p.1:=by
    rw[List.getElem_take] at h6
    have hj':j<M'.length:=Nat.lt_of_lt_of_le h5 (List.length_take_le' _ _)
    rw[z6,List.getElem?_map,List.getElem?_eq_getElem hj',h6]
    simp [h4]
   have e2:(z6 M')[i]?=some p.1:=kd (by rw[h1])
   obtain⟨l1,g1⟩:=gs_ e1
   obtain⟨l2,g2⟩:=gs_ e2
   have:j=i:=(List.getElem_inj S.nd).mp (g1.trans g2.symm)
   exact this ▸ hj
  refine⟨i,l,by rw[List.getElem?_take,if_pos hi];exact h1,?_⟩
  rw[List.getElem?_append_left (hl ▸ hi)] at h2
  exact h2
 ·rw[ha,hl]
  subst hw
  exact S₀.ro.cut x.m S.ro
end
section
variable {K:Frag}{tb:Tab}{I I':Led}{μ μ':List Addr}
theorem AttR.flatSub(hI:∀ p∈I,p.2.cls=.type "tuple"->p∈I')(hf:V.flatIn.flatL (l.map (·.2))=true)(h:AttR K tb I μ es l):AttR K tb I' μ' es l:=
 h.rec (motive:=λ es l _=>V.flatIn.flatL (l.map (·.2))=true->AttR K tb I' μ' es l) (λ _=>.nil) (λ h1 h2 _ q hf=>.cons h1 (RV.flatSub hI (jL hf).1 h2) (q (jL hf).2)) hf
end
theorem RO.noTup{K:Frag}{tb:Tab}{a:Addr}{o:O}(h:RO K tb w I μ a ob o):ob.cls≠.type "tuple":=by
 cases h with
 | lst h hz=>show Value.type "list"≠.type "tuple";decide
 | dct hs h0 h1 h5=>rw[xP h1];decide
 | att h=>show Value.type "dict"≠.type "tuple";decide
 | inst h1 h2=>intro q;cases q
section
variable {K:Frag}{tb:Tab}
theorem St.fresh{L:Addr}(S:St K tb w h₀ L h m M I H):St K tb w h₀ L h m [] (M++I) []:=
 ⟨S.F,S.N,.nil,λ p hp q=>by simp at q,.nil,S.kin,S.tw⟩
theorem ROs.mem(h:ROs K tb w I μ M H):∀ {p:Addr×Obj},p∈M->∃ o,RO K tb w I μ p.1 p.2 o:=
 h.rec (motive:=λ M H _=>∀ {p:Addr×Obj},p∈M->∃ o,RO K tb w I μ p.1 p.2 o) (λ h=>(List.not_mem_nil h).elim) λ h' _ q _ h=>(mc_ h).elim (λ e=>e ▸ ⟨_,h'⟩) q
noncomputable def vS(M I₂ I:Led):Led:=I₂.filter (λ p=>!(z6 M).contains p.1)++I
theorem St.unfresh{w':World}{h₀' h₁:Heap}{L L':Addr}{M₂ I₂:Led}{H₂:Hp}(S₀:St K tb w h₀ L h₁ m M I H)(S:St K tb w' h₀' L' h m' M₂ I₂ H₂)(x:Ext [] (M++I) M₂ I₂) :
  St K tb w' h₀' L' h m' M (vS M I₂ I) H/\Ext M I M (vS M I₂ I)/\∀ p∈I₂,p.2.cls=.type "tuple"->p∈vS M I₂ I:=by
 have hw:w'=w:=S.tw.symm.trans S₀.tw
 have hIn:∀ p∈M++I,p∈M₂++I₂:=λ p hp=>List.mem_append_right _ (x.i p hp)
 refine⟨⟨S.F,λ p hp=>S.N p ?_,S₀.nd,λ p hp q=>?_,?_,S.kin,S.tw⟩,⟨λ p hp=>List.mem_append_right _ hp,λ _ _ h=>h⟩,λ p hp hc=>?_⟩
 ·rcases ma_ hp with z | z
  ·exact hIn p (List.mem_append_left _ z)
  ·rcases ma_ z with z | z
   ·exact List.mem_append_right _ ((List.mem_filter.mp z).1)
   ·exact hIn p (List.mem_append_right _ z)
 ·rcases ma_ hp with z | z
  ·have:=(List.mem_filter.mp z).2
   simp only[Bool.not_eq_true',List.contains_eq_mem,decide_eq_false_iff_not] at this
   exact absurd q this
  ·exact S₀.ap p z q
 ·subst hw
  exact S₀.ro.mono (λ p hp=>List.mem_append_right _ hp) λ _ _ h=>h
 ·refine List.mem_append_left _ (List.mem_filter.mpr ⟨hp,?_⟩)
  simp only[Bool.not_eq_true',List.contains_eq_mem,decide_eq_false_iff_not]
  intro hm
  obtain⟨q,hq,e⟩:=List.mem_map.mp hm
  obtain⟨o,ho⟩:=S₀.ro.mem hq
  have e1:=(S.N q (hIn q (List.mem_append_left _ hq))).1
  have e2:=(S.N p (List.mem_append_right _ hp)).1
  rw[e,e2] at e1
  exact ho.noTup (Option.some.inj e1 ▸ hc)
theorem XPost.unfresh{m₀:Str->Option Value}{H₂:Hp}{e:Addr}{h₁:Heap}(S₀:St K tb c.w c.h₀ c.L h₁ m₀ M I H)(hd:H₂[d]?=some (.att l))(hf:V.flatIn.flatL (l.map (·.2))=true)(q:XPost K tb c m [] (M++I) k d H₂ e h):XPost K tb c m M I k H.length (H++[.att l]) e h:=by
 obtain⟨C,D,M2,I2,q1,q2,q3,q4,⟨B,b1,b2,b0,b3⟩,q6,q7,q8,q9⟩:=q
 obtain⟨a',ob,g1,g2⟩:=q8.get hd
 have hD:a'=D:=by
  have:=kd g1
  rw[q2] at this
  cases this
  rfl
 subst hD
 have hIn:∀ p∈M++I,p∈I2:=λ p hp=>q9.i p hp
 have hob:(a',ob)∈M2:=List.mem_of_getElem? g1
 have notD:∀ p∈I2,p.1=a'->False:=λ p hp e=>by
  have hm:p.1∈z6 M2:=by rw[e];exact List.mem_map.mpr ⟨_,hob,rfl⟩
  obtain⟨i,l',z1,z2⟩:=q7 p hp hm
  have e1:=kd (a:=p.1) (ob:=p.2) z1
  rw[e] at e1
  obtain⟨l1,y1⟩:=gs_ e1
  obtain⟨l2,y2⟩:=gs_ q2
  have:i=d:=(List.getElem_inj q6).mp (y1.trans y2.symm)
  subst this
  rw[hd] at z2
  cases z2
 have notM:∀ p∈I2,p.2.cls=.type "tuple"->p.1∉z6 M:=λ p hp hc hm=>by
  obtain⟨q,hq,e⟩:=List.mem_map.mp hm
  obtain⟨o,ho⟩:=S₀.ro.mem hq
  have e1:=(b2 q (List.mem_append_right _ (hIn q (List.mem_append_left _ hq)))).1
  have e2:=(b2 p (List.mem_append_right _ hp)).1
  rw[e,e2] at e1
  exact ho.noTup (Option.some.inj e1 ▸ hc)
 refine⟨C,a',M++[(a',ob)],vS M I2 I,q1,?_,q3,q4,⟨B,b1,λ p hp=>b2 p ?_,b0,b3⟩,?_,λ p hp hm=>?_,?_,λ p hp=>List.mem_append_right _ hp,λ _ _ h=>getElem?_map_append_left h⟩
 ·rw[←S₀.ro.length];exact zG
 ·rcases ma_ hp with z | z
  ·rcases ma_ z with z | z
   ·exact List.mem_append_right _ (hIn p (List.mem_append_left _ z))
   ·rw[List.mem_singleton.mp z];exact List.mem_append_left _ hob
  ·rcases ma_ z with z | z
   ·exact List.mem_append_right _ ((List.mem_filter.mp z).1)
   ·exact List.mem_append_right _ (hIn p (List.mem_append_right _ z))
 ·rw[z6,List.map_append,List.nodup_append]
  refine⟨S₀.nd,by simp,λ b hb f hf=>?_⟩
  simp only[List.map_cons,List.map_nil,List.mem_singleton] at hf
  subst hf
  obtain⟨p,hp,e⟩:=List.mem_map.mp hb
  exact λ z=>notD p (hIn p (List.mem_append_left _ hp)) (e.trans z)
 ·rcases ma_ hp with z | z
  ·have hz:=List.mem_filter.mp z
   have:=hz.2
   simp only[Bool.not_eq_true',List.contains_eq_mem,decide_eq_false_iff_not] at this
   rw[z6,List.map_append] at hm
   rcases ma_ hm with y | y
   ·exact absurd y this
   ·simp only[List.map_cons,List.map_nil,List.mem_singleton] at y
    exact(notD p hz.1 y).elim
  ·rw[z6,List.map_append] at hm
   rcases ma_ hm with y | y
   ·obtain⟨i,l',z1,z2⟩:=S₀.ap p z y
    have l1:=(gs_ z1).1
    have l2:=(gs_ z2).1
    exact⟨i,l',by rw[List.getElem?_append_left l1];exact z1,by rw[List.getElem?_append_left l2];exact z2⟩
   ·simp only[List.map_cons,List.map_nil,List.mem_singleton] at y
    exact(notD p (hIn p (List.mem_append_right _ z)) y).elim
 ·have hsub:∀ p∈I2,p.2.cls=.type "tuple"->p∈vS M I2 I:=λ p hp hc=>List.mem_append_left _ (List.mem_filter.mpr ⟨hp,by
   simp only[Bool.not_eq_true',List.contains_eq_mem,decide_eq_false_iff_not]
   exact notM p hp hc⟩)
  refine(S₀.ro.mono (λ p hp=>List.mem_append_right _ hp) λ _ _ h=>getElem?_map_append_left h).append (.cons ?_ .nil)
  cases g2 with
  | att g=>exact .att (AttR.flatSub hsub hf g)
end
theorem ZL{cs:List (Str×α)}{n:Str}{c:α}:(cs.map (·.1)).Nodup->(n,c)∈cs->cs.lookup n=some c:=by
 induction cs with
 | nil=>exact λ _ h=>nomatch h
 | cons p cs ih=>
  obtain⟨n',c'⟩:=p
  intro hnd hm
  have hnd:=List.nodup_cons.mp hnd
  rw[List.lookup_cons]
  rcases mc_ hm with e | hm2
  ·cases e;rw[beq_self_eq_true]
  ·rw[bn_ λ q:n=n'=>hnd.1 (q ▸ List.mem_map.mpr ⟨_,hm2,rfl⟩)]
   exact ih hnd.2 hm2
theorem Xy{ns:List Str}(hn:ns.Nodup)(hl:vs.length=ns.length){n:Str}(h1:ns[i]?=some n)(h2:vs[i]?=some v):(ns.zip vs).reverse.lookup n=some v:=by
 refine ZL ?_ ?_
 ·rw[List.map_reverse,List.map_fst_zip (by omega)]
  exact(List.reverse_perm ns).nodup_iff.mpr hn
 ·rw[List.mem_reverse]
  refine List.mem_of_getElem? (i:=i) ?_
  rw[List.getElem?_zip_eq_some]
  exact⟨h1,h2⟩
structure FnK(K:Frag)(a:Addr)(np:Nat)(fi:Fi)(body:List Stmt):Prop where
 obj:(Ex12 λ oc od osl name qual params kV doc pm an cdv ct=>A7 (K.lookup a=some ⟨oc,od,.func (fnOf name qual params body fi.sc .none kV doc pm an cdv ct),osl⟩) (codeIn K cdv qual=true) (params.posonlyargs=[]) (params.kwonlyargs=[]) (params.vararg=none) (params.kwarg=none) (params.args.map (·.arg)=fi.ns.take np))
 np:np<=fi.ns.length
 nd:fi.ns.Nodup
 loc:∀ x∈fi.ns,fi.sc.names.lookup x=some .local
 co:fi.sc.isCoroutine=false
 gen:fi.sc.isGenerator=false
 fk:fi.sc.kind=.function
 cell:∀ x∈fi.sc.names,x.2≠.cell
section
variable {K:Frag}{tb:Tab}{G:Nat->Option V}{gn:Nat->Option Str}{F:Fn}{W:Nat}{n:Nat}{fi:Fi}
theorem XPost.leave{c':Cx}{A':Around}{s:Shared}{e:Addr}{Q:Unit->Shared->Prop}{E:Value->Shared->Prop}(hw:c'.w=c.w)(hb:c'.base=c.base)(ho:c'.outer=c.env::c.outer)(F0:Fr c.h₀ c.L c'.h₀ m)(hA:A'.frames=some (c'.env::c'.outer))(q:XPost K tb c' m' M I k d H e s.heap)(h:∀ h',XPost K tb c m M I k d H e h'->Q () {s with heap:=h'}):wpAny (model pw c.w) A' (leaving c'.env (.ref e)) Q E s:=by
 obtain⟨C,D,M2,I2,q1,q2,q3,q4,⟨B,b1,b2,b0,b3⟩,q6,q7,q8,q9⟩:=q
 refine z3z hA rfl b3 λ h3 f3 u3=>?_
 have none_of:∀ b,c'.h₀.get? b=none->c.h₀.get? b=none/\b≠c.L:=λ b e=>by
  constructor
  ·cases q:c.h₀.get? b with
   | none=>rfl
   | some o=>have:=F0.keep b o q;rw[e] at this;cases this
  ·intro q
   obtain⟨o,_,_,ho,_⟩:=F0.ns
   rw[q,ho] at e
   cases e
 refine h h3 ⟨C,D,M2,I2,q1,q2,yA F0.ns (q4.trans u3),((Up.of_keeps F0.keep).trans q4).trans u3,⟨B,hb ▸ b1,λ q hq=>⟨(b2 q hq).1,none_of _ (b2 q hq).2.1⟩,(none_of _ b0).1,?_⟩,q6,q7,hw ▸ q8,q9⟩
 rw[←ho]
 exact f3.x
theorem Y8:∀ {xs:List V},V.flatIn.flatL xs=true->∀ {i:Nat} {x:V},xs[i]?=some x->x.flatIn=true
 | [],_,i,x,h=>by simp at h
 | y::r,hf,0,x,h=>by
  simp only[V.flatIn.flatL,Bool.and_eq_true] at hf
  simp only[List.getElem?_cons_zero,Option.some.injEq] at h
  rw[←h];exact hf.1
 | y::r,hf,i+1,x,h=>by
  simp only[V.flatIn.flatL,Bool.and_eq_true] at hf
  simp only[List.getElem?_cons_succ] at h
  exact Y8 hf.2 h
set_option tactic.hygienic true in
theorem KQ{k:Nat}{a:Addr}{f:XFn}(Y:FnK K a f.np fi body)(hb:SSs K tb G F W false n fi f.body body)(hlen:f.names.length=fi.ns.length){s:Shared}(C:Cok K false (n+1) 4 c A)(ht:1<=s.toks)(S:St K tb c.w c.h₀ c.L s.heap m M I H)(hv:RVs K tb I (z6 M) vs xs)(p:Post K tb (zU K tb) c s m M I (if xs.length=f.np then(match f.pure_&&V.flatIn.flatL xs with
    | true=>yB H (evS G F W f.body (xs.map some++List.replicate (f.names.length-f.np) none) [])
    | false=>yt f H (evS G F W f.body (xs.map some++List.replicate (f.names.length-f.np) none) H)) else .bad) Q X) :
  codeAny (model pw c.w) A (.call (.ref a) ⟨vs,[]⟩) (zy Q X) s:=by
 by_cases hx:xs.length=f.np
 case neg=>rw[if_neg hx] at p;exact p.elim
 rw[if_pos hx] at p
 obtain⟨⟨oc,od,osl,name,qual,params,kV,doc,pm,an,cdv,ct,ho,hcd,e1,e2,e3,e4,e5⟩,hnp,hnd,hloc,hco,hgen,hfk,hcell⟩:=Y
 obtain⟨pp,l,mean,mg,mb,T⟩:=C.T
 have hvl:vs.length=(fi.ns.take f.np).length:=by rw[hv.length,hx,List.length_take];omega
 have hndt:(fi.ns.take f.np).Nodup:=hnd.sublist (List.take_sublist ..)
 refine code_def (binds:=(fi.ns.take f.np).zip vs) C.B S.F S.kin S.N T C.hA rfl C.fk ho hcd (by have:=C.dp;omega) ?_ ?_ (λ g L' h₁ FG F' N' B' KG TG=>?_) hco hgen hfk hcell
 ·have hbp:=ki (s:=s) (fd:=fnOf name qual params body fi.sc .none kV doc pm an cdv ct) (vs:=vs) e1 e2 e3 e4 rfl (by show(params.args.map (·.arg)).Nodup;rw[e5];exact hndt) (by show _=(params.args.map (·.arg)).length;rw[e5];exact hvl)
  have e6:((fnOf name qual params body fi.sc .none kV doc pm an cdv ct).params.args.map (·.arg))=fi.ns.take f.np:=e5
  rw[e6] at hbp
  exact hbp
 ·intro y hy
  exact hloc _ (List.mem_of_mem_take (List.of_mem_zip hy).1)
 ·obtain⟨c',hc'⟩:∃ c':Cx,c'=⟨c.w,A,c.base,c.env::c.outer,g,L',qual,fi.sc,a,cdv,[]⟩:=⟨_,rfl⟩
  have henv:envOf qual fi.sc L' a cdv=c'.env:=by subst hc';rfl
  have hw:c'.w=c.w:=by subst hc';rfl
  have hg0:c'.h₀=g:=by subst hc';rfl
  have hL0:c'.L=L':=by subst hc';rfl
  have hA':(A.deeper c'.env).frames=some (c'.env::c'.outer):=by
   have:c'.outer=c.env::c.outer:=by subst hc';rfl
   rw[this]
   exact Around.frames_deeper C.hA
  have C':Cok K false n 8 c' (A.deeper c'.env):=by
   refine⟨by subst hc';exact B',hA',by subst hc';exact C.Tb,by subst hc';exact C.kb,by subst hc';exact hfk,λ h=>C.hh h,?_,?_⟩
   ·have:=C.dp
    show A.depth+1+8*n+8<recursionLimit
    omega
   ·have:=C.un
    show A.units+3+64*n+8*8<cLine
    omega
  have S':St K tb c'.w c'.h₀ c'.L h₁ (λ y=>((fi.ns.take f.np).zip vs).reverse.lookup y) M I H:=by
   rw[hw,hg0,hL0]
   exact⟨F',N',S.nd,S.ap,S.ro,KG,S.tw⟩
  have LL:LR K tb fi.ns (λ y=>((fi.ns.take f.np).zip vs).reverse.lookup y) I (z6 M) (xs.map some++List.replicate (f.names.length-f.np) none):=by
   intro i x hi
   have hi':xs[i]?=some x:=by
    rw[List.getElem?_append] at hi
    split at hi
    ·simpa using hi
    ·rw[List.getElem?_replicate] at hi
     split at hi<;>cases hi
   have hil:i<f.np:=by rw[←hx];exact(gs_ hi').1
   obtain⟨v,h1,h2⟩:=hv.get hi'
   have h3:i<fi.ns.length:=by omega
   have h4:(fi.ns.take f.np)[i]?=some fi.ns[i]:=by rw[List.getElem?_take,if_pos hil,List.getElem?_eq_getElem h3]
   exact⟨fi.ns[i],v,List.getElem?_eq_getElem h3,Xy hndt hvl h4 h1,h2⟩
  rw[henv]
  have hX:∀ k d H',(∀ e h' tk,XPost K tb c m M I k d H' e h'->X (.ref e) {s with heap:=h',toks:=tk})->∀ e h' tk m',XPost K tb c' m' M I k d H' e h'->
    wpAny (model pw c.w) (A.deeper c'.env) (leaving c'.env (.ref e)) (λ _ s''=>zy Q X (.error (.ref e)) s'') (λ e' s''=>zy Q X (.error e') s'') {s with heap:=h',toks:=tk}:=by
   intro k d H' hq e h' tk m' hp
   exact XPost.leave (s:={s with heap:=h',toks:=tk}) (c:=c) (c':=c') hw (by subst hc';rfl) (by subst hc';rfl) (by rw[hg0];exact FG) hA' hp λ h2 q2=>hq e h2 tk q2
  have hR:∀ (av:Value) (v:V) (H3:Hp) (h2:Heap) (tk2:Nat) (m2:Str->Option Value) (M2 I2:Led),Post K tb (zU K tb) c s m M I (.ok v H3) Q X->St K tb c'.w c'.h₀ c'.L h2 m2 M2 I2 H3->Ext M I M2 I2->RV K tb I2 (z6 M2) av v->
    LeaveK c.h₀ c.L m g (zy Q X) av {s with heap:=h2,toks:=tk2}:=by
   intro av v H3 h2 tk2 m2 M2 I2 q S3 x3 z3
   rw[hg0,hL0,hw] at S3
   exact leaveK_ (s':={s with heap:=h2,toks:=tk2}) S3.F S3.N λ F2 N2=>q av h2 tk2 M2 I2 ⟨F2,N2,S3.nd,S3.ap,S3.ro,S.kin,S.tw⟩ x3 z3
  cases hfl:f.pure_&&V.flatIn.flatL xs with
  | false=>
   rw[hfl] at p
   dsimp only at p
   have key:=hb c' (A.deeper c'.env) {s with heap:=h₁,toks:=s.toks+((fi.ns.take f.np).zip vs).length} _ M I _ H
    (λ fl s'=>LeaveK c.h₀ c.L m g (zy Q X) (match fl with | .ret v=>v | _=>.none) s')
    (λ e s'=>wpAny (model pw c.w) (A.deeper c'.env) (leaving c'.env e) (λ _ s''=>zy Q X (.error e) s'') (λ e' s''=>zy Q X (.error e') s'') s')
    C' (by subst hc';rfl) (by show 1<=s.toks+_;omega) S' LL ?_
   ·rw[hw] at key
    exact key
   ·cases hev:evS G F W f.body (xs.map some++List.replicate (f.names.length-f.np) none) H with
    | next L2 H2=>
     rw[hev] at p
     intro h2 tk2 m2 M2 I2 S2 x2 l2
     simp only[yt] at p
     split at p
     ·split at p
      ·rename_i hpf
       obtain⟨J,rfl⟩:=wi hpf
       obtain⟨S3,x3⟩:=St.cut S S2 x2
       exact hR .none .none H h2 tk2 m2 _ I2 p S3 x3 .none
      ·exact p.elim
     ·exact hR .none .none H2 h2 tk2 m2 M2 I2 p S2 x2 .none
    | cont L2 H2=>rw[hev] at p;exact p.elim
    | ret v H2=>
     rw[hev] at p
     intro av h2 tk2 m2 M2 I2 S2 x2 z2
     simp only[yt] at p
     split at p
     ·split at p
      ·rename_i hpf
       rw[Bool.and_eq_true] at hpf
       obtain⟨J,rfl⟩:=wi hpf.1
       obtain⟨S3,x3⟩:=St.cut S S2 x2
       exact hR av v H h2 tk2 m2 _ I2 p S3 x3 (RV.flat hpf.2 z2)
      ·exact p.elim
     ·exact hR av v H2 h2 tk2 m2 M2 I2 p S2 x2 z2
    | exc k d H2=>
     rw[hev] at p
     exact hX k d H2 p
    | bad=>rw[hev] at p;exact p.elim
  | true=>
   rw[hfl] at p
   dsimp only at p
   rw[Bool.and_eq_true] at hfl
   have S1:=S'.fresh
   have LL1:LR K tb fi.ns (λ y=>((fi.ns.take f.np).zip vs).reverse.lookup y) (M++I) (z6 []) (xs.map some++List.replicate (f.names.length-f.np) none):=by
    intro i x hi
    obtain⟨nm,u,h1,h2,h3⟩:=LL i x hi
    have hx1:x.flatIn=true:=by
     have hi':xs[i]?=some x:=by
      rw[List.getElem?_append] at hi
      split at hi
      ·simpa using hi
      ·rw[List.getElem?_replicate] at hi
       split at hi<;>cases hi
     exact Y8 hfl.2 hi'
    exact⟨nm,u,h1,h2,RV.flatSub (λ p hp _=>List.mem_append_right _ hp) hx1 h3⟩
   have key:=hb c' (A.deeper c'.env) {s with heap:=h₁,toks:=s.toks+((fi.ns.take f.np).zip vs).length} _ [] (M++I) _ []
    (λ fl s'=>LeaveK c.h₀ c.L m g (zy Q X) (match fl with | .ret v=>v | _=>.none) s')
    (λ e s'=>wpAny (model pw c.w) (A.deeper c'.env) (leaving c'.env e) (λ _ s''=>zy Q X (.error e) s'') (λ e' s''=>zy Q X (.error e') s'') s')
    C' (by subst hc';rfl) (by show 1<=s.toks+_;omega) S1 LL1 ?_
   ·rw[hw] at key
    exact key
   ·cases hev:evS G F W f.body (xs.map some++List.replicate (f.names.length-f.np) none) [] with
    | next L2 H2=>
     rw[hev] at p
     intro h2 tk2 m2 M2 I2 S2 x2 l2
     obtain⟨S3,x3,_⟩:=St.unfresh S' S2 x2
     exact hR .none .none H h2 tk2 m2 _ _ p S3 x3 .none
    | cont L2 H2=>rw[hev] at p;exact p.elim
    | ret v H2=>
     rw[hev] at p
     intro av h2 tk2 m2 M2 I2 S2 x2 z2
     simp only[yB] at p
     split at p
     ·rename_i hvf
      obtain⟨S3,x3,hs3⟩:=St.unfresh S' S2 x2
      exact hR av v H h2 tk2 m2 _ _ p S3 x3 (RV.flatSub hs3 hvf z2)
     ·exact p.elim
    | exc k d H2=>
     rw[hev] at p
     simp only[yB] at p
     split at p
     ·rename_i l hl
      split at p
      ·rename_i hlf
       intro e h2 tk2 m2 hq
       exact hX k H.length _ p e h2 tk2 m2 (hq.unfresh S' hl hlf)
      ·exact p.elim
     ·exact p.elim
    | bad=>rw[hev] at p;exact p.elim
end
section
variable {w:World}{A A₀:Around}{s:Shared}{K:Frag}{x C L:Addr}{h₀ base:Heap}{outer:List Env}{m:Str->Option Value}{R:Result->Shared->Prop}
theorem Xe{o:Expr}{name:Str}{apos:Pos}{args:List Expr}{env:Env}{E:Value->Shared->Prop}(hbase:attributeBase o name env (eval o env)=eval o env)(hfew:((backTo pos (starEach args env)).all (λ x=>!x.1)&&(backToKw pos (keywordEach [] env)).all (λ x=>x.1.isSome)
   &&decide (args.length+([]:List Keyword).length+(if ([]:List Keyword).isEmpty then 0 else 1)<30))=true)(hline:(apos.endLine==pos.line)=true)(h:wpAny (model pw w) A (eval o env) (λ ov s₁=>∀ pl,wpAny (model pw w) A (getMethod ov name pl) (λ p s₂=>wpAny (model pw w) A (callWith pos p.1 p.2 (backTo pos (starEach args env)) []) Q E s₂) E s₁) E s) :
  wpAny (model pw w) A (eval (.Call (.Attribute o name apos) args [] pos) env) Q E s:=by
 rw[arm_eval_Call,hbase]
 refine wpAny_bind (wpAny_mono h (λ ov s₁ h₁=>?_) λ _ _ e=>e)
 refine wpAny_bind (wpAny_standAt ?_)
 have hform:methodCallForm (args.length+([]:List Keyword).length) (backTo pos (starEach args env)) (backToKw pos (keywordEach [] env))=true:=hfew
 have hpos:methodCallPos true o env apos pos=pure pos:=by unfold methodCallPos;simp [hline]
 unfold methodCall
 rw[hform]
 refine wpAny_bind (wpAny_holding (wpAny_mono (h₁ _) (λ p s₂ z=>?_) λ _ _ e=>e))
 exact wpAny_bind (wpAny_of_eq hpos z)
theorem z1g{cn:Str}{cs:Scope}{a:Addr}{ccd:Value}{x y:Str}{u:Value}{Q:List Value->Shared->Prop}{E:Value->Shared->Prop}(F:Fr h₀ L s.heap m)(hx:m x=some u)(hy:m y=some v)(hk:cs.kind=.function)(hlx:cs.names.lookup x=some .local)(hly:cs.names.lookup y=some .local)(hdx:(x==("__debug__":Str))=false)(hdy:(y==("__debug__":Str))=false)(q:Q [u,v] s):wpAny (model pw w) A (spliced (backTo pos (starEach [.Name x p1,.Name y p2] (envOf cn cs L a ccd)))) Q E s:=by
 show wpAny _ _ (spliced ((false,eval (.Name x p1) (envOf cn cs L a ccd))::(false,eval (.Name y p2) (envOf cn cs L a ccd))::[])) _ _ _
 refine Calls.spliced_cons (ld F hx ?_ hk hlx hdx)
 refine Calls.spliced_cons (ld F hy ?_ hk hly hdy)
 exact Calls.spliced_nil q
theorem Kv{ns:List Str}{name qual:Str}{params:Arguments}{sc:Scope}{kV doc pm cdv ct:Value}{an:Option Addr}(e1:params.posonlyargs=[])(e2:params.kwonlyargs=[])(e3:params.vararg=none)(e4:params.kwarg=none)(e5:params.args.map (·.arg)=ns)(hn:ns.Nodup)(hl:vs.length=ns.length) :
  BindsTo s (fnOf name qual params body sc .none kV doc pm an cdv ct) ⟨vs,[]⟩ (ns.zip vs):=by
 subst e5
 exact ki (fd:=fnOf name qual params body sc .none kV doc pm an cdv ct) e1 e2 e3 e4 rfl hn hl
structure F77K(K:Frag)(a:Addr)(fi:Fi)(body:List Stmt):Prop where
 fn:FnK K a 2 fi body
 ns:fi.ns=(["self","text"]:List Str)
 body:(Ex10 λ p1 p2 p3 p4 p5 p6 p7 p8 p9 p10=>body=[.Expr (.Call (.Attribute (.Name "Exception" p1) "__init__" p2) [.Name "self" p3,.Name "text" p4] [] p5) p6,.Assign [.Attribute (.Name "self" p7) "text" p8] (.Name "text" p9) p10]/\(p2.endLine==p5.line)=true)
 ex:fi.sc.names.lookup ("Exception":Str)=some .globalImplicit
 bi:nsIn K mainGlobals ("Exception":Str)=some none
theorem WL{af:Addr}{fi:Fi}{pp:Program}{l:List Str}{mean:ExcName->Option Value}{env:Env}{t0:Addr}{tv:Value}(Y:F77K K af fi body)(YC:ExcK K C)(hn:findIn K (.ref C) (z0 txt)=some none)(B:Below A₀ base outer h₀)(F:Fr h₀ L s.heap m)(X₀:K.In h₀)(N:News h₀ L s.heap ((x,({cls:=.ref C,data:=.fields (vG t0)}:Obj))::rest))(hr:∀ p∈rest,p.1≠x)(T:Top pp l mean mg mb h₀)(hA:A.frames=some (env::outer))(hf:env.frame=some L)(hke:env.scope.kind=.function)(hd:A.depth<recursionLimit)(q:∀ h' tk D T' hs kt,Fr h₀ L h' m->News h₀ L h' ((x,({cls:=.ref C,dict:=some D,data:=.fields (vG T')}:Obj))::(D,dictOf [⟨hs,.str (z0 txt) kt,tv⟩] 1)::rest)->(∀ p∈rest,p.1≠D)->x≠D->R (.ok (.ret .none)) {s with heap:=h',toks:=tk}) :
  codeAny (model pw w) A (.call (.ref af) ⟨[.ref x,tv],[]⟩) R s:=by
 obtain⟨⟨⟨oc,od,osl,name,qual,params,kV,doc,pm,an,cdv,ct,ho,hcd,e1,e2,e3,e4,e5⟩,hnp,hnd,hloc,hco,hgen,hfk,hcell⟩,hns,⟨p1,p2,p3,p4,p5,p6,p7,p8,p9,p10,hbody,hline⟩,hex,hbi⟩:=Y
 subst hbody
 have htake:fi.ns.take 2=(["self","text"]:List Str):=by rw[hns];rfl
 rw[htake] at e5
 refine code_def (binds:=(["self","text"]:List Str).zip [.ref x,tv]) B F X₀ N T hA hf hke ho hcd hd ?_ ?_ (λ g L' h₁ FG F' N' B' KG TG=>?_) hco hgen hfk hcell
 ·exact Kv e1 e2 e3 e4 e5 (by decide) rfl
 ·intro y hy
  exact hloc _ (by rw[hns];exact(List.of_mem_zip hy).1)
 ·have hls:fi.sc.names.lookup ("self":Str)=some .local:=hloc _ (by rw[hns];decide)
  have hlt:fi.sc.names.lookup ("text":Str)=some .local:=hloc _ (by rw[hns];decide)
  have ms:((["self","text"]:List Str).zip [.ref x,tv]).reverse.lookup ("self":Str)=some (.ref x):=by rfl
  have mt:((["self","text"]:List Str).zip [.ref x,tv]).reverse.lookup ("text":Str)=some tv:=by rfl
  refine wpAny_execs_cons (wpAny_Expr ?_ ?_ (y5 rfl))
  ·refine Xe (zY (by intros;simp)) rfl hline ?_
   refine name_B F' KG (topRead_of TG) hbi (show bootBuiltins ("Exception":Str)=some (.type "Exception") by rfl) (by decide) ?_ hfk hex (by decide)
   intro pl
   refine methT (KG.keeps F'.keep) λ tk=>?_
   refine yi (by rfl) ?_
   refine z1g F' ms mt hfk hls hlt (by decide) (by decide) ?_
   refine z14 KG YC F' N' hr λ h2 tk2 T2 F2 N2=>?_
   refine wpAny_execs_cons ?_
   refine plainObj_wpAny_Assign_Attribute (ld F2 mt ?_ hfk hlt (by decide)) (y5 rfl)
   refine ld F2 ms ?_ hfk hls (by decide)
   refine setE1 KG YC F2 N2 hr hn λ h3 tk3 D hs kt F3 N3 hD hxD=>?_
   refine wpAny_execs_nil ?_
   exact leaveK_ F3 N3 λ F4 N4=>q h3 tk3 D T2 hs kt F4 N4 hD hxD
  ·show(fi.sc.kind==_&&_)=false
   rw[hfk];rfl
end
section
variable {w:World}{A A₀:Around}{s:Shared}{K:Frag}{x C L:Addr}{h₀ base:Heap}{outer:List Env}{m:Str->Option Value}{R:Result->Shared->Prop}
structure SubK(K:Frag)(C0 af0 a:Addr)(fi:Fi)(body:List Stmt)(nm:List Nat):Prop where
 fn:FnK K a 3 fi body
 ns:fi.ns=(["self",z0 nm,"text"]:List Str)
 body:(Ex10 λ p1 p2 p3 p4 p5 p6 p7 p8 p9 p10=>body=[.Expr (.Call (.Attribute (.Name "F77Error" p1) "__init__" p2) [.Name "self" p3,.Name "text" p4] [] p5) p6,.Assign [.Attribute (.Name "self" p7) (z0 nm) p8] (.Name (z0 nm) p9) p10]/\(p2.endLine==p5.line)=true)
 ex:fi.sc.names.lookup ("F77Error":Str)=some .globalImplicit
 gl:nsIn K mainGlobals ("F77Error":Str)=some (some (.ref C0))
 sp:specialIn K (.ref C0) "__getattribute__"=some (some (.builtin "type.__getattribute__"))
 rd:readsIn K C0 (.type "type")=true
 fc:findCls K (.ref C0) (.type "type") ("__init__":Str)=some (.val (.ref af0))
 hi:handedIn (.ref af0)=true
 kp:keepIn K (.ref af0)=true
 nms:(z0 nm==("self":Str))=false/\(z0 nm==("text":Str))=false/\(z0 nm==("__debug__":Str))=false
theorem getL1{hs:Int}{kt:Tok}(h:(z0 nm==("text":Str))=false):(getL (z0 nm) [⟨hs,.str (z0 txt) kt,v⟩]).isSome=true:=by
 have e:(("text":Str)==z0 nm)=false:=by
  rw[beq_eq_false_iff_ne] at h ⊢
  exact Ne.symm h
 have e2:(Value.str (z0 txt) kt).isStr (z0 nm)=false:=e
 simp only[getL,List.find?,e2,List.any,DictEntry.refKey]
 rfl
theorem putL1{hs hs2:Int}{kt:Tok}{u k2:Value}(h:(z0 nm==("text":Str))=false):putL (z0 nm) hs2 k2 u [⟨hs,.str (z0 txt) kt,v⟩]=[⟨hs,.str (z0 txt) kt,v⟩,⟨hs2,k2,u⟩]/\putN (z0 nm) [⟨hs,.str (z0 txt) kt,v⟩] 1=2:=by
 have e:(("text":Str)==z0 nm)=false:=by
  rw[beq_eq_false_iff_ne] at h ⊢
  exact Ne.symm h
 have e2:(Value.str (z0 txt) kt).isStr (z0 nm)=false:=e
 constructor
 ·simp only[putL,e2,Bool.false_eq_true,if_false]
 ·simp only[putN,List.any,e2]
  rfl
theorem Ws{C0 af0 af:Addr}{fi fi0:Fi}{body0:List Stmt}{pp:Program}{l:List Str}{mean:ExcName->Option Value}{env:Env}{t0:Addr}{tv lv:Value}(Y0:F77K K af0 fi0 body0)(Y:SubK K C0 af0 af fi body nm)(YC:ExcK K C)(hn:findIn K (.ref C) (z0 txt)=some none)(hn2:findIn K (.ref C) (z0 nm)=some none)(B:Below A₀ base outer h₀)(F:Fr h₀ L s.heap m)(X₀:K.In h₀)(N:News h₀ L s.heap ((x,({cls:=.ref C,data:=.fields (vG t0)}:Obj))::rest))(hr:∀ p∈rest,p.1≠x)(T:Top pp l mean mg mb h₀)(hA:A.frames=some (env::outer))(hf:env.frame=some L)(hke:env.scope.kind=.function)(hd:A.depth+1<recursionLimit)(q:∀ h' tk D T' hs kt hs2 k2,Fr h₀ L h' m->News h₀ L h' ((x,({cls:=.ref C,dict:=some D,data:=.fields (vG T')}:Obj))::(D,dictOf [⟨hs,.str (z0 txt) kt,tv⟩,⟨hs2,.str (z0 nm) k2,lv⟩] 2)::rest)->(∀ p∈rest,p.1≠D)->x≠D->R (.ok (.ret .none)) {s with heap:=h',toks:=tk}) :
  codeAny (model pw w) A (.call (.ref af) ⟨[.ref x,lv,tv],[]⟩) R s:=by
 obtain⟨⟨⟨oc,od,osl,name,qual,params,kV,doc,pm,an,cdv,ct,ho,hcd,e1,e2,e3,e4,e5⟩,hnp,hnd,hloc,hco,hgen,hfk,hcell⟩,hns,⟨p1,p2,p3,p4,p5,p6,p7,p8,p9,p10,hbody,hline⟩,hex,hgl,hsp,hrd,hfc,hhi,hkp,hnm1,hnm2,hnm3⟩:=Y
 subst hbody
 have htake:fi.ns.take 3=(["self",z0 nm,"text"]:List Str):=by rw[hns];rfl
 rw[htake] at e5
 rw[hns] at hnd
 refine code_def (binds:=(["self",z0 nm,"text"]:List Str).zip [.ref x,lv,tv]) B F X₀ N T hA hf hke ho hcd (by omega) (Kv e1 e2 e3 e4 e5 hnd rfl) ?_ (λ g L' h₁ FG F' N' B' KG TG=>?_) hco hgen hfk hcell
 ·intro y hy
  exact hloc _ (by rw[hns];exact(List.of_mem_zip hy).1)
 ·have hls:fi.sc.names.lookup ("self":Str)=some .local:=hloc _ (by rw[hns];simp)
  have hlt:fi.sc.names.lookup ("text":Str)=some .local:=hloc _ (by rw[hns];simp)
  have hll:fi.sc.names.lookup (z0 nm)=some .local:=hloc _ (by rw[hns];simp)
  have hz:∀ (i:Nat) (n:Str) (v:Value),(["self",z0 nm,"text"]:List Str)[i]?=some n->([.ref x,lv,tv]:List Value)[i]?=some v->((["self",z0 nm,"text"]:List Str).zip [.ref x,lv,tv]).reverse.lookup n=some v:=λ i n v a b=>Xy hnd rfl a b
  have ms:=hz 0 _ _ rfl rfl
  have ml:=hz 1 _ _ rfl rfl
  have mt:=hz 2 _ _ rfl rfl
  have hA':(A.deeper (envOf qual fi.sc L' af cdv)).frames=some (envOf qual fi.sc L' af cdv::env::outer):=Around.frames_deeper hA
  refine wpAny_execs_cons (wpAny_Expr ?_ ?_ (y5 rfl))
  ·refine Xe (zY (by intros;simp)) rfl hline ?_
   refine name_K F' KG (topRead_of TG) hgl ?_ hfk hex (by decide)
   intro pl
   refine method_cls (KG.keeps F'.keep) hsp (cls_value (KG.keeps F'.keep) hrd hfc hhi ?_)
   refine jZ hkp (by rfl) ?_
   refine z1g F' ms mt hfk hls hlt (by decide) (by decide) ?_
   refine⟨KG.keeps F'.keep,wpAny_call ?_⟩
   refine WL Y0 YC hn B' F' KG N' hr TG hA' rfl hfk (by show A.depth+1<_;exact hd) λ h2 tk2 D T2 hs kt F2 N2 hD hxD=>?_
   show wpAny _ _ (execs _ _) _ _ _
   refine wpAny_execs_cons ?_
   refine plainObj_wpAny_Assign_Attribute (ld F2 ml ?_ hfk hll hnm3) (y5 rfl)
   refine ld F2 ms ?_ hfk hls (by decide)
   refine setE2 KG YC F2 N2 hxD hD hn2 (getL1 hnm2) (by simp) λ h3 tk3 hs2 k2 F3 N3=>?_
   obtain⟨g1,g2⟩:=putL1 (nm:=nm) (hs:=hs) (hs2:=hs2) (kt:=kt) (v:=tv) (u:=lv) (k2:=.str (z0 nm) k2) hnm2
   rw[g1,g2] at N3
   refine wpAny_execs_nil ?_
   exact leaveK_ F3 N3 λ F4 N4=>q h3 tk3 D T2 hs kt hs2 k2 F4 N4 hD hxD
  ·show(fi.sc.kind==_&&_)=false
   rw[hfk];rfl
end
section
variable {M:Model}{A:Around}{E:Value->Shared->Prop}{env:Env}
variable {nm q:Str}{C N:Addr}{bs bm:List Value}{hdct:Bool}{sn:List Str}{sub:List Value}{ab:Bool}{col:Option Bool}{dd:Option Addr}{k0 k1 k2 k3 k5:Option Value}{newId:String}
theorem jK{s:Shared}{x:Sem Value}{Q:Flow->Shared->Prop}(hbase:bm.contains (.type "BaseException")=true)(h:wpAny M A x (λ v s₁=>(Ex3 λ e t dct=>A4 (v=.ref e) (s₁.heap.get? C=some (excClassObj nm q C N bs bm hdct sn sub ab col dd k0 k1 k2 k3 k5 newId)) (s₁.heap.get? e=some {cls:=.ref C,dict:=dct,data:=.fields (vG t)}) (wpAny M A (raiseNew (.ref e):Sem Flow) Q E s₁))) E s) :
  wpAny M A (raiseStmt env (some x) none) Q E s:=by
 have hcB:(Value.ref C::bm).contains (.type "BaseException")=true:=by rw[List.contains_cons,hbase,Bool.or_true]
 unfold raiseStmt
 refine wpAny_bind (wpAny_mono h (λ v s₁ h₁=>?_) λ _ _ x=>x)
 obtain⟨e,t,dct,rfl,hC,he,hE⟩:=h₁
 obtain⟨hp,g,d,tk,os⟩:=s₁
 repeat (first | with_reducible refine wpAny_loadPart_at he ?_ | with_reducible refine wpAny_loadPart_at hC ?_ | (with_reducible refine wpAny_isSubtype_exc hC ?_;rewrite [hcB]) | wp_step)
 exact hE
end
theorem qW{base:Heap}{as:List Addr}{l:List Env}(H:h.FunFrames base l)(hin:∀ env∈l,∀ a,env.frame=some a->a∈as):h.FunFrames (hideAll h as) l:=by
 induction l with
 | nil=>trivial
 | cons env r ih=>
  obtain⟨hk,⟨L,o,hf,_,ho,hd⟩,hr⟩:=H
  exact⟨hk,⟨L,o,hf,hideAll_none _ (hin env (.head _) L hf),ho,hd⟩,ih hr λ e he=>hin e (.tail _ he)⟩
section
variable {K:Frag}{tb:Tab}{hd:Bool}{n kk:Nat}
theorem mkX{e:Addr}{oe:Obj}{vs:Array Value}(hC:Cok K hd n kk c A)(S:St K tb c.w c.h₀ c.L h' m M' I' H')(Ne:h'.get? e=some oe/\e≠c.L/\c.h₀.get? e=none)(hne:∀ p∈M'++I',p.1≠e)(h1:oe.cls=.ref C)(h2:oe.dict=some D)(h3:oe.data=.fields vs)(h4:2<vs.size)(h5:vs[1]?=some .none)(h6:CtxOk C vs)(h7:tb.x k=some C)(h8:(z6 M')[d]?=some D)(x:Ext M I M' I') :
  XPost K tb c m M I k d H' e h':=by
 obtain⟨n1,n2,n3⟩:=Ne
 have fr:∀ env∈c.env::c.outer,∀ a,env.frame=some a->a=c.L\/∃ o,c.h₀.get? a=some o:=λ env he a ha=>by
  rcases mc_ he with rfl | he
  ·exact .inl (Option.some.inj ha).symm
  ·obtain⟨L1,o1,q1,q2⟩:=funFrames_in hC.B.frames env he
   rw[ha] at q1
   cases q1
   exact .inr ⟨o1,q2⟩
 let fs:=(c.env::c.outer).filterMap (·.frame)
 have nof:∀ a,a≠c.L->c.h₀.get? a=none->a∉fs:=λ a ha hn hm=>by
  obtain⟨env,he,hf⟩:=List.mem_filterMap.mp hm
  rcases fr env he a hf with q | ⟨o,q⟩
  ·exact ha q
  ·rw[hn] at q;cases q
 have K':h'.FunFrames c.base (c.env::c.outer):=by
  have hk:c.env.scope.kind=.function:=hC.fk
  have hnew:c.base.get? c.L=none:=by
   cases hq:c.base.get? c.L with
   | none=>rfl
   | some o=>exact absurd (Nat.lt_of_lt_of_le (Heap.lt_size (hC.B.stays c.L o hq)) S.F.above) (Nat.lt_irrefl _)
  exact .cons (by rw[hk];decide) rfl S.F.ns hnew (hC.B.frames.of_keeps λ b o e _=>⟨o,S.F.keep b o e,rfl⟩)
 have bn:∀ b o,c.base.get? b=some o->b∉e::fs:=λ b o q hm=>by
  rcases mc_ hm with rfl | hm
  ·have:=hC.B.stays _ _ q
   rw[n3] at this;cases this
  ·obtain⟨env,he,hf⟩:=List.mem_filterMap.mp hm
   have:=(K'.mem (List.mem_filterMap.mpr ⟨env,he,hf⟩)).1
   rw[q] at this;cases this
 refine⟨C,D,M',I',h7,h8,S.F.ns,Up.of_keeps S.F.keep,⟨hideAll h' (e::fs),?_,?_,n3,?_⟩,S.nd,S.ap,S.ro,x⟩
 ·exact λ b o q=>hideAll_get _ (S.F.keep b o (hC.B.stays b o q)) (bn b o q)
 ·intro q hq
  refine⟨hideAll_get _ (S.N q hq).1 λ hm=>?_,(S.N q hq).2.2,(S.N q hq).2.1⟩
  rcases mc_ hm with z | hm
  ·exact hne q hq z
  ·exact nof _ (S.N q hq).2.1 (S.N q hq).2.2 hm
 ·refine⟨λ b o q=>of_hideAll _ q,hideAll_none _ (.head _),qW K' λ env he a ha=>.tail _ (List.mem_filterMap.mpr ⟨env,he,ha⟩),oe,vs,n1,h1,h2,h3,h4,h6,.inl h5⟩
end
noncomputable def Zt(K:Frag)(tb:Tab)(C fI:Addr)(k:Nat):Prop:=∀ {w:World} {A A₀:Around} {s:Shared} {x L:Addr} {h₀ base:Heap} {outer:List Env} {m:Str->Option Value} {R:Result->Shared->Prop} {pp:Program} {l:List Str} {mean:ExcName->Option Value} {mg mb:Str->Option Value} {env:Env} {t0:Addr} {rest:List (Addr×Obj)} {vs:List Value} {xs:List V} {al:List (List Nat×V)} {I:Led} {μ:List Addr},
  Below A₀ base outer h₀->Fr h₀ L s.heap m->K.In h₀->News h₀ L s.heap ((x,({cls:=.ref C,data:=.fields (vG t0)}:Obj))::rest)->(∀ p∈rest,p.1≠x)->Top pp l mean mg mb h₀->A.frames=some (env::outer)->env.frame=some L->env.scope.kind=.function->A.depth+1<recursionLimit->
  RVs K tb I μ vs xs->zJ k xs=some al->
  (∀ h' tk D T' es n,Fr h₀ L h' m->News h₀ L h' ((x,({cls:=.ref C,dict:=some D,data:=.fields (vG T')}:Obj))::(D,dictOf es n)::rest)->(∀ p∈rest,p.1≠D)->x≠D->AttR K tb I μ es al->R (.ok (.ret .none)) {s with heap:=h',toks:=tk})->
  codeAny (model pw w) A (.call (.ref fI) ⟨.ref x::vs,[]⟩) R s
theorem z0Y{K:Frag}{tb:Tab}{af:Addr}{fi:Fi}(Y:F77K K af fi body)(YC:ExcK K C)(hn:findIn K (.ref C) (z0 txt)=some none):Zt K tb C af 3:=by
 intro w A A₀ s x L h₀ base outer m R pp l mean mg mb env t0 rest vs xs al I μ B F X₀ N hr T hA hf hke hd hv ha q
 obtain⟨t,e,e'⟩:=Wc ha
 subst e e'
 refine RVs.eCons hv λ a b=>?_
 refine RVs.eNil b ?_
 exact WL Y YC hn B F X₀ N hr T hA hf hke (by omega) λ h' tk D T' hs kt F' N' hD hxD=>q h' tk D T' _ 1 F' N' hD hxD (.cons rfl a .nil)
theorem z0G{K:Frag}{tb:Tab}{C0 af0 af:Addr}{fi0 fi:Fi}{body0:List Stmt}(Y0:F77K K af0 fi0 body0)(Y:SubK K C0 af0 af fi body @"line")(YC:ExcK K C)(hn:findIn K (.ref C) (z0 txt)=some none)(hn2:findIn K (.ref C) (z0 @"line")=some none):Zt K tb C af 1:=by
 intro w A A₀ s x L h₀ base outer m R pp l mean mg mb env t0 rest vs xs al I μ B F X₀ N hr T hA hf hke hd hv ha q
 obtain⟨i,t,e,e'⟩:=Y4 ha
 subst e e'
 refine RVs.eCons hv λ a b=>?_
 refine RVs.eCons b λ b d=>?_
 refine RVs.eNil d ?_
 exact Ws Y0 Y YC hn hn2 B F X₀ N hr T hA hf hke hd λ h' tk D T' hs kt hs2 k2 F' N' hD hxD=>q h' tk D T' _ 2 F' N' hD hxD (.cons rfl b (.cons rfl a .nil))
theorem z0B{K:Frag}{tb:Tab}{C0 af0 af:Addr}{fi0 fi:Fi}{body0:List Stmt}(Y0:F77K K af0 fi0 body0)(Y:SubK K C0 af0 af fi body @"at")(YC:ExcK K C)(hn:findIn K (.ref C) (z0 txt)=some none)(hn2:findIn K (.ref C) (z0 @"at")=some none):Zt K tb C af 2:=by
 intro w A A₀ s x L h₀ base outer m R pp l mean mg mb env t0 rest vs xs al I μ B F X₀ N hr T hA hf hke hd hv ha q
 obtain⟨i,t,e,e'⟩:=Y4 ha
 subst e e'
 refine RVs.eCons hv λ a b=>?_
 refine RVs.eCons b λ b d=>?_
 refine RVs.eNil d ?_
 exact Ws Y0 Y YC hn hn2 B F X₀ N hr T hA hf hke hd λ h' tk D T' hs kt hs2 k2 F' N' hD hxD=>q h' tk D T' _ 2 F' N' hD hxD (.cons rfl b (.cons rfl a .nil))
structure RaiK(K:Frag)(tb:Tab)(k:Nat)(C:Addr)(nm:Str):Prop where
 x:tb.x k=some C
 ex:ExcK K C
 gl:nsIn K mainGlobals nm=some (some (.ref C))
 db:(nm==("__debug__":Str))=false
 ini:∃ fI,findIn K (.ref C) "__init__"=some (some (.ref fI))/\typeIn K (.ref fI)=some (.type "function")/\Zt K tb C fI k
section
variable {K:Frag}{tb:Tab}{G:Nat->Option V}{gn:Nat->Option Str}{F:Fn}{W:Nat}{hd:Bool}{n:Nat}{fi:Fi}
theorem WS{Ca:Addr}{nm:Str}(Y:RaiK K tb k Ca nm){s:Shared}(C:Cok K hd n 8 c A)(S:St K tb c.w c.h₀ c.L s.heap m M I H)(hv:RVs K tb I (z6 M) vs xs)(ha:zJ k xs=some al)(q:∀ e h' tk D T' es n',St K tb c.w c.h₀ c.L h' m (M++[(D,dictOf es n')]) I (H++[.att al])->Ext M I (M++[(D,dictOf es n')]) I->h'.get? e=some {cls:=.ref Ca,dict:=some D,data:=.fields (vG T')}->e≠c.L->c.h₀.get? e=none->(∀ p∈(M++[(D,dictOf es n')])++I,p.1≠e)->(s.heap.get? e=none)->Q (.ref e) {s with heap:=h',toks:=tk}) :
  wpAny (model pw c.w) A (call (.ref Ca) vs) Q X s:=by
 obtain⟨pp,l,mean,mg,mb,T⟩:=C.T
 obtain⟨fI,hfi,hft,hok⟩:=Y.ini
 obtain⟨nm',qq,NN,bs,bm,hdct,sn,sub,col,dd,k0,k1,k2,k3,k5,hK,hdt,hY,hrf⟩:=Y.ex.obj
 have XK:=S.kin.keeps S.F.keep
 obtain⟨h,g,d,t,os⟩:=s
 have hlt:∀ p∈M++I,p.1<h.objs.size:=λ p hp=>Heap.lt_size (S.N p hp).1
 have hlen:vs.length<=sizeLine:=by rw[hv.length,sizeLine_eq];have:=Vj ha;omega
 refine wpAny_call (z0D hY (XK _ _ hK) rfl (looks_findIn XK hfi) (λ self=>bind_fn XK self hft) (looks_specialIn XK Y.ex.call) (looks_instIn XK Y.ex.typ) hlen ?_)
 have F1:=S.F.push (jY vs)
 have F2:=F1.push (Xs Ca h.objs.size)
 have N1:News c.h₀ c.L (h.push (jY vs)) (M++I):=News.pushKeep S.N _
 have N2:=N1.push F1 (Xs Ca h.objs.size)
 rw[Heap.size_push] at N2
 have C':=C.under ⟨.ref Ca::vs,[]⟩
 refine hok (t0:=h.objs.size) C.B F2 S.kin N2 (λ p hp=>?_) T C'.hA rfl C.fk (by have:=C'.dp;omega) hv ha λ h' tk D T' es n' F' N' hD hxD hes=>?_
 ·exact Nat.ne_of_lt (Nat.lt_succ_of_lt (hlt p hp))
 refine⟨rfl,?_⟩
 have xe:Ext M I (M++[(D,dictOf es n')]) I:=⟨λ _ h=>h,λ _ _ h=>getElem?_map_append_left h⟩
 obtain⟨S2,e2⟩:=St.newM (s:=⟨h,g,d,t,os⟩) (ob:=dictOf es n') (o:=.att al) S hD F' (λ p hp=>by
  rcases mc_ hp with rfl | hp
  ·exact N' _ (.tail _ (.head _))
  ·exact N' _ (.tail _ (.tail _ hp))) (.att (hes.mono xe.i xe.m))
 have hE:=N' _ (.head _)
 refine q _ h' tk D T' es n' S2 e2 hE.1 hE.2.1 hE.2.2 (λ p hp=>?_) ?_
 ·rcases ma_ hp with z | z
  ·rcases ma_ z with z | z
   ·exact Nat.ne_of_lt (Nat.lt_succ_of_lt (hlt p (List.mem_append_left _ z)))
   ·rw[List.mem_singleton.mp z];exact hxD.symm
  ·exact Nat.ne_of_lt (Nat.lt_succ_of_lt (hlt p (List.mem_append_right _ z)))
 ·show h.get? (h.objs.size+1)=none
  cases z:h.get? (h.objs.size+1) with
  | none=>rfl
  | some o=>exact absurd (Heap.lt_size z) (Nat.not_lt.mpr (Nat.le_succ _))
theorem z1Q(e:Expr)(env:Env):PySem.evalOpt (some e) env=some (eval e env):=by rfl
theorem JS(env:Env):PySem.evalOpt none env=none:=by rfl
noncomputable def vO(fi:Fi)(nm:Str):Bool:=decide (fi.sc.names.lookup nm=some .globalImplicit)
theorem z2s{Ca:Addr}{nm:Str}{as:E}{np cpos:Pos}(Y:RaiK K tb k Ca nm)(hh:hd=false)(hg:vO fi nm=true)(hpl:zt ts=true)(h:SLp K tb G F hd n fi as ts) :
  SSp K tb G F W hd n fi (.rai k as) (.Raise (some (.Call (.Name nm np) ts [] cpos)) none pos):=by
 subst hh
 intro c A s m M I L H Q X C hs ht S LL p
 obtain⟨pp,l,mean,mg,mb,T⟩:=C.T
 obtain⟨nm',qq,NN,bs,bm,hdct,sn,sub,col,dd,k0,k1,k2,k3,k5,hK,hdt,hY,hrf⟩:=Y.ex.obj
 rw[arm_exec_Raise]
 rw[z1Q]
 rw[JS]
 refine wpAny_bind (wpAny_standAt (jK (C:=Ca) (newId:="Exception.__new__") (nm:=nm') (q:=qq) (N:=NN) (bs:=bs) (hdct:=hdct) (sn:=sn) (sub:=sub) (ab:=false) (col:=col) (dd:=dd) (k0:=k0) (k1:=k1) (k2:=k2) (k3:=k3) (k5:=k5) hY.ba ?_))
 rw[yp (by intros;simp)]
 refine wpAny_bind (wpAny_bind (nameX_K S.F S.kin (topRead_of T) Y.gl ?_ C.fk (by show c.scope.names.lookup _=_;rw[hs];exact of_decide_eq_true hg) Y.db))
 refine jZ Y.ex.keep hpl (wp1 ht (h c A s m M I L H cpos _ _ C hs ht S LL (PostS.bind p λ vs xs H' h' tk M' I' S' e z p' ht'=>?_)))
 cases ha:zJ k xs with
 | none=>rw[ha] at p';exact p'.elim
 | some al=>
  rw[ha] at p'
  refine⟨S'.kin.keeps S'.F.keep,?_⟩
  refine WS (s:={s with heap:=h',toks:=tk}) Y C S' z ha λ e2 h2 tk2 D T' es n' S2 x2 he hel hen hne _=>?_
  refine wpAny_bind (wpAny_standAt (wpAny_pure ?_))
  refine⟨e2,T',some D,rfl,(S2.kin.keeps S2.F.keep) _ _ hK,he,?_⟩
  refine wpAny_raiseNew_none (C.hh rfl) ?_
  refine p' e2 h2 tk2 m ?_
  refine mkX C S2 ⟨he,hel,hen⟩ hne rfl rfl rfl (by simp) (by rfl) (.inr rfl) Y.x ?_ x2
  rw[←S'.ro.length]
  exact zG
end
section
variable {w:World}{A:Around}{E:Value->Shared->Prop}{s:Shared}{K:Frag}{x C:Addr}{ox:Obj}{od:Option Obj}{name:Str}{expr:Bool}{Q:Value->Shared->Prop}
theorem Ja(X:K.In s.heap)(I:InstAt s.heap x ox C od)(hga:findIn K (.ref C) "__getattribute__"=some (some (.builtin "BaseException.__getattribute__")))(hhk:findIn K (.ref C) "__getattr__"=some none)(hsb:subIn K (.ref C) (.type "BaseException")=some true)(hf:findObj K C od name=some (.value v))(hh:handedIn v=true)(h:Q v {s with toks:=s.toks+1}):wpAny (model pw w) A (getAttr (.ref x) name expr) Q E s:=by
 have FB:=PySem.F.attr_Exception
 obtain⟨hp,g,d,t,os⟩:=s
 have L0:=I.type (M:=model pw w)
 have L1:=looks_findIn (M:=model pw w) X hga
 have L2:=looks_findIn (M:=model pw w) X hhk
 have L3:=looks_find (M:=model pw w) X I hf
 unfold getAttr getAttrBy
 refine wpAny_bind (wpAny_mkText (wpAny_holding (wpAny_bind (L0.at (wpAny_bind (L1.at ?_))))))
 dsimp only
 rw[show(onTheHeap (Value.ref C)&&Value.builtin "BaseException.__getattribute__"==Value.builtin "object.__getattribute__")=false from by rw[show(Value.builtin "BaseException.__getattribute__"==Value.builtin "object.__getattribute__")=false from by decide +kernel,Bool.and_false],if_neg (by decide)]
 unfold getAttrByItsOwn
 refine wpAny_bind (show wpAny _ _ (hookBefore (.ref C)) _ _ _ from L2.at ?_)
 refine wpAny_bind (wpAny_attempt (wpAny_holding ?_))
 unfold callGetattribute
 rw[show(expr&&onTheHeap (Value.builtin "BaseException.__getattribute__"))=false from Bool.and_false _,if_neg (by decide)]
 unfold boundAndCalled
 rw[FB.ga.bind]
 refine wpAny_bind (wpAny_pure ?_)
 show wpAny _ _ (call (.builtin "BaseException.__getattribute__") [.ref x,.str name t]) _ _ _
 refine wpAny_call ?_
 refine codeAny_call_builtin FB.ga.plain PySem.F.entry_bexc_ga ?_
 refine @check_slot (model pw w) _ _ ⟨hp,g,d,t+1,os⟩ "BaseException.__getattribute__" "BaseException" "__getattribute__" (.ref x) [.str name t] [] _ (by decide +kernel) (by decide +kernel) (L0.andThen (looks_subIn X hsb)) (PySem.F.args_bexc_ga (.ref x) (.str name t)) ?_
 refine wpAny_bind (wpAny_pure (wpAny_bind (wpAny_pure (wpAny_bind (L0.at (wpAny_bind (L3.at ?_)))))))
 refine wpAny_pure ?_
 show wpAny _ _ (handedOut v) _ _ _
 rw[handedOut_of hh];exact wpAny_pure h
end
structure AmbX(K:Frag)(tb:Tab)(an:List (List Nat)):Prop where
 at_:∀ k C nm,tb.x k=some C->nm∈an->findIn K (.ref C) "__getattribute__"=some (some (.builtin "BaseException.__getattribute__"))/\findIn K (.ref C) "__getattr__"=some none/\subIn K (.ref C) (.type "BaseException")=some true/\hasDictIn K C=true/\∃ attr,findIn K (.ref C) (z0 nm)=some attr/\noGet K attr=true
section
variable {K:Frag}{tb:Tab}{G:Nat->Option V}{gn:Nat->Option Str}{F:Fn}{hd:Bool}{n:Nat}{fi:Fi}
set_option tactic.hygienic true in
theorem hexOk{an:List (List Nat)}(W:AmbX K tb an)(hn:nm∈an)(c:Cx)(A:Around)(s:Shared)(m:Str->Option Value)(M I:Led)(H:Hp)(k d:Nat)(v:Value)(y:V)(Q X:Value->Shared->Prop)(C:Cok K hd n 8 c A)(S:St K tb c.w c.h₀ c.L s.heap m M I H)(z:RV K tb I (z6 M) v (.exc k d))(ha:zN H nm (.exc k d)=some y)(p:Post K tb (zU K tb) c s m M I (.ok y H) Q X) :
  wpAny (model pw c.w) A (getAttr v (z0 nm) true) Q X s:=by
 cases z with
 | exc h1 h2 h3 h4 h5 h6=>
  rename_i e D Ca oe
  simp only[zN] at ha
  split at ha
  ·rename_i l hl
   obtain⟨ob2,g1,g2,g3⟩:=S.obj h6 hl
   cases g3 with
   | att r1=>
    rename_i es j
    obtain⟨w1,w2,w3,w4,attr,w5,w6⟩:=W.at_ _ _ _ h2 hn
    obtain⟨vs,h5a,h5b,h5c⟩:=h5
    have he:=(S.N _ (List.mem_append_right _ h1)).1
    have IA:InstAt s.heap e oe Ca (some (dictOf es j)):=⟨he,h3,by unfold notCls;rw[h5a],by rw[h4];exact g2⟩
    rcases r1.get (nm:=nm) with ⟨en,y',f1,f2,f3⟩ | ⟨_,f2⟩
    ·rw[ha] at f2
     cases f2
     exact Ja (S.kin.keeps S.F.keep) IA w1 w2 w3 (findObj_own w4 w5 w6 (by show PySem.W.getL _ _=_;unfold PySem.W.getL;rw[f1])) (jX f3) (p.now S f3 _)
    ·rw[ha] at f2;cases f2
  ·cases ha
set_option tactic.hygienic true in
theorem jt{M:Model}{E:Value->Shared->Prop}{s:Shared}{e Ca:Addr}{oe:Obj}{Q:Bool->Shared->Prop}(X:K.In s.heap)(he:s.heap.get? e=some oe)(hc:oe.cls=.ref Ca)(h1:instIn K (.ref D) (.type "tuple")=some false)(h2:∃ cd,clsIn K D=some cd)(h3:subIn K (.ref D) (.type "BaseException")=some true)(h4:subIn K (.ref Ca) (.ref D)=some true)(q:Q true s) :
  wpAny M A (excMatches (.ref e) (.ref D)) Q E s:=by
 unfold excMatches
 refine wpAny_bind ((looks_instIn X h1).here ?_)
 dsimp only
 rw[if_neg (by decide)]
 refine wpAny_bind (wpAny_pure ?_)
 have isT:Looks M s.heap (isType (.ref D)) true:=by
  obtain⟨cd,hcd⟩:=h2
  unfold clsIn at hcd
  split at hcd
  ·rename_i ho
   exact(Looks.ld (X _ _ ho)).andThen .now
  ·cases hcd
 have hty:Looks M s.heap (typeOf (.ref e)) (.ref Ca):=hc ▸ (Looks.ld he).andThen .now
 have ht:Looks M s.heap (isExcClass (.ref D)) true:=by
  unfold isExcClass
  exact(isT.andThen (looks_subIn X h3))
 simp only[List.forIn_cons,List.forIn_nil]
 refine wpAny_bind (wpAny_bind (wpAny_bind (ht.here ?_)))
 rw[if_neg (by decide)]
 refine wpAny_pure (wpAny_pure (wpAny_bind (hty.here (wpAny_bind (wpAny_bind (wpAny_bind ((looks_subIn X h4).here ?_)))))))
 rw[if_pos rfl]
 exact wpAny_pure (wpAny_pure (wpAny_pure q))
end
noncomputable def bObj(h₀ h:Heap)(i:Addr):Obj:=if (h₀.get? i).isSome then(h.objs[i]?).getD {cls:=.none,data:=.freed} else {cls:=.none,data:=.freed}
noncomputable def behind(h₀ h:Heap):Heap:=⟨Array.ofFn (n:=h₀.objs.size) λ i=>bObj h₀ h i.1,h.life⟩
theorem heap_get(h:Heap)(b:Addr):h.get? b=match h.objs[b]? with | some ⟨_,_,.freed,_⟩=>none | o=>o:=rfl
theorem vh(b:Addr):(behind h₀ h).get? b=if (h₀.get? b).isSome then h.get? b else none:=by
 have hlt:(h₀.get? b).isSome=true->b<h₀.objs.size:=λ e=>by
  obtain⟨o,e⟩:=Option.isSome_iff_exists.mp e
  exact Heap.lt_size e
 rw[heap_get]
 unfold behind
 simp only[Array.getElem?_ofFn]
 by_cases q:(h₀.get? b).isSome=true
 ·rw[dif_pos (hlt q),if_pos q,heap_get]
  unfold bObj
  rw[if_pos q]
  cases hb:h.objs[b]? with
  | none=>rfl
  | some o=>rfl
 ·rw[if_neg q]
  by_cases z:b<h₀.objs.size
  ·rw[dif_pos z]
   unfold bObj
   rw[if_neg q]
  ·rw[dif_neg z]
theorem YR:(behind h₀ h).objs.size=h₀.objs.size:=by unfold behind;simp
structure Reb(c:Cx)(g:Heap):Prop where
 up:Up c.h₀ g
 non:∀ b,c.h₀.get? b=none->g.get? b=none
 bel:Below c.A₀ c.base c.outer g
section
variable {K:Frag}{tb:Tab}{G:Nat->Option V}{gn:Nat->Option Str}{F:Fn}{W:Nat}{hd:Bool}{n:Nat}{fi:Fi}
theorem z2V(C:Cok K hd n 8 c A){B:Heap}{e Ca:Addr}(hb:c.base.StaysIn B)(f:FlyT B (c.env::c.outer) e Ca D h)(ns:h.Ns c.L m)(u:Up c.h₀ h)(ab:c.h₀.objs.size<=c.L) :
  Reb c (behind c.h₀ h)/\Fr (behind c.h₀ h) c.L h m:=by
 have g1:∀ b o,(behind c.h₀ h).get? b=some o->h.get? b=some o:=λ b o e=>by
  rw[vh] at e
  split at e
  ·exact e
  ·cases e
 have g2:∀ b,(c.h₀.get? b).isSome=true->(behind c.h₀ h).get? b=h.get? b:=λ b q=>by rw[vh,if_pos q]
 have upg:Up c.h₀ (behind c.h₀ h):=⟨λ b o e hn=>by
  obtain⟨sl,q⟩:=u.1 b o e hn
  exact⟨sl,(g2 b (by rw[e];rfl)).trans q⟩,λ b e=>by rw[g2 b e];exact u.2 b e⟩
 refine⟨⟨upg,λ b q=>by rw[vh,q];rfl,C.B.stack,λ b o e=>?_,?_⟩,ns,g1,by rw[YR];exact ab⟩
 ·have e0:=C.B.stays b o e
  rw[g2 b (by rw[e0];rfl)]
  exact f.1 b o (hb b o e)
 ·refine C.B.frames.of_keeps λ b o e hn=>?_
  obtain⟨sl,q⟩:=upg.1 b o e hn
  exact⟨_,q,rfl⟩
theorem XPost.unreb{g:Heap}{e:Addr}(r:Reb c g)(q:XPost K tb {c with h₀:=g} m M I k d H e h):XPost K tb c m M I k d H e h:=by
 obtain⟨C,D,M2,I2,q1,q2,q3,q4,⟨B,b1,b2,b0,b3⟩,q6,q7,q8,q9⟩:=q
 have non:∀ b,g.get? b=none->c.h₀.get? b=none:=λ b e=>by
  cases z:c.h₀.get? b with
  | none=>rfl
  | some o=>
   have:=r.up.2 b (by rw[z];rfl)
   rw[e] at this
   cases this
 exact⟨C,D,M2,I2,q1,q2,q3,r.up.trans q4,⟨B,b1,λ q hq=>⟨(b2 q hq).1,non _ (b2 q hq).2.1,(b2 q hq).2.2⟩,non _ b0,b3⟩,q6,q7,q8,q9⟩
theorem jk:entryFor table "proto.unchain"=some Builtin.«proto.unchain»:=entryFor_of_tree (by kernel_rfl)
theorem Vo{s:Shared}{e x:Addr}{ox oe:Obj}{vx ve:Array Value}{Q:α->Shared->Prop}{E:Value->Shared->Prop}(hh:A.handled=some (.ref x))(hne:x≠e)(hx:s.heap.get? x=some ox)(hxd:ox.data=.fields vx)(hx2:vx[2]?=some .none)(he:s.heap.get? e=some oe)(hed:oe.data=.fields ve)(he2:2<ve.size)(h:E (.ref e) {s with heap:=s.heap.update e (Obj.mapFields (·.setIfInBounds 2 (.ref x)))}):wpAny (model pw w) A (raiseNew (.ref e):Sem α) Q E s:=by
 unfold raiseNew
 refine wpAny_bind (wpAny_handled ?_)
 rw[hh]
 dsimp only
 have hne':(Value.ref x !=Value.ref e)=true:=by simpa using hne
 rw[if_pos hne']
 refine wpAny_bind (wpAny_holding (wpAny_runValue (codeAny_builtin jk ?_)))
 unfold Builtin.«proto.unchain»
 refine wpAny_bind (wpAny_field hx hxd hx2 ?_)
 rw[if_pos (by rfl)]
 refine wpAny_pure ?_
 show wpAny _ _ _ _ _ _
 unfold updateField
 refine wpAny_bind (wpAny_bind (wpAny_load he ?_))
 rw[hed]
 dsimp only
 rw[if_pos he2]
 exact wpAny_update he (wpAny_throw h)
theorem j6{B:Heap}{L:Addr}(sb:Heap.SameBut L h h')(ns:h'.Ns L m'){l:List Env}(H:h.FunFrames B l):h'.FunFrames B l:=by
 induction l with
 | nil=>trivial
 | cons env r ih=>
  obtain⟨hk,⟨L1,o,hf,hn,ho,hd⟩,hr⟩:=H
  refine⟨hk,?_,ih hr⟩
  by_cases z:L1=L
  ·subst z
   obtain⟨o',es,ep,ho',hd',_⟩:=ns
   exact⟨L1,o',hf,hn,ho',λ vs q=>by rw[hd'] at q;cases q⟩
  ·exact⟨L1,o,hf,hn,(sb.2 _ z).trans ho,hd⟩
theorem FlyT.sameBut{B:Heap}{env:Env}{outer:List Env}{e Ca L:Addr}(x:FlyT B (env::outer) e Ca D h)(hf:env.frame=some L)(sb:Heap.SameBut L h h')(ns:h'.Ns L m'):FlyT B (env::outer) e Ca D h':=by
 obtain⟨a1,a2,a3,oe,vs,c1,c2,c3,c4,c5,c6,T,oT,ts,d1,d2,d3,d4,d5,d6⟩:=x
 obtain⟨b1,⟨L',oL,b2,b3,b4,b5⟩,b6⟩:=id a3
 rw[hf] at b2
 cases b2
 have ne:∀ {b:Addr} {o:Obj} {vs:Array Value},h.get? b=some o->o.data=.fields vs->b≠L:=λ hb hd q=>by
  rw[q,b4] at hb
  cases hb
  exact b5 _ hd
 have gt:∀ {b:Addr},b≠L->h'.get? b=h.get? b:=λ hb=>sb.2 _ hb
 refine⟨λ b o q=>?_,a2,j6 sb ns a3,oe,vs,(gt (ne c1 c4)).trans c1,c2,c3,c4,c5,c6,T,oT,ts,d1,d2,d3,(gt (ne d4 d5)).trans d4,d5,d6⟩
 rw[gt (λ z=>by rw[z,b3] at q;cases q)]
 exact a1 b o q
theorem Up.sameBut{L:Addr}(u:Up h₀ h)(ab:h₀.objs.size<=L)(sb:Heap.SameBut L h h'):Up h₀ h':=by
 have ne:∀ {b:Addr} {o:Obj},h₀.get? b=some o->b≠L:=λ e=>Nat.ne_of_lt (Nat.lt_of_lt_of_le (Heap.lt_size e) ab)
 refine⟨λ b o e hn=>?_,λ b e=>?_⟩
 ·obtain⟨sl,q⟩:=u.1 b o e hn
  exact⟨sl,(sb.2 _ (ne e)).trans q⟩
 ·obtain⟨o,z⟩:=Option.isSome_iff_exists.mp e
  rw[sb.2 _ (ne z)]
  exact u.2 b e
theorem passX{M:Model}{E:Value->Shared->Prop}{s:Shared}{B:Heap}{env:Env}{l:List Env}{e:Addr}{Q:α->Shared->Prop}{what:String}(x:FlyT B l e C D s.heap)(h:∀ h',FlyT B l e C D h'->Up s.heap h'->E (.ref e) {s with heap:=h'}):wpAny M A (PySem.passOn what (.ref e) env:Sem α) Q E s:=by
 obtain⟨hkb,hen,hl,oe,vs,he,hc,hdi,hd,hsz,hcx,T,oT,ts,h1,r1,r2,r3,r4,r5⟩:=x
 unfold PySem.passOn
 refine wpAny_bind (wpAny_field he hd h1 ?_)
 rw[if_neg (by simp)]
 refine wpAny_bind (vy ⟨hkb,hen,hl,oe,vs,he,hc,hdi,hd,hsz,hcx,T,oT,ts,h1,r1,r2,r3,r4,r5⟩ λ h' f u=>?_)
 exact wpAny_throw (h h' f u)
end
structure ClsK(K:Frag)(tb:Tab)(k:Nat)(D:Addr)(nm:Str):Prop where
 gl:nsIn K mainGlobals nm=some (some (.ref D))
 db:(nm==("__debug__":Str))=false
 tup:instIn K (.ref D) (.type "tuple")=some false
 cls:∃ cd,clsIn K D=some cd
 bas:subIn K (.ref D) (.type "BaseException")=some true
 sub:∀ c C,tb.x c=some C->Wd c k=true->subIn K (.ref C) (.ref D)=some true
section
variable {K:Frag}{tb:Tab}{G:Nat->Option V}{gn:Nat->Option Str}{F:Fn}{W:Nat}{n:Nat}{fi:Fi}
abbrev AsX(c:Cx)(A:Around)(e:Addr)(nm:Str)(hpos:Pos)(X:Value->Shared->Prop):Value->Shared->Prop:=
 AsSuiteRaised (model pw c.w) (A.mark (some (.ref e))) c.env nm hpos (notedBy (model pw c.w) (A.mark (some (.ref e))) c.env (cameBackBy (model pw c.w) A c.env X))
theorem wpT{M:Model}{s:Shared}{t:Sem α}{Q:α->Shared->Prop}{n:Nat}(hn:n<=s.toks)(h:wpAny M A t (λ a s'=>n<=s'.toks->Q a s') (λ e s'=>n<=s'.toks->X e s') s):wpAny M A t Q X s:=
 wpAny_with_toks hn h
theorem Qp{s:Shared}{ck:Nat}{e:Addr}{cn nm:Str}{np hpos:Pos}{b₀:Stmt}{suite:List Stmt}{Q:Flow->Shared->Prop}{P:Heap->Prop}(C:Cok K false n 8 c A)(hs:c.scope=fi.sc)(hlo:fi.sc.names.lookup nm=some .local)(hgl:fi.sc.names.lookup cn=some .globalImplicit)(ab:c.h₀.objs.size<=c.L)(htw:tb.w=c.w)(Y:ClsK K tb ck D cn)(hsub:Wd k ck=true)(q:XPost K tb c m M I k d H e s.heap)(hg:∀ (B:Heap) (Ca Dd:Addr) (h:Heap),c.base.StaysIn B->FlyT B (c.env::c.outer) e Ca Dd h->h.Ns c.L m->Up c.h₀ h->∃ g,P g/\Fr g c.L h m/\(∀ b,c.h₀.get? b=none->g.get? b=none)/\K.In g/\Below c.A₀ c.base c.outer g/\(Ex5 λ pp l mean mg mb=>Top pp l mean mg mb g))(ht:1<=s.toks)(hk:∀ g h' tk M' I',1<=tk->P g->St K tb c.w g c.L h' (λ z=>if z=nm then some (.ref e) else m z) M' I' H->Ext M I M' I'->RV K tb I' (z6 M') (.ref e) (.exc k d)->
   wpAny (model pw c.w) (A.mark (some (.ref e))) (execs (b₀::suite) c.env) (λ f s₄=>wpAny (model pw c.w) A (do bindName c.env nm .none;unbindBehindTheSuite c.env nm hpos) (λ _ s₅=>Q f s₅) X s₄) (AsX c A e nm hpos X) {s with heap:=h',toks:=tk}) :
  wpAny (model pw c.w) A (noteFrame (.ref e) c.env) (λ _ s₂=>wpAny (model pw c.w) A (setFlight (.ref e) none) (λ _ s₃=>wpAny (model pw c.w) A (handleBy (.ref e) c.env [.ExceptHandler (some (.Name cn np)) (some nm) (b₀::suite) hpos]) Q X s₃) X s₂) X s:=by
 obtain⟨Ca,Dd,M',I',q1,q2,q3,q4,⟨B,b1,b2,b0,b3⟩,q6,q7,q8,q9⟩:=q
 refine WP C.hA rfl b3 λ h1 f1 u1=>vy (s:={s with heap:=h1}) (fr:=none) f1 λ h2 f2 u2=>?_
 have ns2:=yA (yA q3 u1) u2
 obtain⟨g,hP,Fg,hnon,kg,bel,pp,l,mean,mg,mb,Tg⟩:=hg B Ca Dd h2 b1 f2 ns2 ((q4.trans u1).trans u2)
 have eC:∀ {h:Heap},FlyT B (c.env::c.outer) e Ca Dd h->(Ex2 λ oe vs=>A6 (h.get? e=some oe) (oe.cls=.ref Ca) (oe.dict=some Dd) (oe.data=.fields vs) (2<vs.size) (CtxOk Ca vs)):=λ f=>by
  obtain⟨_,_,_,oe,vs,c1,c2,c3,c4,c5,c6,_⟩:=f
  exact⟨oe,vs,c1,c2,c3,c4,c5,c6⟩
 refine wpAny_handleBy_cons (codeAny_handlers_test ?_) (by intro z;cases z)
 refine nameX_K (s:={s with heap:=h2}) Fg kg (topRead_of Tg) Y.gl ?_ C.fk (by show c.scope.names.lookup _=_;rw[hs];exact hgl) Y.db
 obtain⟨oe,vs,c1,c2,c3,c4,c5,c6⟩:=eC f2
 refine jt (s:={s with heap:=h2}) (kg.keeps Fg.keep) c1 c2 Y.tup Y.cls Y.bas (Y.sub _ _ q1 hsub) ?_
 refine codeAny_handlers_suite_as ?_
 refine vy (s:={s with heap:=h2}) (fr:=none) f2 λ h3 f3 u3=>?_
 obtain⟨g,hP,Fg,hnon,kg,bel,pp,l,mean,mg,mb,Tg⟩:=hg B Ca Dd h3 b1 f3 (yA ns2 u3) (((q4.trans u1).trans u2).trans u3)
 obtain⟨oe,vs,c1,c2,c3,c4,c5,c6⟩:=eC f3
 have hLB:B.get? c.L=none:=by
  obtain⟨_,_,⟨_,⟨L1,o1,z1,z2,_⟩,_⟩,_⟩:=f3
  cases z1
  exact z2
 have S3:St K tb c.w g c.L h3 m M' ((e,oe)::I') H:=by
  refine⟨Fg,λ p hp=>?_,q6,λ p hp hq=>?_,q8.mono (λ p hp=>.tail _ hp) λ _ _ h=>h,kg,htw⟩
  ·rcases ma_ hp with z | z
   ·have:=b2 p (List.mem_append_left _ z)
    exact⟨f3.1 _ _ this.1,this.2.2,hnon _ this.2.1⟩
   ·cases z with
    | head=>
     refine⟨c1,λ z=>?_,hnon _ b0⟩
     obtain⟨o',es,ep,ho,hd,_⟩:=Fg.ns
     rw[←z,c1] at ho
     cases ho
     rw[c4] at hd
     cases hd
    | tail _ z=>
     have:=b2 p (List.mem_append_right _ z)
     exact⟨f3.1 _ _ this.1,this.2.2,hnon _ this.2.1⟩
  ·cases hp with
   | head=>
    obtain⟨p,hp,z⟩:=List.mem_map.mp hq
    have:=(b2 p (List.mem_append_left _ hp)).1
    rw[z,(show B.get? e=none from f3.casesOn λ _ z _ _=>z)] at this
    cases this
   | tail _ hp=>exact q7 p hp hq
 refine wp1 (s:={s with heap:=h3}) ht (ql (c:={c with h₀:=g}) (s:={s with heap:=h3}) (n:=n) (hd:=true) (K:=K) (A:=A.mark (some (.ref e))) ⟨bel,C.hA,C.Tb,C.kb,C.fk,nofun,C.dp,C.un⟩ hs hlo S3 λ h4 tk4 S4 ht4=>?_)
 exact hk g h4 tk4 M' _ ht4 hP S4 ⟨λ p hp=>.tail _ (q9.i p hp),q9.m⟩ (.exc (.head _) q1 c2 c3 ⟨vs,c4,c5,c6⟩ q2)
end
section
variable {K:Frag}{tb:Tab}{G:Nat->Option V}{gn:Nat->Option Str}{F:Fn}{W:Nat}{n:Nat}{fi:Fi}
theorem St.outside{L e:Addr}(S:St K tb w h₀ L h m M I H)(hel:e≠L)(hen:h₀.get? e=none)(hne:∀ p∈M++I,p.1≠e)(ho:∀ b,b≠e->h'.get? b=h.get? b):St K tb w h₀ L h' m M I H:=by
 refine⟨⟨?_,λ b o q=>(ho b λ z=>by rw[z,hen] at q;cases q).trans (S.F.keep b o q),S.F.above⟩,λ p hp=>⟨(ho _ (hne p hp)).trans (S.N p hp).1,(S.N p hp).2⟩,S.nd,S.ap,S.ro,S.kin,S.tw⟩
 obtain⟨o,es,ep,h1,r⟩:=S.F.ns
 exact⟨o,es,ep,(ho _ (Ne.symm hel)).trans h1,r⟩
theorem raiH{Ca x:Addr}{kx dx:Nat}{nm:Str}{as:E}{np cpos:Pos}(Y:RaiK K tb k Ca nm)(h51:Ca=51){s:Shared}{Q:Flow->Shared->Prop}(C:Cok K true n 8 c A)(hs:c.scope=fi.sc)(ht:1<=s.toks)(S:St K tb c.w c.h₀ c.L s.heap m M I H)(LL:LR K tb fi.ns m I (z6 M) L)(hh:A.handled=some (.ref x))(zx:RV K tb I (z6 M) (.ref x) (.exc kx dx))(hx51:∀ D,tb.x kx=some D->D≠51)(hg:vO fi nm=true)(hpl:zt ts=true)(h:SLp K tb G F true n fi as ts)(p:PostS K tb fi c s M I ((evL G F as L H).out λ xs H=>match zJ k xs with | some l=>.exc k H.length (H++[.att l]) | none=>.bad) Q X) :
  wpAny (model pw c.w) A (exec (.Raise (some (.Call (.Name nm np) ts [] cpos)) none pos) c.env) Q X s:=by
 obtain⟨pp,l,mean,mg,mb,T⟩:=C.T
 obtain⟨nm',qq,NN,bs,bm,hdct,sn,sub,col,dd,k0,k1,k2,k3,k5,hK,hdt,hY,hrf⟩:=Y.ex.obj
 rw[arm_exec_Raise]
 simp only[evalOpt,Option.map]
 refine wpAny_bind (wpAny_standAt (jK (C:=Ca) (newId:="Exception.__new__") (nm:=nm') (q:=qq) (N:=NN) (bs:=bs) (hdct:=hdct) (sn:=sn) (sub:=sub) (ab:=false) (col:=col) (dd:=dd) (k0:=k0) (k1:=k1) (k2:=k2) (k3:=k3) (k5:=k5) hY.ba ?_))
 rw[yp (by intros;simp)]
 refine wpAny_bind (wpAny_bind (nameX_K S.F S.kin (topRead_of T) Y.gl ?_ C.fk (by show c.scope.names.lookup _=_;rw[hs];exact of_decide_eq_true hg) Y.db))
 refine jZ Y.ex.keep hpl (wp1 ht (h c A s m M I L H cpos _ _ C hs ht S LL (PostS.bind p λ vs xs H' h' tk M' I' S' e z p' ht'=>?_)))
 cases ha:zJ k xs with
 | none=>rw[ha] at p';exact p'.elim
 | some al=>
  rw[ha] at p'
  refine⟨S'.kin.keeps S'.F.keep,?_⟩
  refine WS (s:={s with heap:=h',toks:=tk}) Y C S' z ha λ e2 h2 tk2 D T' es n' S2 x2 he hel hen hne _=>?_
  refine wpAny_bind (wpAny_standAt (wpAny_pure ?_))
  refine⟨e2,T',some D,rfl,(S2.kin.keeps S2.F.keep) _ _ hK,he,?_⟩
  have zx2:=(zx.ext e).ext x2
  cases zx2 with
  | exc g1 g2 g3 g4 g5 g6=>
   obtain⟨vx,g5a,g5b,g5c⟩:=g5
   have hx:=S2.N _ (List.mem_append_right _ g1)
   have hx2:vx[2]?=some .none:=g5c.resolve_left (hx51 _ g2)
   refine Vo (s:={s with heap:=h2,toks:=tk2}) hh (hne _ (List.mem_append_right _ g1)) hx.1 g5a hx2 he rfl (by simp) ?_
   obtain⟨u1,u2,u3,u4,u5⟩:=qZ he (ts:=vG T') rfl 2 (.ref x) _ rfl
   have S3:=St.outside S2 hel hen hne u5
   refine p' e2 _ tk2 m ?_
   refine mkX C S3 ⟨u1,hel,hen⟩ hne (u3.trans rfl) (u4.trans rfl) u2 (by simp) (by rfl) (.inl h51) Y.x ?_ x2
   rw[←S'.ro.length]
   exact zG
theorem asX{s:Shared}{e e2:Addr}{nm:Str}{hpos:Pos}(hA:A.frames=some (c.env::c.outer))(hfk:c.scope.kind=.function)(hlo:c.scope.names.lookup nm=some .local)(ab:c.h₀.objs.size<=c.L)(q:XPost K tb c m M I k d H e2 s.heap)(h:∀ h' tk m',XPost K tb c m' M I k d H e2 h'->X (.ref e2) {s with heap:=h',toks:=tk}):AsX c A e nm hpos X (.ref e2) s:=by
 obtain⟨C,D,M2,I2,q1,q2,q3,q4,⟨B,b1,b2,b0,b3⟩,q6,q7,q8,q9⟩:=q
 have hA':(A.mark (some (.ref e))).frames=some (c.env::c.outer):=hA
 refine WP hA' rfl b3 λ h1 f1 u1=>?_
 have ns1:=yA q3 u1
 refine wpAny_nameGoes (s:={s with heap:=h1}) (m:=m) hlo ns1 ?_ λ h2 m2 ns2 sb2=>?_
 ·show(c.scope.kind==.class||(c.scope.kind==.module&&_))=false
  rw[hfk];rfl
 have f2:=f1.sameBut rfl sb2 ns2
 have up2:=Up.sameBut (q4.trans u1) ab sb2
 refine passX (s:={s with heap:=h2,toks:=s.toks+1}) f2 λ h3 f3 u3=>?_
 refine Qf (s:={s with heap:=h3,toks:=s.toks+1}) hA' rfl f3.x λ h4 f4 u4=>?_
 refine z1w (s:={s with heap:=h4,toks:=s.toks+1}) f4 λ h5 f5 u5=>?_
 exact h h5 _ m2 ⟨C,D,M2,I2,q1,q2,yA (yA (yA ns2 u3) u4) u5,((up2.trans u3).trans u4).trans u5,⟨B,b1,b2,b0,f5.x⟩,q6,q7,q8,q9⟩
end
section
variable {K:Frag}{tb:Tab}{G:Nat->Option V}{gn:Nat->Option Str}{F:Fn}{W:Nat}{n:Nat}{fi:Fi}
set_option tactic.hygienic true in
theorem qB{v:V}{L':Lc}(h:Zj is v L=some L'):∃ l,v=.tup l/\l.length=is.length/\L'=setAll is l L:=by
 cases v<;>first | exact n1 h | skip
 rename_i l
 by_cases e:l.length=is.length
 ·exact⟨_,rfl,e,(Option.some.inj ((if_pos e).symm.trans h)).symm⟩
 ·exact n1 ((if_neg e).symm.trans h)
theorem Vq{v:V}{L':Lc}(h1:is.length≠1)(h:zS is v L=some L'):∃ l,v=.tup l/\l.length=is.length/\L'=setAll is l L:=by
 cases is with
 | nil=>exact qB h
 | cons i r=>cases r with
  | nil=>exact absurd rfl h1
  | cons j q=>exact qB h
theorem Kp(C:Cok K false n 8 c A){g:Heap}(bel:Below c.A₀ c.base c.outer g)(v:Value):Cok K true n 8 {c with h₀:=g} (A.mark (some v)):=⟨bel,C.hA,C.Tb,C.kb,C.fk,nofun,C.dp,C.un⟩
set_option tactic.hygienic true in
theorem J4{e as:E}{k2:Nat}{tts:List Expr}{kk:Nat}{cn nm nm2:Str}{Ca:Addr}{apos np np2 cpos rpos hpos:Pos}(hnd:fi.ns.Nodup)(hok:jb fi is tts=true)(hlen:is.length≠1)(hc:kn t=true)(h:SEp K tb G F false n fi e t)(hi:yw fi i nm=true)(hgl:vO fi cn=true)(Y:ClsK K tb 0 D cn)(hx51:∀ c D,c≠1->tb.x c=some D->D≠51)(Y2:RaiK K tb k2 Ca nm2)(h51:Ca=51)(hg:vO fi nm2=true)(hpl:zt ts=true)(ha:SLp K tb G F true n fi as ts) :
  SSp K tb G F W false n fi (.try_ is e 0 i (.cons (.rai k2 as) .nil)) (.Try [.Assign [.Tuple tts kk p1] t apos] [.ExceptHandler (some (.Name cn np)) (some nm) [.Raise (some (.Call (.Name nm2 np2) ts [] cpos)) none rpos] hpos] [] [] pos):=by
 intro c A s m M I L H Q X C hs ht S LL p
 obtain⟨hix,hil⟩:=yX hi
 refine wpAny_Try_except (wpAny_execs_cons (Assign_Tuple (wpT ht (h c A s m M I L H _ _ C hs ht S LL ?_)) (by cases t<;>first | rfl | cases hc) (by cases t<;>first | rfl | cases hc)))
 rw[jM] at p
 cases hev:evE G F e L H with
 | ok v H'=>
  rw[hev] at p
  change PostS K tb fi c s M I (bndK H' (zS is v L)) Q X at p
  intro a h' tk M' I' S' e' z _
  cases hb:zS is v L with
  | none=>rw[hb] at p;exact p.elim
  | some L'=>
   rw[hb] at p
   obtain⟨l,rfl,hl,rfl⟩:=Vq hlen hb
   exact Zi (s:={s with heap:=h',toks:=tk}) hnd C hs hok z hl S' (LL.ext e') λ h2 tk2 m2 S2 l2=>wpAny_execs_nil (wpAny_execs_nil (p h2 tk2 m2 M' I' S2 e' l2))
 | bad=>rw[hev] at p;exact p.elim
 | exc k d H'=>
  rw[hev] at p
  intro e0 h' tk q htk
  change PostS K tb fi c s M I (if _ then YG _ else .bad) Q X at p
  split at p
  case isFalse=>exact p.elim
  rename_i hsub
  simp only[Bool.and_eq_true,Bool.not_eq_true',beq_self_eq_true,Bool.true_and,beq_eq_false_iff_ne] at hsub
  have hab:=S.F.above
  refine Qp (s:={s with heap:=h',toks:=tk}) (P:=λ g=>Reb c g) (ck:=0) (D:=D) (fi:=fi) C hs hil (of_decide_eq_true hgl) hab S.tw Y hsub.1 q (ht:=htk) (λ B Cb Dd h2 hb f ns u=>?_) λ g h2 tk2 M' I' ht2 rb S' x' z'=>?_
  ·obtain⟨r1,r2⟩:=z2V C hb f ns u hab
   obtain⟨pp,l,mean,mg,mb,T⟩:=C.Tb
   exact⟨_,r1,r2,r1.non,C.kb.keeps r1.bel.stays,r1.bel,pp,l,mean,mg,mb,T.keeps r1.bel.stays⟩
  ·have C':=Kp C rb.bel (.ref e0)
   have hoA:AsX c A e0 nm hpos X=AsX {c with h₀:=g} A e0 nm hpos X:=rfl
   have fin:∀ k d H3 e2 h3 tk3 m3,(∀ e h' tk m',XPost K tb c m' M I k d H3 e h'->X (.ref e) {s with heap:=h',toks:=tk})->XPost K tb {c with h₀:=g} m3 M' I' k d H3 e2 h3->AsX c A e0 nm hpos X (.ref e2) {s with heap:=h3,toks:=tk3}:=by
    intro k d H3 e2 h3 tk3 m3 hp hq
    rw[hoA]
    refine asX (c:={c with h₀:=g}) (s:={s with heap:=h3,toks:=tk3}) C.hA C.fk (by show c.scope.names.lookup nm=_;rw[hs];exact hil) S'.F.above hq λ h4 tk4 m4 q4=>?_
    exact hp e2 h4 tk4 m4 ((q4.unreb rb).ext x')
   refine wpAny_execs_cons ?_
   refine raiH (c:={c with h₀:=g}) (s:={s with heap:=h2,toks:=tk2}) (L:=L.set i (some (.exc k d))) (H:=H') Y2 h51 C' hs ht2 S' ((LL.ext x').set hnd hix z') (by rfl) z' (λ D hD=>hx51 k D hsub.2 hD) hg hpl ha ?_
   ·rw[x_cons,x_rao] at p
    cases hl:evL G F as (L.set i (some (.exc k d))) H' with
    | bad=>rw[hl] at p;exact p.elim
    | exc k3 d3 H3=>
     rw[hl] at p
     exact λ e2 h3 tk3 m3 hq=>fin _ _ _ _ _ _ _ p hq
    | ok xs H3=>
     rw[hl,out_ok] at p
     simp only[out_ok]
     cases hal:zJ k2 xs with
     | none=>rw[hal] at p;exact p.elim
     | some al=>
      rw[hal] at p
      exact λ e2 h3 tk3 m3 hq=>fin _ _ _ _ _ _ _ p hq
noncomputable def SSpB(K:Frag)(tb:Tab)(G:Nat->Option V)(F:Fn)(W:Nat)(n:Nat)(fi:Fi)(x:S)(t:Stmt):Prop:=∀ (c:Cx) (A:Around) (s:Shared) (m:Str->Option Value) (M I:Led) (L:Lc) (H:Hp) (Q:Flow->Shared->Prop) (X:Value->Shared->Prop),
 c.base=c.h₀->Cok K false n 8 c A->c.scope=fi.sc->1<=s.toks->St K tb c.w c.h₀ c.L s.heap m M I H->LR K tb fi.ns m I (z6 M) L->PostS K tb fi c s M I (evS G F W x L H) Q X->wpAny (model pw c.w) A (exec t c.env) Q X s
noncomputable def V1(K:Frag)(tb:Tab)(G:Nat->Option V)(F:Fn)(W:Nat)(n:Nat)(fi:Fi)(x:S)(ts:List Stmt):Prop:=∀ (c:Cx) (A:Around) (s:Shared) (m:Str->Option Value) (M I:Led) (L:Lc) (H:Hp) (Q:Flow->Shared->Prop) (X:Value->Shared->Prop),
 c.base=c.h₀->Cok K false n 8 c A->c.scope=fi.sc->1<=s.toks->St K tb c.w c.h₀ c.L s.heap m M I H->LR K tb fi.ns m I (z6 M) L->PostS K tb fi c s M I (evS G F W x L H) Q X->wpAny (model pw c.w) A (execs ts c.env) Q X s
theorem z1J{x:S}{t:Stmt}(h:SSp K tb G F W false n fi x t):SSpB K tb G F W n fi x t:=λ c A s m M I L H Q X _=>h c A s m M I L H Q X
theorem z0I{x:S}{ts:List Stmt}(h:SSs K tb G F W false n fi x ts):V1 K tb G F W n fi x ts:=λ c A s m M I L H Q X _=>h c A s m M I L H Q X
theorem Yn{x r:S}{t:Stmt}{ts:List Stmt}(hx:SSpB K tb G F W n fi x t)(hr:V1 K tb G F W n fi r ts):V1 K tb G F W n fi (.cons x r) (t::ts):=by
 intro c A s m M I L H Q X hb C hs ht S LL p
 refine wpAny_execs_cons (wp1 ht (hx c A s m M I L H _ _ hb C hs ht S LL ?_))
 rw[x_cons] at p
 cases hev:evS G F W x L H with
 | next L' H'=>
  rw[hev] at p
  exact λ h' tk m' M' I' S' e l ht'=>hr c A _ m' M' I' L' H' _ _ hb C hs ht' S' l (PostS.ext e p)
 | cont L' H'=>rw[hev] at p;exact λ h' tk m' M' I' S' e l _=>p h' tk m' M' I' S' e l
 | ret v H'=>rw[hev] at p;exact λ a h' tk m' M' I' S' e l _=>p a h' tk m' M' I' S' e l
 | exc k d H'=>rw[hev] at p;exact p
 | bad=>rw[hev] at p;exact p
set_option tactic.hygienic true in
theorem Jr{e:E}{ck:Nat}{hb:S}{b₀:Stmt}{suite:List Stmt}{x cn nm:Str}{apos np hpos:Pos}(hnd:fi.ns.Nodup)(hx:yw fi j x=true)(hc:yC t=true)(h:SEp K tb G F false n fi e t)(hi:yw fi i nm=true)(hgl:vO fi cn=true)(Y:ClsK K tb ck D cn)(hh:SSs K tb G F W true n fi hb (b₀::suite)) :
  SSpB K tb G F W n fi (.try_ [j] e ck i hb) (.Try [.Assign [.Name x p1] t apos] [.ExceptHandler (some (.Name cn np)) (some nm) (b₀::suite) hpos] [] [] pos):=by
 intro c A s m M I L H Q X hbase C hs ht S LL p
 obtain⟨hix,hil⟩:=yX hi
 obtain⟨hjx,hjl⟩:=yX hx
 refine wpAny_Try_except (wpAny_execs_cons (wpAny_Assign_Name (wpT ht (h c A s m M I L H _ _ C hs ht S LL ?_)) (y5 hc)))
 rw[jM] at p
 cases hev:evE G F e L H with
 | ok v H'=>
  rw[hev] at p
  intro a h' tk M' I' S' e' z _
  exact ql (s:={s with heap:=h',toks:=tk}) C hs hjl S' λ h2 tk2 S2=>wpAny_execs_nil (wpAny_execs_nil (p h2 tk2 _ M' I' S2 e' ((LL.ext e').set hnd hjx z)))
 | bad=>rw[hev] at p;exact p.elim
 | exc k d H'=>
  rw[hev] at p
  intro e0 h' tk q htk
  change PostS K tb fi c s M I (if _ then YG _ else .bad) Q X at p
  split at p
  case isFalse=>exact p.elim
  rename_i hsub
  simp only[Bool.and_eq_true] at hsub
  have hab:=S.F.above
  refine Qp (s:={s with heap:=h',toks:=tk}) (P:=λ g=>g=c.h₀) (ck:=ck) (D:=D) (fi:=fi) C hs hil (of_decide_eq_true hgl) hab S.tw Y hsub.1 q (ht:=htk) (λ B Cb Dd h2 hb f ns u=>?_) λ g h2 tk2 M' I' ht2 rb S' x' z'=>?_
  ·obtain⟨pp,l,mean,mg,mb,T⟩:=C.T
   exact⟨c.h₀,rfl,⟨ns,λ b o z=>f.1 b o (hb b o (by rw[hbase];exact z)),hab⟩,λ _ z=>z,S.kin,C.B,pp,l,mean,mg,mb,T⟩
  ·subst rb
   have C':=Kp C C.B (.ref e0)
   refine hh c (A.mark (some (.ref e0))) {s with heap:=h2,toks:=tk2} _ M' I' (L.set i (some (.exc k d))) H' _ _ C' hs ht2 S' ((LL.ext x').set hnd hix z') ?_
   cases hev2:evS G F W hb (L.set i (some (.exc k d))) H' with
   | bad=>rw[hev2] at p;exact p.elim
   | next L2 H2=>rw[hev2] at p;exact p.elim
   | cont L2 H2=>rw[hev2] at p;exact p.elim
   | exc k3 d3 H3=>
    rw[hev2] at p
    intro e2 h3 tk3 m3 hq
    refine asX (s:={s with heap:=h3,toks:=tk3}) C.hA C.fk (by rw[hs];exact hil) hab hq λ h4 tk4 m4 q4=>?_
    exact p e2 h4 tk4 m4 (q4.ext x')
   | ret v H3=>
    rw[hev2] at p
    intro a h3 tk3 m3 M3 I3 S3 e3 z3
    refine wpAny_nameGoes (s:={s with heap:=h3,toks:=tk3}) (m:=m3) (by show c.scope.names.lookup nm=_;rw[hs];exact hil) S3.F.ns ?_ λ h4 m4 ns4 sb4=>?_
    ·show(c.scope.kind==.class||(c.scope.kind==.module&&_))=false
     rw[C.fk];rfl
    ·exact p a h4 (tk3+1) m4 M3 I3 ⟨S3.F.set ns4 sb4,λ p hp=>⟨(sb4.2 _ (S3.N p hp).2.1).trans (S3.N p hp).1,(S3.N p hp).2⟩,S3.nd,S3.ap,S3.ro,S3.kin,S3.tw⟩ (x'.trans e3) z3
end
noncomputable def z0N(t:Expr):Bool:=!Nat.beq t.ctorIdx 7
noncomputable def WH(t:Expr):Bool:=!Nat.beq t.ctorIdx 16
noncomputable def qH(t:Expr):Bool:=!Nat.beq t.ctorIdx 22
noncomputable def z1D(t:Expr):Bool:=!Nat.beq t.ctorIdx 20
noncomputable def VO(t:Expr):Bool:=!Nat.beq t.ctorIdx 26
theorem ZK(h:z0N t=true):∀ e k p,t≠.Set e k p:=by intro e k p q;subst q;cases h
theorem xd(h:WH t=true):∀ f a k p,t≠.Call f a k p:=by intro f a k p q;subst q;cases h
theorem xa(h:qH t=true):∀ e p,t≠.Starred e p:=by intro e p q;subst q;cases h
theorem Qq(h:z1D t=true):∀ o n p,t≠.Attribute o n p:=by intro e k p q;subst q;cases h
theorem V4(h:VO t=true):∀ o i,subscripted t false o i=operate [o,i] (getItem o i):=by intro o i;cases t<;>first | rfl | cases h
noncomputable def Wl(k:Bop)(o:Operator):Bool:=decide (o=qQ k)
theorem VY{k:Bop}{o:Operator}(h:Wl k o=true):o=qQ k:=of_decide_eq_true h
noncomputable def kD(k:Cop)(o:CmpOp):Bool:=decide (o=wo k)
theorem VN{k:Cop}{o:CmpOp}(h:kD k o=true):o=wo k:=of_decide_eq_true h
noncomputable def onK(t:Expr)(f:Expr->List Expr->Pos->Bool):Bool:=onCa t λ g ts ks p=>qX ks&&f g ts p
@[elab_as_elim] theorem eK{f:Expr->List Expr->Pos->Bool}{M:Expr->Prop}(h:onK t f=true)(k:∀ g ts p,f g ts p=true->M (.Call g ts [] p)):M t:=
 eCa h λ g ts ks p h=>K2 h λ h1 h=>eL h1 (k g ts p h)
noncomputable def Kk(t:Expr)(f:Str->List Expr->Bool):Bool:=onK t λ g ts _=>onN g λ x=>f x ts
@[elab_as_elim] theorem eKN{f:Str->List Expr->Bool}{M:Expr->Prop}(h:Kk t f=true)(k:∀ x q ts p,f x ts=true->M (.Call (.Name x q) ts [] p)):M t:=
 eK h λ g ts p h=>eN h λ x q h=>k x q ts p h
noncomputable def onKM(t:Expr)(f:Expr->Str->List Expr->Bool):Bool:=onK t λ g ts p=>VM g λ o x ap=>ap.endLine==p.line&&WH o&&f o x ts
@[elab_as_elim] theorem eKM{f:Expr->Str->List Expr->Bool}{M:Expr->Prop}(h:onKM t f=true)(k:∀ o x ap ts p,(ap.endLine==p.line)=true->WH o=true->f o x ts=true->M (.Call (.Attribute o x ap) ts [] p)):M t:=
 eK h λ g ts p h=>eAt h λ o x ap h=>K3 h λ h1 h2 h=>k o x ap ts p h1 h2 h
noncomputable def Jj(t:Expr)(f:Expr->CmpOp->Expr->Bool):Bool:=JR t λ l os rs=>on1 os λ o=>on1 rs λ r=>f l o r
@[elab_as_elim] theorem eC1{f:Expr->CmpOp->Expr->Bool}{M:Expr->Prop}(h:Jj t f=true)(k:∀ l o r p,f l o r=true->M (.Compare l [o] [r] p)):M t:=
 eCm h λ l os rs p h=>el1 h λ o h=>el1 h λ r h=>k l o r p h
@[elab_as_elim] theorem Q3{k:Cop}{o:CmpOp}{M:CmpOp->Prop}(h:kD k o=true)(q:M (wo k)):M o:=VN h ▸ q
@[elab_as_elim] theorem eBop{k:Bop}{o:Operator}{M:Operator->Prop}(h:Wl k o=true)(q:M (qQ k)):M o:=VY h ▸ q
noncomputable def onIS(t:Expr)(f:Expr->Expr->Expr->Bool):Bool:=Jj t λ l o r=>kD .in_ o&&Vg r λ x y=>onN x (λ _=>true)&&z04 y λ a b c=>noO a&&noO c&&onO b λ k=>f l x k
@[elab_as_elim] theorem eIS{f:Expr->Expr->Expr->Bool}{M:Expr->Prop}(h:onIS t f=true)(q:∀ l x p1 k p2 p3 p,f l (.Name x p1) k=true->M (.Compare l [.In] [.Subscript (.Name x p1) (.Slice none (some k) none p2) p3] p)):M t:=
 eC1 h λ l o r p h=>K2 h λ h1 h=>Q3 h1 (eSu h λ x y p3 h=>K2 h λ h0 h=>eN h0 (λ x p1 _ h=>eSl h λ a b c p2 h=>K3 h λ h1 h2 h=>eNo h1 (eNo h2 (eO h λ k h=>q l x p1 k p2 p3 p h))) h)
noncomputable def isB(a b:BoolOp):Bool:=decide (b=a)
@[elab_as_elim] theorem eBO{a b:BoolOp}{M:BoolOp->Prop}(h:isB a b=true)(q:M a):M b:=of_decide_eq_true h ▸ q
noncomputable def isU(a b:UnaryOp):Bool:=decide (b=a)
@[elab_as_elim] theorem eU{a b:UnaryOp}{M:UnaryOp->Prop}(h:isU a b=true)(q:M a):M b:=of_decide_eq_true h ▸ q
noncomputable def isBC(v:V)(k:Const):Bool:=match v with
 | .bool b=>match k with
  | .bool c=>b==c
  | _=>false
 | _=>false
noncomputable def isK(v:V)(k:Const):Bool:=match v with
 | .none=>match k with
  | .none=>true
  | _=>false
 | .int i=>match k with
  | .int j=>i==j
  | _=>false
 | .str s=>match k with
  | .str x=>x==z0 s&&qp s
  | _=>false
 | v=>isBC v k
theorem Ki{v:V}{c:Const}{M:V->Const->Prop}(h:isBC v c=true)(k:∀ b,M (.bool b) (.bool b)):M v c:=by
 cases v<;>first | exact ft h | skip
 cases c<;>first | exact ft h | exact eq_of_beq h ▸ k _
theorem isK_e{v:V}{c:Const}{M:V->Const->Prop}(h:isK v c=true)(k1:M .none .none)(k2:∀ b,M (.bool b) (.bool b))(k3:∀ i,M (.int i) (.int i))(k4:∀ s,zu s->M (.str s) (.str (z0 s))):M v c:=by
 cases v<;>first | exact ft h | exact Ki h k2 | skip
 ·cases c<;>first | exact ft h | exact k1
 ·cases c<;>first | exact ft h | exact eq_of_beq h ▸ k3 _
 ·cases c<;>first | exact ft h | exact K2 h λ h1 h2=>eB h1 (k4 _ (zk h2))
noncomputable def onJ:BoolOp->E->(BoolOp->E->E->Bool)->Bool
 | .And,.and_ a b,f=>f .And a b
 | .Or,.or_ a b,f=>f .Or a b
 | _,_,_=>false
theorem eJ{op:BoolOp}{e:E}{f:BoolOp->E->E->Bool}{M:BoolOp->E->Prop}(h:onJ op e f=true)(k1:∀ a b,f .And a b=true->M .And (.and_ a b))(k2:∀ a b,f .Or a b=true->M .Or (.or_ a b)):M op e:=by
 cases op<;>cases e<;>first | exact k1 _ _ h | exact k2 _ _ h | cases h
section
variable (gn:Nat->Option Str)(an:List (List Nat))(hd:Bool)(fi:Fi)
mutual
noncomputable def okE:Nat->E->Expr->Bool
 | 0,_,_=>false
 | n+1,e,t=>match e with
  | .cst v=>onC t λ c=>isK v c
  | .loc i=>onN t λ x=>yw fi i x
  | .glb i=>onN t λ x=>jQ gn fi i x
  | .bop k a b=>Qv t λ l op r=>Wl k op&&okE n a l&&okE n b r
  | .cmp k a b=>Jj t λ l op r=>kD k op&&z0N r&&okE n a l&&okE n b r
  | .cmp2 _ _ _ _ _=>false
  | .inSl a l k=>onIS t λ u x kt=>okE n a u&&okE n l x&&okE n k kt
  | .and_ a b=>Vk t λ op ts=>isB .And op&&okB n .And (.and_ a b) ts
  | .or_ a b=>Vk t λ op ts=>isB .Or op&&okB n .Or (.or_ a b) ts
  | .not_ a=>Qm t λ op l=>isU .Not op&&okE n a l
  | .neg a=>Qm t λ op l=>isU .USub op&&okE n a l
  | .ite c a b=>onIf t λ t l r=>okT n c t&&okE n a l&&okE n b r
  | .bi k as=>Kk t λ x ts=>!hd&&x==(biP k).1&&decide (fi.sc.names.lookup (biP k).1=some .globalImplicit)&&onc ts λ t ts=>zt (t::ts)&&okL n as (t::ts)
  | .int_ a=>Kk t λ x ts=>x==("int":Str)&&decide (fi.sc.names.lookup ("int":Str)=some .globalImplicit)&&on1 ts λ t=>zt [t]&&okE n a t
  | .call f as=>onK t λ t ts _=>!hd&&z1D t&&zt ts&&okE n f t&&okL n as ts
  | .me k o as=>onKM t λ ot x ts=>okE n o ot&&qy as λ a r=>match k with
   | .find=>x==("find":Str)&&wV r (on1 ts λ t=>qH t&&okE n a t)
   | .count=>x==("count":Str)&&wV r (on1 ts λ t=>qH t&&okE n a t)
   | .split=>x==("split":Str)&&wV r (on1 ts λ t=>qH t&&okE n a t)
   | .get=>x==("get":Str)&&qy r λ b r=>wV r (on2 ts λ t u=>qH t&&qH u&&okE n a t&&okE n b u)
   | .replace=>x==("replace":Str)&&j0 a λ v=>VH v λ d=>on1 d λ d=>qy r λ b r=>wV r (j0 b λ v=>VH v λ w=>qX w&&on2 ts λ t u=>onC t λ y=>K6 y λ y=>onC u λ z=>K6 z λ z=>y==z0 [d]&&z==z0 []&&qp [d])
  | .attr o nm=>VM t λ ot x _=>x==z0 nm&&an.contains nm&&WH ot&&okE n o ot
  | .slc o lo hi=>Vg t λ l r=>onN l (λ _=>true)&&okE n o l&&z04 r λ u v w=>noO w&&okP n lo u&&okP n hi v
  | .idx o i=>Vg t λ l r=>VO r&&okE n o l&&okE n i r
  | .tup as=>Vr t λ ts=>okL n as ts
  | .lst as=>onLi t λ ts=>okL n as ts
  | .dct ks vs=>onDi t λ kt vt=>okD gn fi ks vs kt vt
  | .nil=>true
  | .cons _ _=>false
noncomputable def okP:Nat->E->Option Expr->Bool
 | 0,_,_=>false
 | n+1,e,t=>match t with
  | none=>j0 e λ v=>Jv v true
  | some t=>okE n e t
noncomputable def okL:Nat->E->List Expr->Bool
 | 0,_,_=>false
 | n+1,e,ts=>match ts with
  | []=>wV e true
  | t::ts=>qy e λ a r=>qH t&&okE n a t&&okL n r ts
noncomputable def okB:Nat->BoolOp->E->List Expr->Bool
 | 0,_,_,_=>false
 | n+1,op,e,ts=>match ts with
  | []=>false
  | t::ts=>match ts with
   | []=>okE n e t
   | u::ts=>onJ op e λ op a b=>okE n a t&&okB n op b (u::ts)
noncomputable def okW:Nat->BoolOp->E->List Expr->Bool
 | 0,_,_,_=>false
 | n+1,op,e,ts=>match ts with
  | []=>false
  | t::ts=>match ts with
   | []=>okT n e t
   | u::ts=>onJ op e λ op a b=>okT n a t&&okW n op b (u::ts)
noncomputable def okT:Nat->E->Expr->Bool
 | 0,_,_=>false
 | n+1,e,t=>match e with
  | .not_ a=>Qm t λ op l=>isU .Not op&&okT n a l
  | .and_ a b=>Vk t λ op ts=>isB .And op&&okW n .And (.and_ a b) ts
  | .or_ a b=>Vk t λ op ts=>isB .Or op&&okW n .Or (.or_ a b) ts
  | .cmp k a b=>Jj t λ l op r=>kD k op&&z0N r&&okE n a l&&okE n b r
  | .cmp2 k k2 a b c=>JR t λ l os rs=>on2 os λ o o'=>on2 rs λ r r'=>kD k o&&kD k2 o'&&z0N r'&&okE n a l&&(okE n b r&&okE n c r')
  | .inSl a l k=>onIS t λ u x kt=>okE n a u&&okE n l x&&okE n k kt
  | .loc i=>onN t (λ _=>true)&&okE n (.loc i) t
  | .call f as=>onK t (λ _ _ _=>true)&&okE n (.call f as) t
  | .idx o i=>Vg t (λ _ _=>true)&&okE n (.idx o i) t
  | .cst v=>onC t (λ c=>isBC v c)&&okE n (.cst v) t
  | _=>false
end
end
structure AmbK(K:Frag)(tb:Tab)(G:Nat->Option V)(gn:Nat->Option Str)(an:List (List Nat)):Prop where
 W:Amb K tb G gn
 C:AmbC K tb
 A:AmbA K tb an
 X:AmbX K tb an
section
variable {K:Frag}{tb:Tab}{G:Nat->Option V}{gn:Nat->Option Str}{an:List (List Nat)}{F:Fn}{hd:Bool}{n:Nat}{fi:Fi}
theorem z2v:SEp K tb G F hd n fi .nil t:=by
 intro c A s m M I L H Q X C hs ht S LL p
 exact p.elim
theorem z0A(i:Nat)(L:Lc)(H:Hp):evT G F (.loc i) L H=(evE G F (.loc i) L H).bind λ x H=>lift H (w9 H x):=rfl
theorem wI(Y:AmbK K tb G gn an)(hF:hd=false->Xf K tb F n):∀ j:Nat,
  (∀ e t,okE gn an hd fi j e t=true->SEp K tb G F hd n fi e t)/\(∀ e t,okP gn an hd fi j e t=true->Wg K tb G F hd n fi e t)/\(∀ e ts,okL gn an hd fi j e ts=true->SLp K tb G F hd n fi e ts) /\
  (∀ op e ts,okB gn an hd fi j op e ts=true->SBp K tb G F hd n fi op e ts)/\(∀ op e ts,okW gn an hd fi j op e ts=true->SWp K tb G F hd n fi op e ts)/\(∀ e t,okT gn an hd fi j e t=true->STp K tb G F hd n fi e t):=by
 intro j
 induction j with
 | zero=>exact⟨λ _ _ h=>(by cases h),λ _ _ h=>(by cases h),λ _ _ h=>(by cases h),λ _ _ _ h=>(by cases h),λ _ _ _ h=>(by cases h),λ _ _ h=>(by cases h)⟩
 | succ j ih=>
  obtain⟨iE,iP,iL,iB,iW,iT⟩:=ih
  have hE:∀ e t,okE gn an hd fi (j+1) e t=true->SEp K tb G F hd n fi e t:=by
   intro e t h
   cases e with
   | cst v=>exact eC h λ c k p h=>isK_e (M:=λ v c=>SEp K tb G F hd n fi (.cst v) (.Constant c k p)) h KZ (λ _=>JN) (λ _=>z2x) λ _ o=>z1F o
   | loc i=>exact eN h λ x p h=>z2S h
   | glb i=>exact eN h λ x p h=>z24 Y.W h
   | bop k a b=>exact eBin h λ l o r p h=>K3 h λ h1 h2 h3=>eBop h1 (z1R (iE _ _ h2) (iE _ _ h3))
   | cmp k a b=>exact eC1 h λ l o r p h=>K4 h λ h1 h2 h3 h4=>Q3 h1 (z20 Y.W (ZK h2) (iE _ _ h3) (iE _ _ h4))
   | cmp2=>cases h
   | inSl a l k=>exact eIS h λ _ _ _ _ _ _ _ h=>K3 h λ h1 h2 h3=>z0t (iE _ _ h1) (iE _ _ h2) (iE _ _ h3)
   | and_ a b=>exact eBo h λ o l p h=>K2 h λ h1 h=>eBO h1 (jU (iB _ _ _ h))
   | or_ a b=>exact eBo h λ o l p h=>K2 h λ h1 h=>eBO h1 (jU (iB _ _ _ h))
   | not_ a=>exact eUn h λ o l p h=>K2 h λ h1 h=>eU h1 (z2n (iE _ _ h))
   | neg a=>exact eUn h λ o l p h=>K2 h λ h1 h=>eU h1 (z2u (iE _ _ h))
   | ite c a b=>exact eIf h λ _ _ _ _ h=>K3 h λ h1 h2 h3=>z2W (iT _ _ h1) (iE _ _ h2) (iE _ _ h3)
   | bi k as=>exact eKN h λ x q ts p h=>K4 h λ h1 h2 h3 h=>eB h2 (ec h λ t ts h=>K2 h λ h4 h5=>se_bi Y.W (nB h1) (of_decide_eq_true h3) h4 (iL _ _ h5))
   | int_ a=>exact eKN h λ x q ts p h=>K3 h λ h1 h3 h=>eB h1 (el1 h λ t h=>K2 h λ h4 h5=>z05 Y.W (of_decide_eq_true h3) h4 (iE _ _ h5))
   | call f as=>exact eK h λ t ts p h=>K5 h λ h1 h2 h3 h4 h5=>Jb Y.W Y.C (hF (nB h1)) (nB h1) (Qq h2) h3 (iE _ _ h4) (iL _ _ h5)
   | me k o as=>
    refine eKM h λ ot x ap ts p hl hc h=>K2 h λ ho h=>YY h λ a r h=>?_
    cases k with
    | find=>exact K2 h λ h1 h=>eB h1 (eNil h λ h=>el1 h λ t h=>K2 h λ h2 h=>Jp (xd hc) hl (xa h2) (iE _ _ ho) (iE _ _ h))
    | count=>exact K2 h λ h1 h=>eB h1 (eNil h λ h=>el1 h λ t h=>K2 h λ h2 h=>Qn (xd hc) hl (xa h2) (iE _ _ ho) (iE _ _ h))
    | split=>exact K2 h λ h1 h=>eB h1 (eNil h λ h=>el1 h λ t h=>K2 h λ h2 h=>QY (xd hc) hl (xa h2) (iE _ _ ho) (iE _ _ h))
    | get=>exact K2 h λ h1 h=>eB h1 (YY h λ b r h=>eNil h λ h=>el2 h λ t u h=>K4 h λ h1 h2 h3 h4=>z3p (xd hc) hl (xa h1) (xa h2) (iE _ _ ho) (iE _ _ h3) (iE _ _ h4))
    | replace=>
     refine K2 h λ h1 h=>eB h1 (V9 h λ v h=>eVs h λ d h=>el1 h λ d h=>YY h λ b r h=>eNil h λ h=>V9 h λ v h=>eVs h λ w h=>K2 h λ h1 h=>eL h1 (el2 h λ t u h=>?_))
     exact eC h λ y _ _ h=>eCs h λ y h=>eC h λ z _ _ h=>eCs h λ z h=>K3 h λ h1 h2 _=>eB h1 (eB h2 (XN (xd hc) hl (iE _ _ ho)))
   | attr o nm=>exact eAt h λ _ _ _ h=>K4 h λ h1 h2 h3 h4=>eB h1 (z0b Y.A (List.mem_of_elem_eq_true h2) (xd h3) (iE _ _ h4) (hexOk Y.X (List.mem_of_elem_eq_true h2)))
   | slc o lo hi=>exact eSu h λ l r p h=>K3 h λ h0 h1 h=>eN h0 (λ _ _ _ h1=>eSl h λ _ _ _ _ h=>K3 h λ h2 h3 h4=>eNo h2 (z2c (iE _ _ h1) (iP _ _ h3) (iP _ _ h4))) h1
   | idx o i=>exact eSu h λ _ _ _ h=>K3 h λ h1 h2 h3=>z38 (V4 h1) (iE _ _ h2) (iE _ _ h3)
   | tup as=>exact eTu h λ _ _ _ h=>z25 (iL _ _ h)
   | lst as=>exact eLi h λ _ _ h=>z2N (iL _ _ h)
   | dct ks vs=>exact eDi h λ _ _ _ h=>z2F Y.W h
   | nil=>exact z2v
   | cons=>cases h
  refine⟨hE,?_,?_,?_,?_,?_⟩
  ·intro e t h
   cases t with
   | none=>exact V9 h λ v h=>eVn h λ _=>rfl
   | some t=>exact iE _ _ h
  ·intro e ts h
   cases ts with
   | nil=>exact eNil h λ _=>z2p
   | cons t ts=>exact YY h λ a r h=>K3 h λ h1 h2 h3=>JH (xa h1) (iE _ _ h2) (iL _ _ h3)
  ·intro op e ts h
   cases ts with
   | nil=>cases h
   | cons t ts=>
    cases ts with
    | nil=>exact z3f (iE _ _ h)
    | cons u ts=>exact eJ (M:=λ op e=>SBp K tb G F hd n fi op e (t::u::ts)) h (λ a b h=>K2 h λ h1 h2=>z2M (iE _ _ h1) (iB _ _ _ h2)) λ a b h=>K2 h λ h1 h2=>sb_or (iE _ _ h1) (iB _ _ _ h2)
  ·intro op e ts h
   cases ts with
   | nil=>cases h
   | cons t ts=>
    cases ts with
    | nil=>
     cases op
     ·exact XI (iT _ _ h)
     ·exact V8 (iT _ _ h)
    | cons u ts=>exact eJ (M:=λ op e=>SWp K tb G F hd n fi op e (t::u::ts)) h (λ a b h=>K2 h λ h1 h2=>z3u (iT _ _ h1) (iW _ _ _ h2)) λ a b h=>K2 h λ h1 h2=>sw_or (iT _ _ h1) (iW _ _ _ h2)
  ·intro e t h
   cases e with
   | not_ a=>exact eUn h λ o l p h=>K2 h λ h1 h=>eU h1 (z2o (iT _ _ h))
   | and_ a b=>exact eBo h λ o l p h=>K2 h λ h1 h=>eBO h1 (jH (iW _ _ _ h))
   | or_ a b=>exact eBo h λ o l p h=>K2 h λ h1 h=>eBO h1 (jH (iW _ _ _ h))
   | cmp k a b=>exact eC1 h λ l o r p h=>K4 h λ h1 h2 h3 h4=>Q3 h1 (z2g Y.W (ZK h2) (iE _ _ h3) (iE _ _ h4))
   | cmp2 k k2 a b c=>exact eCm h λ l os rs p h=>el2 h λ o o' h=>el2 h λ r r' h=>K5 h λ h1 h2 h3 h4 h=>K2 h λ h5 h6=>Q3 h1 (Q3 h2 (JZ Y.W (ZK h3) (iE _ _ h4) (iE _ _ h5) (iE _ _ h6)))
   | inSl a l k=>exact eIS h λ _ _ _ _ _ _ _ h=>K3 h λ h1 h2 h3=>Jc (iE _ _ h1) (iE _ _ h2) (iE _ _ h3)
   | loc i=>exact K2 h λ h0 h=>eN h0 (λ x p _ h=>Yc (λ L H=>z0A i L H) (λ _ _=>rfl) (iE _ _ h)) h
   | call f as=>exact K2 h λ h0 h=>eK h0 (λ _ _ _ _ h=>Yc (λ L H=>rfl) (λ _ _=>rfl) (iE _ _ h)) h
   | idx o i=>exact K2 h λ h0 h=>eSu h0 (λ _ _ _ _ h=>Yc (λ L H=>rfl) (λ _ _=>rfl) (iE _ _ h)) h
   | cst v=>exact K2 h λ h0 h=>eC h0 (λ c k p h1 h=>Ki (M:=λ v c=>okE gn an hd fi j (.cst v) (.Constant c k p)=true->STp K tb G F hd n fi (.cst v) (.Constant c k p)) h1 (λ _ h=>Yc (λ L H=>rfl) (λ _ _=>rfl) (iE _ _ h)) h) h
   | _=>cases h
end
section
variable (gn:Nat->Option Str)(an:List (List Nat))(rn cn:Nat->Option Str)(hd:Bool)(fi:Fi)
abbrev fE:Nat:=40
noncomputable def Qt(t:Stmt)(f:Expr->Expr->Bool):Bool:=onAs t λ l v=>on1 l λ x=>f x v
@[elab_as_elim] theorem eA1{t:Stmt}{f:Expr->Expr->Bool}{M:Stmt->Prop}(h:Qt t f=true)(k:∀ x v p,f x v=true->M (.Assign [x] v p)):M t:=eAs h λ l v p h=>el1 h λ x h=>k x v p h
noncomputable def onR1(t:Stmt)(f:Str->List Expr->Bool):Bool:=onRa t λ a b=>noO b&&onO a λ e=>Kk e f
@[elab_as_elim] theorem eR1{t:Stmt}{f:Str->List Expr->Bool}{M:Stmt->Prop}(h:onR1 t f=true)(k:∀ x q ts p p2,f x ts=true->M (.Raise (some (.Call (.Name x q) ts [] p)) none p2)):M t:=
 eRa h λ a b p2 h=>K2 h λ h1 h=>eNo h1 (eO h λ e h=>eKN h λ x q ts p h=>k x q ts p p2 h)
noncomputable def onH(t:ExceptHandler)(f:Str->Str->List Stmt->Bool):Bool:=match t with
 | .ExceptHandler c nm b _=>onO c λ c=>onN c λ c=>onO nm λ nm=>f c nm b
@[elab_as_elim] theorem eH{t:ExceptHandler}{f:Str->Str->List Stmt->Bool}{M:ExceptHandler->Prop}(h:onH t f=true)(k:∀ c q nm b p,f c nm b=true->M (.ExceptHandler (some (.Name c q)) (some nm) b p)):M t:=by
 cases t with
 | ExceptHandler c nm b p=>
  change (onO c λ c=>onN c λ c=>onO nm λ nm=>f c nm b)=true at h
  exact eO h λ c h=>eN h λ c q h=>eO h λ nm h=>k c q nm b p h
noncomputable def onRl(x:S)(f:Nat->E->Bool):Bool:=match x with
 | .rai k as=>f k as
 | _=>false
noncomputable def onSc(x:S)(f:S->S->Bool):Bool:=match x with
 | .cons a r=>f a r
 | _=>false
noncomputable def isSn(x:S):Bool:=match x with
 | .nil=>true
 | _=>false
@[elab_as_elim] theorem eRl{x:S}{f:Nat->E->Bool}{M:S->Prop}(h:onRl x f=true)(k:∀ i as,f i as=true->M (.rai i as)):M x:=by cases x<;>first | exact k _ _ h | cases h
@[elab_as_elim] theorem eSc{x:S}{f:S->S->Bool}{M:S->Prop}(h:onSc x f=true)(k:∀ i as,f i as=true->M (.cons i as)):M x:=by cases x<;>first | exact k _ _ h | cases h
@[elab_as_elim] theorem eSn{x:S}{M:S->Prop}(h:isSn x=true)(k:M .nil):M x:=by cases x<;>first | exact k | cases h
noncomputable def onS1(x:S)(f:E->Bool):Bool:=onSc x λ a r=>isSn r&&onRl a λ k as=>Nat.beq k 1&&f as
@[elab_as_elim] theorem eN1{n:Nat}{M:Nat->Prop}(h:Nat.beq n k=true)(q:M k):M n:=Nat.eq_of_beq_eq_true h ▸ q
@[elab_as_elim] theorem eS1{x:S}{f:E->Bool}{M:S->Prop}(h:onS1 x f=true)(k:∀ as,f as=true->M (.cons (.rai 1 as) .nil)):M x:=
 eSc h λ a r h=>K2 h λ h1 h=>eSn h1 (eRl h λ i as h=>K2 h λ h1 h=>eN1 h1 (k as h))
mutual
noncomputable def okS:Nat->S->Stmt->Bool
 | 0,_,_=>false
 | n+1,x,t=>match x with
  | .asg i e=>Qt t λ x t=>onN x λ x=>yw fi i x&&yC t&&okE gn an hd fi fE e t
  | .asgT is e=>Qt t λ x t=>Vr x λ ts=>!hd&&jb fi is ts&&kn t&&okE gn an hd fi fE e t
  | .asgA o nm e=>Qt t λ x t=>VM x λ ot x _=>x==z0 nm&&an.contains nm&&yC t&&okE gn an hd fi fE o ot&&okE gn an hd fi fE e t
  | .aug i k e=>onAu t λ x op t=>onN x λ x=>yw fi i x&&Wl k op&&okE gn an hd fi fE e t
  | .app o a=>z0x t λ t=>onKM t λ ot x ts=>x==("append":Str)&&on1 ts λ t=>qH t&&okE gn an hd fi fE o ot&&okE gn an hd fi fE a t
  | .ex e=>z0x t λ t=>yC t&&okE gn an hd fi fE e t
  | .if_ c a b=>Qe t λ t ta tb=>okT gn an hd fi fE c t&&qk n a ta&&qk n b tb
  | .whl c b=>onWh t λ t tb e=>qX e&&okT gn an hd fi fE c t&&qk n b tb
  | .forE is e b=>z0q t λ t it tb el=>qX el&&!hd&&jO fi is t&&W5 it&&(okE gn an hd fi fE e it&&qk n b tb)
  | .forR i as b=>z0q t λ x it tb el=>onN x (λ _=>true)&&Kk it λ r ts=>qX el&&!hd&&r==("range":Str)&&jO fi [i] x&&(decide (fi.sc.names.lookup ("range":Str)=some .globalImplicit)&&onc ts λ t ts=>zt (t::ts)&&okL gn an hd fi fE as (t::ts)&&qk n b tb)
  | .ret e=>onRe t λ v=>match v with
   | none=>j0 e λ v=>Jv v true
   | some t=>okE gn an hd fi fE e t
  | .rai k as=>onR1 t λ nm ts=>!hd&&rn k==some nm&&vO fi nm&&zt ts&&okL gn an hd fi fE as ts
  | .try_ is e k i r=>onTr t λ b hs el fb=>qX el&&qX fb&&Nat.beq k 0&&onS1 r λ as=>on1 b λ b=>Qt b λ x t=>Vr x λ tts=>on1 hs λ hb=>onH hb λ c nm rb=>on1 rb λ rb=>onR1 rb λ nm2 ts=>
   !hd&&jb fi is tts&&decide (is.length≠1)&&kn t&&(okE gn an false fi fE e t&&yw fi i nm&&vO fi c&&cn 0==some c&&(rn 1==some nm2&&vO fi nm2&&zt ts&&okL gn an true fi fE as ts))
  | .cont=>onCo t true
  | .pass=>onPa t true
  | .bad=>true
  | .nil=>false
  | .cons _ _=>false
noncomputable def qk:Nat->S->List Stmt->Bool
 | 0,_,_=>false
 | n+1,x,ts=>match x with
  | .nil=>qX ts
  | .cons a r=>onc ts λ t ts=>okS n a t&&qk n r ts
  | _=>false
end
end
structure AmbS(K:Frag)(tb:Tab)(rn cn:Nat->Option Str):Prop where
 r:∀ k nm,rn k=some nm->∃ Ca,RaiK K tb k Ca nm/\(k=1->Ca=51)
 c:∀ k nm,cn k=some nm->∃ D,ClsK K tb k D nm
 x51:∀ c D,c≠1->tb.x c=some D->D≠51
section
variable {K:Frag}{tb:Tab}{G:Nat->Option V}{gn:Nat->Option Str}{an:List (List Nat)}{rn cn:Nat->Option Str}{F:Fn}{W:Nat}{hd:Bool}{n:Nat}{fi:Fi}
theorem z2Q{t:Stmt}:SSp K tb G F W hd n fi .bad t:=by
 intro c A s m M I L H Q X C hs ht S LL p
 exact p.elim
theorem vR(Y:AmbK K tb G gn an)(Z:AmbS K tb rn cn)(hnd:fi.ns.Nodup)(hF:Xf K tb F n):∀ j:Nat,
  (∀ x t,okS gn an rn cn hd fi j x t=true->SSp K tb G F W hd n fi x t)/\(∀ x ts,qk gn an rn cn hd fi j x ts=true->SSs K tb G F W hd n fi x ts):=by
 have eE:∀ e t,okE gn an hd fi fE e t=true->SEp K tb G F hd n fi e t:=(wI Y (λ _=>hF) fE).1
 have eL_:∀ e t,okL gn an hd fi fE e t=true->SLp K tb G F hd n fi e t:=(wI Y (λ _=>hF) fE).2.2.1
 have eT:∀ e t,okT gn an hd fi fE e t=true->STp K tb G F hd n fi e t:=(wI Y (λ _=>hF) fE).2.2.2.2.2
 intro j
 induction j with
 | zero=>exact⟨λ _ _ h=>(by cases h),λ _ _ h=>(by cases h)⟩
 | succ j ih=>
  obtain⟨iS,iSs⟩:=ih
  refine⟨?_,?_⟩
  ·intro x t h
   cases x with
   | asg i e=>exact eA1 h λ _ _ _ h=>eN h λ _ _ h=>K3 h λ h1 h2 h3=>z2X hnd h1 h2 (eE _ _ h3)
   | asgT is e=>exact eA1 h λ _ _ _ h=>eTu h λ _ _ _ h=>K4 h λ h1 h2 h3 h4=>z0V hnd (nB h1) h2 h3 (eE _ _ h4)
   | asgA o nm e=>exact eA1 h λ _ _ _ h=>eAt h λ _ _ _ h=>K5 h λ h1 h2 h3 h4 h5=>eB h1 (J0 Y.A (List.mem_of_elem_eq_true h2) h3 (eE _ _ h4) (eE _ _ h5))
   | aug i k e=>exact eAu h λ _ _ _ _ h=>eN h λ _ _ h=>K3 h λ h1 h2 h3=>eBop h2 (z37 hnd h1 (eE _ _ h3))
   | app o a=>exact eEx h λ _ _ h=>eKM h λ _ _ _ _ _ hl hc h=>K2 h λ h1 h=>eB h1 (el1 h λ _ h=>K3 h λ h1 h2 h3=>z2I (xd hc) hl (xa h1) (eE _ _ h2) (eE _ _ h3))
   | ex e=>exact eEx h λ _ _ h=>K2 h λ h1 h2=>ss_ex h1 (eE _ _ h2)
   | if_ c a b=>exact eIfS h λ _ _ _ _ h=>K3 h λ h1 h2 h3=>ss_if (eT _ _ h1) (iSs _ _ h2) (iSs _ _ h3)
   | whl c b=>exact eWh h λ _ _ _ _ h=>K3 h λ h1 h2 h3=>eL h1 (z35 (eT _ _ h2) (iSs _ _ h3))
   | forE is e b=>exact eFo h λ _ _ _ _ _ h=>K5 h λ h1 h2 h3 h4 h=>K2 h λ h5 h6=>eL h1 (Jf Y.W hnd (nB h2) h3 h4 (eE _ _ h5) (iSs _ _ h6))
   | forR i as b=>
    exact eFo h λ _ _ _ _ _ h=>K2 h λ h0 h=>eN h0 (λ _ _ _ h=>eKN h λ _ _ _ _ h=>K5 h λ h1 h2 h3 h4 h=>K2 h λ h5 h=>eL h1 (eB h3 (ec h λ _ _ h=>K3 h λ h6 h7 h8=>
     Jd Y.W hnd (nB h2) h4 (of_decide_eq_true h5) h6 (eL_ _ _ h7) (iSs _ _ h8)))) h
   | ret e=>
    refine eRe h λ v _ h=>?_
    cases v with
    | none=>exact V9 h λ _ h=>eVn h λ _=>z11
    | some t=>exact z1N (eE _ _ h)
   | rai k as=>exact eR1 h λ _ _ _ _ _ h=>K5 h λ h1 h2 h3 h4 h5=>(Z.r _ _ (eq_of_beq h2)).elim λ Ca hR=>z2s hR.1 (nB h1) h3 h4 (eL_ _ _ h5)
   | try_ is e k i r=>
    refine eTr h λ _ _ _ _ _ h=>K4 h λ h1 h2 h3 h=>eL h1 (eL h2 (eN1 h3 (eS1 h λ as h=>el1 h λ _ h=>eA1 h λ _ _ _ h=>eTu h λ _ _ _ h=>el1 h λ _ h=>eH h λ _ _ _ _ _ h=>el1 h λ _ h=>eR1 h λ _ _ _ _ _ h=>?_)))
    refine K5 h λ h1 h2 h3 h4 h=>K5 h λ h5 h6 h7 h8 h=>K4 h λ h9 h10 h11 h12=>?_
    have h0:=nB h1
    clear h1 iS iSs eE eL_ eT
    subst h0
    obtain⟨Ca,hR,h51⟩:=Z.r _ _ (eq_of_beq h9)
    obtain⟨D,hD⟩:=Z.c _ _ (eq_of_beq h8)
    exact J4 hnd h2 (of_decide_eq_true h3) h4 ((wI Y (λ _=>hF) fE).1 _ _ h5) h6 h7 hD Z.x51 hR (h51 rfl) h10 h11 ((wI Y (λ _=>hF) fE).2.2.1 _ _ h12)
   | cont=>exact eCo h λ _ _=>z07
   | pass=>exact ePa h λ _ _=>JU
   | bad=>exact z2Q
   | nil=>cases h
   | cons=>cases h
  ·intro x ts h
   cases x with
   | nil=>exact eL h z1M
   | cons a r=>exact ec h λ _ _ h=>K2 h λ h1 h2=>z0n (iS _ _ h1) (iSs _ _ h2)
   | _=>cases h
end
structure FRow where
 k:Nat
 a:Addr
 st:Stmt
 q:Str
 pm:Value
 cd:Value
 ns:List Str
noncomputable def ftab:List FRow:=[
 ⟨0,91,bd 8,"capital",(.str "f77.squeeze" 286),.ref 90,[("sign":Str)]⟩,
 ⟨1,105,bd 10,"count_end",(.str "f77.squeeze" 286),.ref 104,[("text":Str),("at":Str),("count":Str),("end":Str)]⟩,
 ⟨2,112,bd 11,"hollerith",(.str "f77.squeeze" 286),.ref 111,[("text":Str),("at":Str),("count":Str),("begin":Str),("inner":Str)]⟩,
 ⟨3,119,bd 12,"squeeze",(.str "f77.squeeze" 286),.ref 118,[("text":Str),("out":Str),("last":Str),("at":Str),("sign":Str),("constant":Str),("end":Str),("part":Str)]⟩,
 ⟨4,126,bd 13,"squeezed",(.str "f77.squeeze" 286),.ref 125,[("text":Str),("row":Str),("sign":Str),("is_inside":Str)]⟩,
 ⟨5,133,bd 14,"depths",(.str "f77.squeeze" 286),.ref 132,[("row":Str),("out":Str),("depth":Str),("is_inside":Str),("sign":Str)]⟩,
 ⟨6,140,bd 15,"closing",(.str "f77.squeeze" 286),.ref 139,[("row":Str),("at":Str),("levels":Str),("end":Str)]⟩,
 ⟨7,188,bd 22,"name_end",(.str "f77.classify" 374),.ref 187,[("row":Str),("at":Str),("end":Str)]⟩,
 ⟨8,195,bd 23,"digits_end",(.str "f77.classify" 374),.ref 194,[("row":Str),("at":Str),("end":Str)]⟩,
 ⟨9,209,bd 25,"is_balanced",(.str "f77.classify" 374),.ref 208,[("row":Str),("levels":Str),("depth":Str),("place":Str)]⟩,
 ⟨10,216,bd 26,"equals_at",(.str "f77.classify" 374),.ref 215,[("row":Str),("levels":Str),("found":Str),("place":Str)]⟩,
 ⟨11,244,bd 30,"word_of_type",(.str "f77.classify" 374),.ref 243,[("row":Str),("text":Str),("word":Str),("at":Str),("end":Str)]⟩,
 ⟨12,251,bd 31,"word_by_begin",(.str "f77.classify" 374),.ref 250,[("row":Str),("text":Str),("word":Str)]⟩,
 ⟨13,258,bd 32,"classify",(.str "f77.classify" 374),.ref 257,[("row":Str),("levels":Str),("at":Str),("has_comma":Str)]⟩,
 ⟨14,265,bd 34,"kind_at",(.str "f77.peek" 559),.ref 264,[("tokens":Str),("at":Str)]⟩,
 ⟨15,272,bd 35,"is_op",(.str "f77.peek" 559),.ref 271,[("tokens":Str),("at":Str),("text":Str)]⟩,
 ⟨16,279,bd 36,"need_op",(.str "f77.peek" 559),.ref 278,[("tokens":Str),("at":Str),("text":Str)]⟩,
 ⟨17,286,bd 37,"need_name",(.str "f77.peek" 559),.ref 285,[("tokens":Str),("at":Str)]⟩,
 ⟨18,300,bd 39,"need_end",(.str "f77.peek" 559),.ref 299,[("tokens":Str),("at":Str)]⟩,
 ⟨19,315,bd 48,"priority_at",(.str "f77.exprs" 621),.ref 314,[("tokens":Str),("at":Str)]⟩,
 ⟨20,322,bd 49,"parse_expr",(.str "f77.exprs" 621),.ref 321,[("tokens":Str),("at":Str)]⟩,
 ⟨21,329,bd 50,"parse_binary",(.str "f77.exprs" 621),.ref 328,[("tokens":Str),("at":Str),("least":Str),("tree":Str),("was_relation":Str),("level":Str),("op":Str),("right":Str)]⟩,
 ⟨22,336,bd 51,"parse_first",(.str "f77.exprs" 621),.ref 335,[("tokens":Str),("at":Str),("least":Str),("tree":Str),("sign":Str)]⟩,
 ⟨23,343,bd 52,"parse_primary",(.str "f77.exprs" 621),.ref 342,[("tokens":Str),("at":Str),("kind":Str)]⟩,
 ⟨24,350,bd 53,"constant_of",(.str "f77.exprs" 621),.ref 349,[("kind":Str),("value":Str),("sign":Str)]⟩,
 ⟨25,357,bd 54,"parse_bracket",(.str "f77.exprs" 621),.ref 356,[("tokens":Str),("at":Str),("left":Str),("comma":Str),("right":Str),("end":Str),("tree":Str)]⟩,
 ⟨26,364,bd 55,"part_end",(.str "f77.exprs" 621),.ref 363,[("tokens":Str),("at":Str)]⟩,
 ⟨27,371,bd 56,"is_complex",(.str "f77.exprs" 621),.ref 370,[("tokens":Str),("at":Str),("comma":Str),("end":Str)]⟩,
 ⟨28,385,bd 58,"parse_named",(.str "f77.exprs" 621),.ref 384,[("tokens":Str),("at":Str),("name":Str),("tree":Str),("rows":Str)]⟩,
 ⟨29,413,bd 62,"whole_expr",(.str "f77.exprs" 621),.ref 412,[("tokens":Str),("tree":Str),("at":Str)]⟩,
 ⟨30,422,bd 77,"run_of",(.str "f77.lex" 847),.ref 421,[("text":Str),("at":Str),("signs":Str),("end":Str)]⟩,
 ⟨31,443,bd 80,"power_at",(.str "f77.lex" 847),.ref 442,[("text":Str),("at":Str),("begun":Str),("end":Str),("power":Str)]⟩,
 ⟨32,450,bd 81,"number_at",(.str "f77.lex" 847),.ref 449,[("text":Str),("at":Str),("end":Str),("digits":Str),("fraction":Str),("has_point":Str),("behind":Str),("letter":Str),("power":Str),("pair":Str)]⟩,
 ⟨33,464,bd 83,"name_at",(.str "f77.lex" 847),.ref 463,[("text":Str),("at":Str),("end":Str)]⟩,
 ⟨34,478,bd 85,"token_at",(.str "f77.lex" 847),.ref 477,[("text":Str),("at":Str),("sign":Str),("end":Str)]⟩,
 ⟨35,485,bd 86,"tokens_of",(.str "f77.lex" 847),.ref 484,[("squeezed":Str),("out":Str),("at":Str),("token":Str)]⟩,
 ⟨36,492,bd 88,"dummy_list",(.str "f77.stmts" 978),.ref 491,[("tokens":Str),("at":Str),("dummies":Str),("name":Str)]⟩,
 ⟨37,499,bd 89,"named_list",(.str "f77.stmts" 978),.ref 498,[("row":Str),("tokens":Str),("name":Str),("at":Str),("dummies":Str)]⟩,
 ⟨38,526,bc 103 0,"RawUnit.__init__",(.str "f77.units" 1001),.ref 525,[("self":Str),("kind":Str),("name":Str),("dummies":Str),("result":Str)]⟩,
 ⟨39,547,bc 104 0,"UnitMaker.__init__",(.str "f77.units" 1001),.ref 546,[("self":Str),("unit":Str),("parsers":Str),("specs":Str)]⟩,
 ⟨40,561,bd 105,"result_of",(.str "f77.units" 1001),.ref 560,[("prefix":Str),("text":Str),("kind":Str)]⟩,
 ⟨41,568,bd 106,"head_unit",(.str "f77.units" 1001),.ref 567,[("word":Str),("row":Str),("name":Str),("dummies":Str),("at":Str)]⟩,
 ⟨42,575,bd 107,"note_label",(.str "f77.units" 1001),.ref 574,[("maker":Str),("label":Str),("line":Str)]⟩,
 ⟨43,589,bd 109,"enter",(.str "f77.units" 1001),.ref 588,[("maker":Str),("stmt":Str),("nest":Str),("word":Str)]⟩,
 ⟨44,610,bd 112,"add_spec",(.str "f77.units" 1001),.ref 609,[("maker":Str),("line":Str),("word":Str),("row":Str),("stage":Str),("most":Str),("spec":Str)]⟩,
 ⟨45,617,bd 113,"add_format",(.str "f77.units" 1001),.ref 616,[("maker":Str),("label":Str),("row":Str)]⟩,
 ⟨46,624,bd 114,"is_stfunc",(.str "f77.units" 1001),.ref 623,[("maker":Str),("stmt":Str),("tree":Str)]⟩,
 ⟨47,636,bd 116,"add_body",(.str "f77.units" 1001),.ref 635,[("maker":Str),("line":Str),("label":Str),("stmt":Str),("unit":Str)]⟩,
 ⟨48,643,bd 117,"add_executable",(.str "f77.units" 1001),.ref 642,[("maker":Str),("line":Str),("label":Str),("word":Str),("row":Str),("stmt":Str)]⟩,
 ⟨49,650,bd 118,"add_row",(.str "f77.units" 1001),.ref 649,[("maker":Str),("line":Str),("label":Str),("word":Str),("row":Str),("last":Str)]⟩,
 ⟨50,657,bd 119,"begin_unit",(.str "f77.units" 1001),.ref 656,[("line":Str),("label":Str),("word":Str),("row":Str),("parsers":Str),("specs":Str),("maker":Str)]⟩,
 ⟨51,664,bd 120,"take_row",(.str "f77.units" 1001),.ref 663,[("maker":Str),("line":Str),("label":Str),("row":Str),("parsers":Str),("specs":Str),("word":Str)]⟩,
 ⟨52,671,bd 121,"units_of",(.str "f77.units" 1001),.ref 670,[("rows":Str),("parsers":Str),("specs":Str),("units":Str),("maker":Str),("line":Str),("label":Str),("text":Str),("word":Str),("fault":Str)]⟩,
 ⟨53,678,bd 123,"_law_kinds",(.str "law_no0290_02" 1324),.ref 677,[]⟩,
 ⟨54,685,bd 124,"_law_heads",(.str "law_no0290_02" 1324),.ref 684,[]⟩,
 ⟨55,692,bd 125,"_law_names",(.str "law_no0290_02" 1324),.ref 691,[]⟩,
 ⟨56,699,bd 126,"_law_dummies",(.str "law_no0290_02" 1324),.ref 698,[]⟩,
 ⟨57,706,bd 129,"_law_take",(.str "law_no0290_02" 1324),.ref 705,[("script":Str),("at":Str),("many":Str)]⟩,
 ⟨59,718,bd 131,"_law_named",(.str "law_no0290_02" 1324),.ref 717,[("text":Str),("name":Str),("inner":Str),("dummies":Str),("k":Str)]⟩,
 ⟨61,730,bd 133,"_law_function",(.str "law_no0290_02" 1324),.ref 729,[("row":Str),("at":Str),("named":Str),("prefix":Str),("word":Str),("length":Str)]⟩,
 ⟨62,737,bd 134,"_law_head",(.str "law_no0290_02" 1324),.ref 736,[("row":Str),("named":Str)]⟩,
 ⟨63,744,bd 135,"_law_end",(.str "law_no0290_02" 1324),.ref 743,[("parsers":Str),("row":Str)]⟩,
 ⟨64,751,bd 136,"law",(.str "law_no0290_02" 1324),.ref 750,[("script":Str),("which":Str),("text":Str),("how":Str),("at":Str),("sign":Str),("want":Str),("units":Str),("fault":Str),("unit":Str),("got":Str)]⟩]
noncomputable def faddrL:List (Option Addr):=[some 91,some 105,some 112,some 119,some 126,some 133,some 140,some 188,some 195,some 209,some 216,some 244,some 251,some 258,some 265,some 272,some 279,some 286,some 300,some 315,some 322,some 329,some 336,some 343,some 350,some 357,some 364,some 371,some 385,some 413,some 422,some 443,some 450,some 464,some 478,some 485,some 492,some 499,some 526,some 547,some 561,some 568,some 575,some 589,some 610,some 617,some 624,some 636,some 643,some 650,some 657,some 664,some 671,some 678,some 685,some 692,some 699,some 706,some 711,some 718,some 723,some 730,some 737,some 744,none]
noncomputable def qz(k:Nat):Option Addr:=(faddrL[k]?).join
noncomputable def gnTab:List Str:=[("capital":Str),("DIGITS_squeeze":Str),("count_end":Str),("AHEAD_OF_COUNT":Str),("hollerith":Str),("squeeze":Str),("depths":Str),("DIGITS_classify":Str),("LETTERS_classify":Str),("TYPES":Str),("name_end":Str),("closing":Str),("digits_end":Str),("word_of_type":Str),("BEGINS":Str),("WHOLE":Str),("word_by_begin":Str),("equals_at":Str),("is_balanced":Str),("is_op":Str),("kind_at":Str),("PRIORITIES":Str),("parse_binary":Str),("EQUIVALENCE":Str),("priority_at":Str),("RELATION":Str),("POWER":Str),("parse_first":Str),("parse_primary":Str),("SUM":Str),("NEGATION":Str),("constant_of":Str),("parse_bracket":Str),("parse_named":Str),("need_op":Str),("parse_expr":Str),("is_complex":Str),("part_end":Str),("need_name":Str),("MOST_DIGITS":Str),("run_of":Str),("DIGITS_lex":Str),("power_at":Str),("MOST_NAME":Str),("LETTERS_lex":Str),("SIGNS":Str),("number_at":Str),("name_at":Str),("token_at":Str),("need_end":Str),("dummy_list":Str),("tokens_of":Str),("whole_expr":Str),("CHARACTER":Str),("PREFIXES":Str),("RawUnit":Str),("result_of":Str),("named_list":Str),("BLOCK_NAME":Str),("IMPLICIT_STAGE":Str),("RUN_STAGE":Str),("DATA_STAGE":Str),("SPEC_STAGE":Str),("add_body":Str),("enter":Str),("is_stfunc":Str),("add_format":Str),("SPEC_WORDS":Str),("add_spec":Str),("add_executable":Str),("note_label":Str),("HEAD_WORDS":Str),("BLOCK_WORDS":Str),("add_row":Str),("UnitMaker":Str),("MAIN_NAME":Str),("head_unit":Str),("begin_unit":Str),("classify":Str),("take_row":Str),("squeezed":Str),("_law_is_name":Str),("_law_kinds":Str),("_law_length":Str),("_law_named":Str),("_law_function":Str),("units_of":Str),("_law_end":Str),("_law_head":Str),("_law_take":Str),("_law_dummies":Str),("_law_heads":Str),("_law_names":Str)]
noncomputable def gnF(i:Nat):Option Str:=gnTab[i]?
noncomputable def zi(w:World):Tab:=⟨w,qz,λ k=>match k with | 38=>some 529 | 39=>some 550 | _=>none,λ k=>match k with | 0=>some 31 | 1=>some 51 | 2=>some 70 | 3=>some 82 | _=>none⟩
noncomputable def yn:Stmt->Scope
 | .FunctionDef _ _ _ _ _ _ sc _ _ _=>sc
 | _=>default
noncomputable def xC:Stmt->List Stmt
 | .FunctionDef _ _ b _ _ _ _ _ _ _=>b
 | _=>[]
noncomputable def isFD:Stmt->Bool
 | .FunctionDef ..=>true
 | _=>false
noncomputable def yS:Stmt->Arguments
 | .FunctionDef _ a _ _ _ _ _ _ _ _=>a
 | _=>⟨[],[],none,[],[],none,[]⟩
noncomputable def anL:List (List Nat):=[@"dummies",@"entries",@"formats",@"kind",@"line",@"labels",@"nest",@"name",@"parsers",@"result",@"specs",@"stfuncs",@"stage",@"text",@"unit",@"arrays",@"body"]
noncomputable def rnF(k:Nat):Option Str:=match k with | 1=>some "SourceError" | 2=>some "LexFault" | 3=>some "SyntaxFault" | _=>none
noncomputable def cnF(k:Nat):Option Str:=match k with | 0=>some "F77Error" | 1=>some "SourceError" | _=>none
noncomputable def fiO(r:FRow):Fi:=⟨r.ns,yn r.st⟩
noncomputable def chkB(r:FRow):Bool:=match fns[r.k]? with
 | some f=>(r.k==64||qk gnF anL rnF cnF false (fiO r) 60 f.body (xC r.st))&&decide (f.names.length=r.ns.length)&&decide (f.np<=r.ns.length)&&(yS r.st).args.map (·.arg)==r.ns.take f.np
 | none=>false
noncomputable def z0d(r:FRow):Bool:=isFD r.st&&(yS r.st).posonlyargs.isEmpty&&(yS r.st).kwonlyargs.isEmpty&&(yS r.st).vararg.isNone&&(yS r.st).kwarg.isNone&&decide r.ns.Nodup&&r.ns.all (λ x=>decide ((yn r.st).names.lookup x=some .local))&&!(yn r.st).isCoroutine&&!(yn r.st).isGenerator&&decide ((yn r.st).kind=.function)&&(yn r.st).names.all (λ x=>decide (x.2≠.cell))
noncomputable def KX(P:Params)(x:Addr×Obj):Frag:=KP P++[x]
theorem Qs:ftab.all chkB=true:=by decide +kernel
theorem QN:ftab.all z0d=true:=by decide +kernel
theorem QP(P:Params)(x:Addr×Obj):ftab.map (λ r=>(KX P x).lookup r.a)=ftab.map (λ r=>some (⟨.type "function",none,.func (fD r.st r.q 3 [] .none .none .none r.pm none r.cd .none 0),#[]⟩:Obj)):=by kernel_rfl
theorem VB(P:Params)(x:Addr×Obj):ftab.all (λ r=>codeIn (KX P x) r.cd r.q)=true:=by kernel_rfl
theorem Yi{s:Stmt}(h:isFD s=true):∃ n,∀ q gl pm cd,fD s q gl [] .none .none .none pm none cd .none 0={name:=n,qualname:=q,params:=yS s,body:=.stmts (xC s),scope:=yn s,globals:=gl,closure:=[],defaults:=.none,kwdefaults:=.none,doc:=.none,pyModule:=pm,annotations:=none,code:=cd,closureTuple:=.none,builtins:=0}:=by
 cases s<;>first | exact⟨_,λ _ _ _ _=>rfl⟩ | cases h
theorem z02{P:Params}{x:Addr×Obj}{r:FRow}(h:r∈ftab):(KX P x).lookup r.a=some (⟨.type "function",none,.func (fD r.st r.q 3 [] .none .none .none r.pm none r.cd .none 0),#[]⟩:Obj):=List.map_inj_left.mp (QP P x) r h
set_option tactic.hygienic true in
theorem z2q{P:Params}{x:Addr×Obj}{r:FRow}(h:r∈ftab):∃ f,fns[r.k]?=some f/\FnK (KX P x) r.a f.np (fiO r) (xC r.st)/\f.names.length=(fiO r).ns.length/\(r.k≠64->qk gnF anL rnF cnF false (fiO r) 60 f.body (xC r.st)=true):=by
 have h1:=la_ Qs r h
 have h2:=la_ QN r h
 have h3:=la_ (VB P x) r h
 unfold chkB at h1
 split at h1
 ·rename_i f hf
  simp only[Bool.and_eq_true,Bool.or_eq_true,beq_iff_eq,decide_eq_true_eq] at h1
  obtain⟨⟨⟨a1,a2⟩,a3⟩,a4⟩:=h1
  unfold z0d at h2
  simp only[Bool.and_eq_true,Bool.not_eq_true',decide_eq_true_eq,List.isEmpty_iff,Option.isNone_iff_eq_none] at h2
  obtain⟨⟨⟨⟨⟨⟨⟨⟨⟨⟨b1,b2⟩,b3⟩,b4⟩,b5⟩,b6⟩,b7⟩,b8⟩,b9⟩,b10⟩,b11⟩:=h2
  obtain⟨n,hn⟩:=Yi b1
  refine⟨f,hf,⟨?_,a3,b6,λ x hx=>of_decide_eq_true (la_ b7 x hx),b8,b9,b10,λ x hx=>of_decide_eq_true (la_ b11 x hx)⟩,a2,λ hk=>a1.resolve_left hk⟩
  refine⟨.type "function",none,#[],n,r.q,yS r.st,.none,.none,r.pm,none,r.cd,.none,?_,h3,b2,b3,b4,b5,a4⟩
  rw[z02 h,hn]
  rfl
 ·cases h1
mutual
noncomputable def rvB(K:Frag)(tb:Tab):Nat->Value->V->Bool
 | 0,_,_=>false
 | n+1,v,x=>match x with
  | .none=>match v with
   | .none=>true
   | _=>false
  | .bool b=>match v with
   | .bool c=>b==c
   | _=>false
  | .int i=>match v with
   | .int j _=>i==j
   | _=>false
  | .str s=>match v with
   | .str y _=>y==z0 s&&qp s
   | _=>false
  | .fn k=>match v with
   | .ref a=>tb.f k==some a
   | _=>false
  | .cls k=>match v with
   | .ref a=>tb.c k==some a
   | _=>false
  | .tup l=>match v with
   | .ref a=>match K.lookup a with
    | some ⟨.type T,_,.seq vs _,_⟩=>T=="tuple"&&Ka K tb n vs.toList l
    | _=>false
   | _=>false
  | .clst l=>match v with
   | .ref a=>match K.lookup a with
    | some ⟨.type T,_,.seq vs _,_⟩=>T=="list"&&Ka K tb n vs.toList l
    | _=>false
   | _=>false
  | _=>false
noncomputable def Ka(K:Frag)(tb:Tab):Nat->List Value->List V->Bool
 | 0,_,_=>false
 | n+1,vs,xs=>match xs with
  | []=>qX vs
  | x::xs=>onc vs λ v vs=>rvB K tb n v x&&Ka K tb n vs xs
end
set_option tactic.hygienic true in
theorem z33{K:Frag}{tb:Tab}(I:Led)(μ:List Addr):∀ n:Nat,(∀ v x,rvB K tb n v x=true->RV K tb I μ v x)/\(∀ vs xs,Ka K tb n vs xs=true->RVs K tb I μ vs xs):=by
 intro n
 induction n with
 | zero=>exact⟨λ _ _ h=>(by cases h),λ _ _ h=>(by cases h)⟩
 | succ n ih=>
  refine⟨λ v x h=>?_,λ vs xs h=>?_⟩
  ·have key:∀ {a:Addr} {c:String} {l:List V},(match K.lookup a with
     | some ⟨.type T,_,.seq vs _,_⟩=>T==c&&Ka K tb n vs.toList l
     | _=>false)=true->(Ex4 λ d vs m sl=>K.lookup a=some ⟨.type c,d,.seq vs m,sl⟩/\RVs K tb I μ vs.toList l):=λ {a c l} h=>by
    split at h
    ·rename_i hK
     exact K2 h λ h1 h2=>⟨_,_,_,_,by rw[hK,eq_of_beq h1],ih.2 _ _ h2⟩
    ·cases h
   cases x<;>first | cases h;done | (cases v<;>first | cases h;done | skip)
   ·exact .none
   ·exact eq_of_beq h ▸ .bool _
   ·exact eq_of_beq h ▸ .int _ _
   ·exact K2 h λ h1 h2=>eB h1 (.str _ (zk h2))
   ·rename_i l a;obtain⟨d,vs,m,sl,e,r⟩:=key (a:=a) (c:="tuple") (l:=l) h;exact .tupK (vs:=vs.toList) e r
   ·exact .fn (eq_of_beq h)
   ·exact .cls (eq_of_beq h)
   ·rename_i l a;obtain⟨d,vs,m,sl,e,r⟩:=key (a:=a) (c:="list") (l:=l) h;exact .clst (vs:=vs.toList) e r
  ·cases xs with
   | nil=>exact eL h .nil
   | cons x xs=>exact ec h λ v vs h=>K2 h λ h1 h2=>.cons (ih.1 _ _ h1) (ih.2 _ _ h2)
noncomputable def isCd:V->Bool
 | .cdct _=>true
 | _=>false
noncomputable def tb0(f:Nat->Option Addr)(w:World):Tab:=zi w
noncomputable def gOne(K:Frag)(tb:Tab)(i:Nat):Bool:=match gnF i,G_ i with
 | some n,some x=>(match nsIn K mainGlobals n with
  | some (some v)=>i==21||rvB K tb 60 v x
  | _=>false)
 | _,none=>true
 | none,_=>true
theorem gAll(w:World)(x:Addr×Obj):(List.range 93).all (gOne (KX w.params x) (zi w))=true:=by kernel_rfl
theorem z06(P:Params)(x:Addr×Obj):([("len":Str),"ord","max","int","range","sum"].map (nsIn (KX P x) mainGlobals))=[some none,some none,some none,some none,some none,some none]:=by kernel_rfl
theorem VZ(P:Params)(x:Addr×Obj):(List.range 65).all (λ k=>match qz k with | some a=>keepIn (KX P x) (.ref a) | none=>true)=true:=by kernel_rfl
noncomputable def Ju(K:Frag)(C:Addr):Bool:=keepIn K (.ref C)&&makesIn K C&&findIn K (.ref C) "__setattr__"==some (some (.builtin "object.__setattr__"))&&plainOver K C&&hasDictIn K C &&
 anL.all λ nm=>plainGet K C (z0 nm)&&(match findIn K (.ref C) (z0 nm) with | some a=>noGet K a | none=>false)&&takerIn K C (z0 nm)==some none
theorem wD(P:Params)(x:Addr×Obj):Ju (KX P x) 529=true/\Ju (KX P x) 550=true:=⟨by kernel_rfl,by kernel_rfl⟩
noncomputable def Vy(K:Frag)(C:Addr):Bool:=findIn K (.ref C) "__getattribute__"==some (some (.builtin "BaseException.__getattribute__"))&&findIn K (.ref C) "__getattr__"==some none&&subIn K (.ref C) (.type "BaseException")==some true&&hasDictIn K C &&
 anL.all λ nm=>match findIn K (.ref C) (z0 nm) with | some a=>noGet K a | none=>false
theorem JW(P:Params)(x:Addr×Obj):Vy (KX P x) 31=true/\Vy (KX P x) 51=true/\Vy (KX P x) 70=true/\Vy (KX P x) 82=true:=⟨by kernel_rfl,by kernel_rfl,by kernel_rfl,by kernel_rfl⟩
theorem VK(P:Params)(x:Addr×Obj):findIn (KX P x) (.ref 529) "__init__"=some (some (.ref 526))/\isFn (KX P x) (.ref 526)=true/\findIn (KX P x) (.ref 550) "__init__"=some (some (.ref 547))/\isFn (KX P x) (.ref 547)=true:=⟨by kernel_rfl,by kernel_rfl,by kernel_rfl,by kernel_rfl⟩
noncomputable def exB(K:Frag)(C:Addr):Bool:=specialIn K (.ref C) "__call__"==some (some (.builtin "type.__call__"))&&instIn K (.ref C) (.type "type")==some true&&keepIn K (.ref C)&&findIn K (.ref C) "__setattr__"==some (some (.builtin "object.__setattr__"))
 &&subIn K (.ref C) (.type "object")==some true&&subIn K (.ref C) (.type "Exception")==some true&&subIn K (.ref C) (.type "BaseException")==some true
 &&([txt,@"line",@"at"]:List (List Nat)).all λ nm=>findIn K (.ref C) (z0 nm)==some none
theorem W7{K:Frag}(h:exB K C=true)(ho:∃ nm q N bs bm hdct sn sub col dd k0 k1 k2 k3 k5,K.lookup C=some (excClassObj nm q C N bs bm hdct sn sub false col dd k0 k1 k2 k3 k5 "Exception.__new__")/\hdct=true/\ExcCls bm/\(∀ self,refuseLoop self "__setattr__" (.ref C::bm)=pure ())):ExcK K C:=by
 unfold exB at h
 simp only[Bool.and_eq_true,beq_iff_eq] at h
 obtain⟨⟨⟨⟨⟨⟨⟨h1,h2⟩,h3⟩,h4⟩,h5⟩,h6⟩,h7⟩,h8⟩:=h
 exact⟨ho,h1,h2,h3,h4,h5,h6,h7,λ nm hn=>be_ (la_ h8 nm hn)⟩
theorem z1q(P:Params)(x:Addr×Obj):ExcK (KX P x) 51:=W7 (by kernel_rfl) ⟨"SourceError","SourceError",50,[.ref 31],[.ref 31,.type "Exception",.type "BaseException",.type "object"],true,[],[],none,none,some (.ref 35),none,some (.str "SourceError" 218),some (.str "SourceError" 226),some (.bool true),by kernel_rfl,rfl,⟨by decide +kernel,by decide +kernel,by decide +kernel,by decide +kernel⟩,λ self=>by kernel_rfl⟩
theorem z1d(P:Params)(x:Addr×Obj):ExcK (KX P x) 70:=W7 (by kernel_rfl) ⟨"LexFault","LexFault",69,[.ref 31],[.ref 31,.type "Exception",.type "BaseException",.type "object"],true,[],[],none,none,some (.ref 54),none,some (.str "LexFault" 244),some (.str "LexFault" 252),some (.bool true),by kernel_rfl,rfl,⟨by decide +kernel,by decide +kernel,by decide +kernel,by decide +kernel⟩,λ self=>by kernel_rfl⟩
theorem z1x(P:Params)(x:Addr×Obj):ExcK (KX P x) 82:=W7 (by kernel_rfl) ⟨"SyntaxFault","SyntaxFault",81,[.ref 31],[.ref 31,.type "Exception",.type "BaseException",.type "object"],true,[],[],none,none,some (.ref 73),none,some (.str "SyntaxFault" 270),some (.str "SyntaxFault" 278),some (.bool true),by kernel_rfl,rfl,⟨by decide +kernel,by decide +kernel,by decide +kernel,by decide +kernel⟩,λ self=>by kernel_rfl⟩
theorem ko{K:Frag}{r:FRow}{np:Nat}(ho:K.lookup r.a=some (⟨.type "function",none,.func (fD r.st r.q 3 [] .none .none .none r.pm none r.cd .none 0),#[]⟩:Obj))(h3:codeIn K r.cd r.q=true)(h2:z0d r=true)(a4:(yS r.st).args.map (·.arg)=r.ns.take np)(a3:np<=r.ns.length):FnK K r.a np (fiO r) (xC r.st):=by
 unfold z0d at h2
 simp only[Bool.and_eq_true,Bool.not_eq_true',decide_eq_true_eq,List.isEmpty_iff,Option.isNone_iff_eq_none] at h2
 obtain⟨⟨⟨⟨⟨⟨⟨⟨⟨⟨b1,b2⟩,b3⟩,b4⟩,b5⟩,b6⟩,b7⟩,b8⟩,b9⟩,b10⟩,b11⟩:=h2
 obtain⟨n,hn⟩:=Yi b1
 refine⟨?_,a3,b6,λ x hx=>of_decide_eq_true (la_ b7 x hx),b8,b9,b10,λ x hx=>of_decide_eq_true (la_ b11 x hx)⟩
 refine⟨.type "function",none,#[],n,r.q,yS r.st,.none,.none,r.pm,none,r.cd,.none,?_,h3,b2,b3,b4,b5,a4⟩
 rw[ho,hn]
 rfl
noncomputable def r28:FRow:=⟨100,28,bc 1 0,"F77Error.__init__",(.str "f77.errors" 187),.ref 27,[("self":Str),("text":Str)]⟩
noncomputable def r48:FRow:=⟨101,48,bc 2 0,"SourceError.__init__",(.str "f77.errors" 187),.ref 47,[("self":Str),("line":Str),("text":Str)]⟩
noncomputable def r67:FRow:=⟨102,67,bc 3 0,"LexFault.__init__",(.str "f77.errors" 187),.ref 66,[("self":Str),("at":Str),("text":Str)]⟩
theorem f77K(P:Params)(x:Addr×Obj):F77K (KX P x) 28 (fiO r28) (xC (bc 1 0)) where
 fn:=ko (r:=r28) (np:=2) (by kernel_rfl) (by kernel_rfl) (by decide +kernel) (by decide +kernel) (by decide +kernel)
 ns:=by kernel_rfl
 body:=⟨_,_,_,_,_,_,_,_,_,_,rfl,rfl⟩
 ex:=by kernel_rfl
 bi:=by kernel_rfl
theorem sub48(P:Params)(x:Addr×Obj):SubK (KX P x) 31 28 48 (fiO r48) (xC (bc 2 0)) @"line" where
 fn:=ko (r:=r48) (np:=3) (by kernel_rfl) (by kernel_rfl) (by decide +kernel) (by decide +kernel) (by decide +kernel)
 ns:=by kernel_rfl
 body:=⟨_,_,_,_,_,_,_,_,_,_,rfl,rfl⟩
 ex:=by kernel_rfl
 gl:=by kernel_rfl
 sp:=by kernel_rfl
 rd:=by kernel_rfl
 fc:=by kernel_rfl
 hi:=by kernel_rfl
 kp:=by kernel_rfl
 nms:=by decide +kernel
theorem sub67(P:Params)(x:Addr×Obj):SubK (KX P x) 31 28 67 (fiO r67) (xC (bc 3 0)) @"at" where
 fn:=ko (r:=r67) (np:=3) (by kernel_rfl) (by kernel_rfl) (by decide +kernel) (by decide +kernel) (by decide +kernel)
 ns:=by kernel_rfl
 body:=⟨_,_,_,_,_,_,_,_,_,_,rfl,rfl⟩
 ex:=by kernel_rfl
 gl:=by kernel_rfl
 sp:=by kernel_rfl
 rd:=by kernel_rfl
 fc:=by kernel_rfl
 hi:=by kernel_rfl
 kp:=by kernel_rfl
 nms:=by decide +kernel
theorem rai1(w:World)(x:Addr×Obj):RaiK (KX w.params x) (zi w) 1 51 "SourceError":=⟨rfl,z1q _ _,by kernel_rfl,by decide +kernel,48,by kernel_rfl,by kernel_rfl,z0G (f77K _ _) (sub48 _ _) (z1q _ _) (by kernel_rfl) (by kernel_rfl)⟩
theorem rai2(w:World)(x:Addr×Obj):RaiK (KX w.params x) (zi w) 2 70 "LexFault":=⟨rfl,z1d _ _,by kernel_rfl,by decide +kernel,67,by kernel_rfl,by kernel_rfl,z0B (f77K _ _) (sub67 _ _) (z1d _ _) (by kernel_rfl) (by kernel_rfl)⟩
theorem rai3(w:World)(x:Addr×Obj):RaiK (KX w.params x) (zi w) 3 82 "SyntaxFault":=⟨rfl,z1x _ _,by kernel_rfl,by decide +kernel,28,by kernel_rfl,by kernel_rfl,z0Y (f77K _ _) (z1x _ _) (by kernel_rfl)⟩
theorem vT{c:Nat}(h:(zi w).x c=some C):(c=0/\C=31)\/(c=1/\C=51)\/(c=2/\C=70)\/(c=3/\C=82):=by
 unfold zi at h
 dsimp only at h
 split at h<;>simp_all
theorem cls0(w:World)(x:Addr×Obj):ClsK (KX w.params x) (zi w) 0 31 "F77Error":=⟨by kernel_rfl,by decide +kernel,by kernel_rfl,Option.isSome_iff_exists.mp (by kernel_rfl),by kernel_rfl,λ c C h _=>by
 rcases vT h with ⟨rfl,rfl⟩ | ⟨rfl,rfl⟩ | ⟨rfl,rfl⟩ | ⟨rfl,rfl⟩<;>kernel_rfl⟩
theorem cls1(w:World)(x:Addr×Obj):ClsK (KX w.params x) (zi w) 1 51 "SourceError":=⟨by kernel_rfl,by decide +kernel,by kernel_rfl,Option.isSome_iff_exists.mp (by kernel_rfl),by kernel_rfl,λ c C h hs=>by
 rcases vT h with ⟨rfl,rfl⟩ | ⟨rfl,rfl⟩ | ⟨rfl,rfl⟩ | ⟨rfl,rfl⟩
 ·cases hs
 ·kernel_rfl
 ·cases hs
 ·cases hs⟩
theorem Q8(w:World)(x:Addr×Obj):AmbS (KX w.params x) (zi w) rnF cnF where
 r:=λ k nm h=>by
  unfold rnF at h
  split at h
  ·cases h;exact⟨_,rai1 w x,λ _=>rfl⟩
  ·cases h;exact⟨_,rai2 w x,nofun⟩
  ·cases h;exact⟨_,rai3 w x,nofun⟩
  ·cases h
 c:=λ k nm h=>by
  unfold cnF at h
  split at h
  ·cases h;exact⟨_,cls0 w x⟩
  ·cases h;exact⟨_,cls1 w x⟩
  ·cases h
 x51:=λ c D hc h=>by
  rcases vT h with ⟨rfl,rfl⟩ | ⟨rfl,rfl⟩ | ⟨rfl,rfl⟩ | ⟨rfl,rfl⟩
  ·decide
  ·exact absurd rfl hc
  ·decide
  ·decide
noncomputable def prioL:List (Str×Tok×Int×Tok):=[(".EQV.",633,1,634),(".NEQV.",636,1,637),(".OR.",639,2,640),(".AND.",642,3,643),(".EQ.",645,5,646),(".NE.",648,5,649),(".LT.",651,5,652),(".LE.",654,5,655),(".GT.",657,5,658),(".GE.",660,5,661),("//",663,6,664),("+",666,7,667),("-",669,7,670),("*",672,8,673),("/",675,8,676),("**",678,9,679)]
theorem Xh(w:World):∀ l:List (Str×Tok×Int×Tok),KeysOf (strKind pw w) (l.map λ x=>dE w.params x.1 x.2.1 (.int x.2.2.1 x.2.2.2)).toArray/\Pairs (strKind pw w) (l.map λ x=>dE w.params x.1 x.2.1 (.int x.2.2.1 x.2.2.2)) (l.map λ x=>(x.1,Value.int x.2.2.1 x.2.2.2)):=by
 intro l
 refine⟨λ e he=>?_,?_⟩
 ·simp only[List.mem_toArray,List.mem_map] at he
  obtain⟨x,_,rfl⟩:=he
  exact⟨x.1,strKind_is _ _ _ _,rfl⟩
 ·induction l with
  | nil=>exact .nil
  | cons x l ih=>exact .cons (strKind_is _ _ _ _) rfl ih
noncomputable def prioV:List (List Nat×Int):=match G_ 21 with | some (.cdct l)=>l | _=>[]
noncomputable def z1f(s:List Nat):Tok:=((prioL.map λ x=>(x.1.cps.toList,x.2.2.2)).lookup s).getD 0
theorem WM:(prioL.map λ x=>(x.1,Value.int x.2.2.1 x.2.2.2))=prioV.map λ p=>(z0 p.1,Value.int p.2 (z1f p.1)):=by decide +kernel
theorem Xo:((prioL.map λ x=>(x.1,Value.int x.2.2.1 x.2.2.2)).map (·.1)).Nodup:=by decide +kernel
theorem z2m:G_ 21=some (.cdct prioV):=by kernel_rfl
theorem z15:gnF 21=some "PRIORITIES":=by decide +kernel
theorem z00(P:Params)(x:Addr×Obj):nsIn (KX P x) mainGlobals "PRIORITIES"=some (some (.ref 308)):=by kernel_rfl
theorem Xk(P:Params)(x:Addr×Obj):(KX P x).lookup 308=some ⟨.type "dict",none,.dict (prioL.map λ x=>dE P x.1 x.2.1 (.int x.2.2.1 x.2.2.2)).toArray 16,#[]⟩:=by kernel_rfl
theorem z0c(w:World)(x:Addr×Obj)(I:Led)(μ:List Addr):RV (KX w.params x) (zi w) I μ (.ref 308) (.cdct prioV):=by
 refine .cdct z1f (by decide +kernel) (Xk w.params x) ⟨_,16,⟨rfl,rfl,rfl⟩,rfl,(Xh w prioL).1,?_,?_⟩
 ·rw[←WM]
  exact(Xh w prioL).2
 ·rw[←WM]
  exact Xo
set_option tactic.hygienic true in
theorem amb(w:World)(x:Addr×Obj):Amb (KX w.params x) (zi w) G_ gnF where
 sys:=⟨308,_,by decide,Xk _ _⟩
 g:=λ i y n h1 h2=>by
  by_cases h21:i=21
  ·subst h21
   rw[z15] at h1
   rw[z2m] at h2
   cases h1
   cases h2
   exact⟨_,z00 _ _,λ I μ=>z0c w x I μ⟩
  ·have hi:i<93:=by
    have h3:i<gtab.length:=by
     unfold G_ at h2
     obtain⟨z,h4,_⟩:=om_ h2
     exact(gs_ h4).1
    exact h3
   have:=la_ (gAll w x) i (List.mem_range.mpr hi)
   unfold gOne at this
   rw[h1,h2] at this
   dsimp only at this
   split at this
   ·rename_i v hv
    rw[Bool.or_eq_true] at this
    rcases this with q | q
    ·exact absurd (be_ q) h21
    ·exact⟨v,hv,λ I μ=>(z33 I μ 60).1 v y q⟩
   ·cases this
 b:=λ n hn=>by
  have h:=z06 w.params x
  simp only[List.map_cons,List.map_nil,List.cons.injEq,and_true] at h
  obtain⟨a1,a2,a3,a4,a5,a6⟩:=h
  simp only[List.mem_cons,List.not_mem_nil,or_false] at hn
  rcases hn with rfl | rfl | rfl | rfl | rfl<;>assumption
 fk:=λ k a h=>by
  have hk:k<65:=by
   have h:qz k=some a:=h
   have h3:k<faddrL.length:=by
    unfold qz at h
    cases q:faddrL[k]? with
    | none=>rw[q] at h;cases h
    | some z=>exact(gs_ q).1
   exact h3
  have:=la_ (VZ w.params x) k (List.mem_range.mpr hk)
  rw[show qz k=some a from h] at this
  exact this
theorem kH{c:Nat}(h:(zi w).c c=some C):(c=38/\C=529)\/(c=39/\C=550):=by
 unfold zi at h
 dsimp only at h
 split at h<;>simp_all
set_option tactic.hygienic true in
theorem wF{K:Frag}(h:Ju K C=true):keepIn K (.ref C)=true/\makesIn K C=true/\(∀ nm∈anL,(plainGet K C (z0 nm)=true/\hasDictIn K C=true/\∃ attr,findIn K (.ref C) (z0 nm)=some attr/\noGet K attr=true)/\(findIn K (.ref C) "__setattr__"=some (some (.builtin "object.__setattr__"))/\plainOver K C=true/\takerIn K C (z0 nm)=some none)):=by
 unfold Ju at h
 simp only[Bool.and_eq_true,beq_iff_eq] at h
 obtain⟨⟨⟨⟨⟨h1,h2⟩,h3⟩,h4⟩,h5⟩,h6⟩:=h
 refine⟨h1,h2,λ nm hn=>?_⟩
 have h7:=la_ h6 nm hn
 simp only[Bool.and_eq_true,beq_iff_eq] at h7
 obtain⟨⟨h8,h9⟩,h10⟩:=h7
 split at h9
 ·rename_i a ha
  exact⟨⟨h8,h5,a,ha,h9⟩,h3,h4,h10⟩
 ·cases h9
theorem ambC(w:World)(x:Addr×Obj):AmbC (KX w.params x) (zi w) where
 cl:=λ k C h=>by
  obtain⟨i1,i2,i3,i4⟩:=VK w.params x
  rcases kH h with ⟨rfl,rfl⟩ | ⟨rfl,rfl⟩
  ·obtain⟨h1,h2,_⟩:=wF (wD w.params x).1
   exact⟨h1,h2,526,i1,i2,rfl⟩
  ·obtain⟨h1,h2,_⟩:=wF (wD w.params x).2
   exact⟨h1,h2,547,i3,i4,rfl⟩
theorem ambA(w:World)(x:Addr×Obj):AmbA (KX w.params x) (zi w) anL where
 at_:=λ k C nm h hn=>by
  rcases kH h with ⟨rfl,rfl⟩ | ⟨rfl,rfl⟩
  ·exact((wF (wD w.params x).1).2.2 nm hn).1
  ·exact((wF (wD w.params x).2).2.2 nm hn).1
 set_:=λ k C nm h hn=>by
  rcases kH h with ⟨rfl,rfl⟩ | ⟨rfl,rfl⟩
  ·exact((wF (wD w.params x).1).2.2 nm hn).2
  ·exact((wF (wD w.params x).2).2.2 nm hn).2
set_option tactic.hygienic true in
theorem kj{K:Frag}(h:Vy K C=true):∀ nm∈anL,findIn K (.ref C) "__getattribute__"=some (some (.builtin "BaseException.__getattribute__"))/\findIn K (.ref C) "__getattr__"=some none/\subIn K (.ref C) (.type "BaseException")=some true/\hasDictIn K C=true/\∃ attr,findIn K (.ref C) (z0 nm)=some attr/\noGet K attr=true:=by
 unfold Vy at h
 simp only[Bool.and_eq_true,beq_iff_eq] at h
 obtain⟨⟨⟨⟨h1,h2⟩,h3⟩,h4⟩,h5⟩:=h
 intro nm hn
 have h7:=la_ h5 nm hn
 split at h7
 ·rename_i a ha
  exact⟨h1,h2,h3,h4,a,ha,h7⟩
 ·cases h7
theorem ambX(w:World)(x:Addr×Obj):AmbX (KX w.params x) (zi w) anL where
 at_:=λ k C nm h hn=>by
  obtain⟨e1,e2,e3,e4⟩:=JW w.params x
  rcases vT h with ⟨rfl,rfl⟩ | ⟨rfl,rfl⟩ | ⟨rfl,rfl⟩ | ⟨rfl,rfl⟩
  ·exact kj e1 nm hn
  ·exact kj e2 nm hn
  ·exact kj e3 nm hn
  ·exact kj e4 nm hn
theorem Qy(w:World)(x:Addr×Obj):AmbK (KX w.params x) (zi w) G_ gnF anL:=⟨amb w x,ambC w x,ambA w x,ambX w x⟩
noncomputable def ZO(w:World)(x:Addr×Obj):Prop:=∀ (n k:Nat) (p:List V->Option V) (a:Addr) (xs:List V) (vs:List Value) (c:Cx) (A:Around) (s:Shared) (m:Str->Option Value) (M I:Led) (H:Hp) (Q:Value->Shared->Prop) (X:Value->Shared->Prop),
 xK k=some p->(zi w).f k=some a->Cok (KX w.params x) false (n+1) 4 c A->1<=s.toks->St (KX w.params x) (zi w) c.w c.h₀ c.L s.heap m M I H->RVs (KX w.params x) (zi w) I (z6 M) vs xs->Post (KX w.params x) (zi w) (zU (KX w.params x) (zi w)) c s m M I (lift H (p xs)) Q X->codeAny (model pw c.w) A (.call (.ref a) ⟨vs,[]⟩) (zy Q X) s
theorem z10:(List.range 65).all (λ k=>match qz k with | some a=>(xK k).isSome||ftab.any (λ r=>r.k==k&&r.a==a&&r.k !=64) | none=>true)=true:=by decide +kernel
theorem Kd(w:World)(x:Addr×Obj)(hp:ZO w x)(W:Nat)(n:Nat):Xf (KX w.params x) (zi w) (evN G_ W fns xK n) n:=by
 induction n with
 | zero=>exact λ k a xs vs c A s m M I H Q X _ _ _ _ _ p=>p.elim
 | succ n ih=>
  intro k a xs vs c A s m M I H Q X hk C ht S hv p
  have hka:qz k=some a:=hk
  have hk65:k<65:=by
   have h3:k<faddrL.length:=by
    have h:=hka
    unfold qz at h
    cases q:faddrL[k]? with
    | none=>rw[q] at h;cases h
    | some z=>exact(gs_ q).1
   exact h3
  simp only[evN] at p
  cases hpk:xK k with
  | some pr=>
   rw[hpk] at p
   exact hp n k pr a xs vs c A s m M I H Q X hpk hk C ht S hv p
  | none=>
   rw[hpk] at p
   have:=la_ z10 k (List.mem_range.mpr hk65)
   rw[hka] at this
   simp only[hpk,Option.isSome_none,Bool.false_or] at this
   obtain⟨r,hr,hr2⟩:=List.any_eq_true.mp this
   simp only[Bool.and_eq_true,beq_iff_eq,bne_iff_ne,ne_eq] at hr2
   obtain⟨⟨rfl,rfl⟩,h64⟩:=hr2
   obtain⟨f,hf,Y,hlen,hok⟩:=z2q (P:=w.params) hr
   rw[hf] at p
   exact KQ (k:=r.k) Y ((vR (W:=W) (hd:=false) (Qy w x) (Q8 w x) Y.nd ih 60).2 _ _ (hok h64)) hlen C ht S hv p
noncomputable def rL:FRow:=⟨64,751,bd 136,"law",(.str "law_no0290_02" 1324),.ref 750,[("script":Str),("which":Str),("text":Str),("how":Str),("at":Str),("sign":Str),("want":Str),("units":Str),("fault":Str),("unit":Str),("got":Str)]⟩
noncomputable def stB(f:S->S->Bool)(s:S):Bool:=match s with
 | .cons x r=>f x r
 | _=>false
theorem z0f{f:S->S->Bool}{s:S}(h:stB f s=true):∃ x r,s=.cons x r/\f x r=true:=by
 cases s<;>first | exact ft h | exact⟨_,_,rfl,h⟩
noncomputable def tsB(f:Stmt->List Stmt->Bool)(ts:List Stmt):Bool:=match ts with
 | t::r=>f t r
 | []=>false
noncomputable def bodB:Nat->List Stmt->S->Bool
 | 0,_,_=>true
 | n+1,ts,s=>tsB (λ t ts=>stB (λ x r=>okS gnF anL rnF cnF false (fiO rL) 60 x t&&bodB n ts r) s) ts
noncomputable def tlS(s:S):S:=match s with
 | .cons _ r=>r
 | s=>s
noncomputable def Xz:Nat->S->S
 | 0,s=>s
 | n+1,s=>Xz n (tlS s)
theorem z3i:bodB 9 (xC (bd 136)) wU=true:=by decide +kernel
theorem z2l:∃ x p1 t p2 p3 nm b suite p4 p5 rest j e i hb r,(xC (bd 136)).drop 9=.Try [.Assign [.Name x p1] t p2] [.ExceptHandler (some (.Name "SourceError" p3)) (some nm) (b::suite) p4] [] [] p5::rest/\Xz 9 wU=.cons (.try_ [j] e 1 i hb) r /\
  (yw (fiO rL) j x&&yC t&&okE gnF anL false (fiO rL) 60 e t&&yw (fiO rL) i nm&&vO (fiO rL) "SourceError"&&qk gnF anL rnF cnF true (fiO rL) 60 hb (b::suite)&&qk gnF anL rnF cnF false (fiO rL) 60 r rest)=true:=
 ⟨_,_,_,_,_,_,_,_,_,_,_,_,_,_,_,_,rfl,rfl,by decide +kernel⟩
theorem WR:(fiO rL).ns.Nodup:=by decide +kernel
theorem z2d{x:Addr×Obj}{F:Fn}{W n:Nat}(hF:Xf (KX w.params x) (zi w) F n)(i:Nat):∀ (ts:List Stmt) (s:S),bodB i ts s=true->V1 (KX w.params x) (zi w) G_ F W n (fiO rL) (Xz i s) (ts.drop i)->V1 (KX w.params x) (zi w) G_ F W n (fiO rL) s ts:=by
 induction i with
 | zero=>exact λ ts s _ q=>q
 | succ i ih=>
  intro ts s h q
  cases ts with
  | nil=>exact ft h
  | cons t ts=>
   obtain⟨y,r,rfl,h⟩:=z0f h
   exact Yn (z1J ((vR (Qy w x) (Q8 w x) WR hF 60).1 _ _ (V.beqB h).1)) (ih ts r (V.beqB h).2 q)
theorem z2y{x:Addr×Obj}{F:Fn}{W n:Nat}(hF:Xf (KX w.params x) (zi w) F n):V1 (KX w.params x) (zi w) G_ F W n (fiO rL) wU (xC (bd 136)):=by
 refine z2d hF 9 _ _ z3i ?_
 obtain⟨_,_,_,_,_,_,_,_,_,_,_,_,_,_,_,_,e1,e2,h⟩:=z2l
 rw[e1,e2]
 simp only[Bool.and_eq_true] at h
 obtain⟨⟨⟨⟨⟨⟨a3,a4⟩,a5⟩,a6⟩,a7⟩,a8⟩,a9⟩:=h
 exact Yn (Jr WR a3 a4 ((wI (Qy w x) (λ _=>hF) 60).1 _ _ a5) a6 a7 (cls1 w x) ((vR (Qy w x) (Q8 w x) WR hF 60).2 _ _ a8)) (z0I ((vR (Qy w x) (Q8 w x) WR hF 60).2 _ _ a9))
end
section
open PyProof.Rows PySem.Calls PySem.Spec PySem.W
section
variable {prog:Program}{w:World}{A:Around}{E:Value->Shared->Prop}{s:Shared}{h₀:Heap}{L:Addr}{m:Str->Option Value}{env:Env}{news:List (Addr×Obj)}
theorem V2{elt iter:Expr}{x y:Str}{px py:Pos}{ifs:List Expr}{scope:Scope}{cl:List (Str×Addr)}{spos:Pos}{Q:Flow->Shared->Prop}{pz:Str->Bool}{d:Str->PyData}(hsw:swapsWith (.ListComp elt [⟨.Name x px,iter,ifs,0⟩] scope pos) (some (.Name y py)) spos.line env=pure true)(hL:env.locals=L)(hh:A.handled=none)(hclos:closureFor scope env=pure cl)(hcell:∀ z∈scope.names,z.2≠.cell)(hkind:scope.kind=.function)(hnames:∀ z∈scope.names,z.2=.local->scope.names.lookup z.1=some .local)(hx:scope.names.lookup x=some .local)(hy:env.kindOf y=some .local)(hp:(env.scope.kind==.class||(env.scope.kind==.module&&env.locals !=env.globals))=false)(h:wpAny (model prog w) A (eval iter env) (λ xv s₁=>∃ y' t,xv=.str y' t/\y'.length<=sizeLine/\Fr h₀ L s₁.heap m/\News h₀ L s₁.heap news /\
   (∀ C a v s₂ m₂ E',s₁.heap.objs.size<=C->(∃ c u,a=⟨#[c]⟩/\v=.str ⟨#[c]⟩ u/\c∈y'.cps.toList)->s₂.heap.Ns (compEnvC scope cl C env).locals m₂->m₂ x=some v->(∀ b o,s₁.heap.get? b=some o->s₂.heap.get? b=some o)->
    wpAny (model prog w) A (forIn ifs true λ c r=>if r=true then do let ok ←isTrue c (compEnvC scope cl C env) (eval c (compEnvC scope cl C env));pure (ForInStep.yield ok) else pure (ForInStep.yield r))
     (λ ok s₃=>ok=pz a/\Keeps s₂ s₃) E' s₂) /\
   (∀ C a v s₂ m₂ E',s₁.heap.objs.size<=C->(∃ c u,a=⟨#[c]⟩/\v=.str ⟨#[c]⟩ u/\c∈y'.cps.toList)->pz a=true->s₂.heap.Ns (compEnvC scope cl C env).locals m₂->m₂ x=some v->(∀ b o,s₁.heap.get? b=some o->s₂.heap.get? b=some o)->
    wpAny (model prog w) A (eval elt (compEnvC scope cl C env)) (λ r s₃=>Carried r (d a)/\Keeps s₂ s₃) E' s₂) /\
   (∀ D (ys:List Value) h' tk,Fr h₀ L h' (λ z=>if z=y then some (.ref D) else m z)->News h₀ L h' news->h₀.get? D=none->h'.IsList D ys.toArray->NewPlain h' news D ys.toArray->CarriedAll ys (((signs y').filter pz).map d)->Q .next {s₁ with heap:=h',toks:=tk})) E s)(hs:∀ x,foldedSetIterable iter env x=pure x) :
  wpAny (model prog w) A (exec (.Assign [.Name y py] (.ListComp elt [⟨.Name x px,iter,ifs,0⟩] scope pos) spos) env) Q E s:=by
 subst hL
 refine wpAny_Assign_ListComp_free (ItemKind.str.lift pz) (λ v r=>∃ a,ItemKind.str.is a v/\Carried r (d a)) hsw hclos hcell hkind hnames hx hy hp (wpAny_mono h (λ xv s₁ h₁=>?_) λ _ _ e=>e) hs
 obtain⟨y',t,rfl,hsz,F,N,htests,helt,hQ⟩:=h₁
 refine wpAny_pyIter_str λ o St W hst=>?_
 have up:∀ (h':Heap),(∀ b o',b∉[s₁.heap.objs.size]->(s₁.heap.push o).get? b=some o'->h'.get? b=some o')->∀ b o',s₁.heap.get? b=some o'->h'.get? b=some o':=
  λ h' hk b o' e=>hk b o' (old_not_new e) (Heap.get?_push_of_some _ e)
 refine⟨s₁.heap.objs.size,[s₁.heap.objs.size],[s₁.heap.objs.size],y'.cps.size,SignAt y',St,m,rfl,W A hh,hsz,hst,?_,?_,(F.push o).ns,⟨?_,?_⟩,?_⟩
 ·intro b hb
  show b<(s₁.heap.push o).objs.size
  rw[Heap.size_push,List.mem_singleton.mp hb]
  exact Nat.lt_succ_self _
 ·intro hm
  exact absurd F.ns.lt ((List.mem_singleton.mp hm) ▸ Nat.lt_irrefl _)
 ·intro C i v s₃ m₃ E' hC hP hn hm hk _
  obtain⟨c,u,hcm,rfl⟩:=hP
  have hcm':c∈y'.cps.toList:=by
   have:=List.mem_of_getElem? (l:=y'.cps.toList) (i:=i) (a:=c) (by simpa using hcm)
   exact this
  have ha:ItemKind.str.is ⟨#[c]⟩ (.str ⟨#[c]⟩ u):=⟨u,rfl⟩
  rw[ItemKind.lift_is ha]
  exact htests C _ _ s₃ m₃ E' (Nat.le_of_succ_le (by simpa [Heap.size_push] using hC)) ⟨c,u,rfl,rfl,hcm'⟩ hn hm (up s₃.heap hk)
 ·intro C i v s₃ m₃ E' hC hP hp' hn hm hk _
  obtain⟨c,u,hcm,rfl⟩:=hP
  have hcm':c∈y'.cps.toList:=by
   have:=List.mem_of_getElem? (l:=y'.cps.toList) (i:=i) (a:=c) (by simpa using hcm)
   exact this
  have ha:ItemKind.str.is ⟨#[c]⟩ (.str ⟨#[c]⟩ u):=⟨u,rfl⟩
  rw[ItemKind.lift_is ha] at hp'
  exact wpAny_mono (helt C _ _ s₃ m₃ E' (Nat.le_of_succ_le (by simpa [Heap.size_push] using hC)) ⟨c,u,rfl,rfl,hcm'⟩ hp' hn hm (up s₃.heap hk)) (λ y s₄ h₄=>⟨⟨_,ha,h₄.1⟩,h₄.2⟩) λ _ _ e=>e
 ·intro D h' tk ys vs hnew hlD hplD hlen hP hF hn' hk
  refine hQ D ys.toList h' tk ⟨hn',λ b o' e=>hk b o' (Nat.ne_of_lt (Nat.lt_of_lt_of_le (Heap.lt_size e) F.above)) (old_not_new (F.keep b o' e)) (Heap.get?_push_of_some _ (F.keep b o' e)),F.above⟩
   (λ p hp=>⟨hk _ _ (N p hp).2.1 (old_not_new (N p hp).1) (Heap.get?_push_of_some _ (N p hp).1),(N p hp).2⟩) ?_ (by rw[Array.toArray_toList];exact hlD) ⟨by rw[Array.toArray_toList];exact hplD,λ p hp e=>by rw[←e,Heap.get?_push_of_some _ (N p hp).1] at hnew;cases hnew⟩ ((areOf_signs hlen hP).paired pz d _ hF)
  cases e:h₀.get? D with
  | none=>rfl
  | some o'=>rw[Heap.get?_push_of_some _ (F.keep _ _ e)] at hnew;cases hnew
theorem LC{elt iter:Expr}{x:Str}{px:Pos}{ifs:List Expr}{scope:Scope}{cl:List (Str×Addr)}{pz:Str->Bool}{d:Str->PyData}(hh:A.handled=none)(hclos:closureFor scope env=pure cl)(hcell:∀ z∈scope.names,z.2≠.cell)(hkind:scope.kind=.function)(hnames:∀ z∈scope.names,z.2=.local->scope.names.lookup z.1=some .local)(hx:scope.names.lookup x=some .local)(h:wpAny (model prog w) A (eval iter env) (λ xv s₁=>∃ y' t,xv=.str y' t/\y'.length<=sizeLine/\Fr h₀ L s₁.heap m/\News h₀ L s₁.heap news /\
   (∀ C a v s₂ m₂ E',s₁.heap.objs.size<=C->(∃ c u,a=⟨#[c]⟩/\v=.str ⟨#[c]⟩ u/\c∈y'.cps.toList)->s₂.heap.Ns (compEnvC scope cl C env).locals m₂->m₂ x=some v->(∀ b o,s₁.heap.get? b=some o->s₂.heap.get? b=some o)->
    wpAny (model prog w) A (forIn ifs true λ c r=>if r=true then do let ok ←isTrue c (compEnvC scope cl C env) (eval c (compEnvC scope cl C env));pure (ForInStep.yield ok) else pure (ForInStep.yield r))
     (λ ok s₃=>ok=pz a/\Keeps s₂ s₃) E' s₂) /\
   (∀ C a v s₂ m₂ E',s₁.heap.objs.size<=C->(∃ c u,a=⟨#[c]⟩/\v=.str ⟨#[c]⟩ u/\c∈y'.cps.toList)->pz a=true->s₂.heap.Ns (compEnvC scope cl C env).locals m₂->m₂ x=some v->(∀ b o,s₁.heap.get? b=some o->s₂.heap.get? b=some o)->
    wpAny (model prog w) A (eval elt (compEnvC scope cl C env)) (λ r s₃=>Carried r (d a)/\Keeps s₂ s₃) E' s₂) /\
   (∀ D (ys:List Value) h' tk,Fr h₀ L h' m->News h₀ L h' news->h₀.get? D=none->h'.IsList D ys.toArray->NewPlain h' news D ys.toArray->CarriedAll ys (((signs y').filter pz).map d)->Q (.ref D) {s₁ with heap:=h',toks:=tk})) E s)(hs:∀ x,foldedSetIterable iter env x=pure x) :
  wpAny (model prog w) A (eval (.ListComp elt [⟨.Name x px,iter,ifs,0⟩] scope pos) env) Q E s:=by
 refine wpAny_ListComp_free (ItemKind.str.lift pz) (λ v r=>∃ a,ItemKind.str.is a v/\Carried r (d a)) hclos hcell hkind hnames hx (wpAny_mono h (λ xv s₁ h₁=>?_) λ _ _ e=>e) hs
 obtain⟨y',t,rfl,hsz,F,N,htests,helt,hQ⟩:=h₁
 refine wpAny_pyIter_str λ o St W hst=>?_
 have up:∀ (h':Heap),(∀ b o',b∉[s₁.heap.objs.size]->(s₁.heap.push o).get? b=some o'->h'.get? b=some o')->∀ b o',s₁.heap.get? b=some o'->h'.get? b=some o':=
  λ h' hk b o' e=>hk b o' (old_not_new e) (Heap.get?_push_of_some _ e)
 refine⟨s₁.heap.objs.size,[s₁.heap.objs.size],[s₁.heap.objs.size],y'.cps.size,SignAt y',St,rfl,W A hh,hsz,hst,?_,⟨?_,?_⟩,?_⟩
 ·intro b hb
  show b<(s₁.heap.push o).objs.size
  rw[Heap.size_push,List.mem_singleton.mp hb]
  exact Nat.lt_succ_self _
 ·intro C i v s₃ m₃ E' hC hP hn hm hk _
  obtain⟨c,u,hcm,rfl⟩:=hP
  have hcm':c∈y'.cps.toList:=by
   have:=List.mem_of_getElem? (l:=y'.cps.toList) (i:=i) (a:=c) (by simpa using hcm)
   exact this
  have ha:ItemKind.str.is ⟨#[c]⟩ (.str ⟨#[c]⟩ u):=⟨u,rfl⟩
  rw[ItemKind.lift_is ha]
  exact htests C _ _ s₃ m₃ E' (Nat.le_of_succ_le (by simpa [Heap.size_push] using hC)) ⟨c,u,rfl,rfl,hcm'⟩ hn hm (up s₃.heap hk)
 ·intro C i v s₃ m₃ E' hC hP hp' hn hm hk _
  obtain⟨c,u,hcm,rfl⟩:=hP
  have hcm':c∈y'.cps.toList:=by
   have:=List.mem_of_getElem? (l:=y'.cps.toList) (i:=i) (a:=c) (by simpa using hcm)
   exact this
  have ha:ItemKind.str.is ⟨#[c]⟩ (.str ⟨#[c]⟩ u):=⟨u,rfl⟩
  rw[ItemKind.lift_is ha] at hp'
  exact wpAny_mono (helt C _ _ s₃ m₃ E' (Nat.le_of_succ_le (by simpa [Heap.size_push] using hC)) ⟨c,u,rfl,rfl,hcm'⟩ hp' hn hm (up s₃.heap hk)) (λ y s₄ h₄=>⟨⟨_,ha,h₄.1⟩,h₄.2⟩) λ _ _ e=>e
 ·intro D h' tk ys vs hnew hlD hplD hlen hP hF hk
  refine hQ D ys.toList h' tk (F.keeps (up h' hk)) (N.grown (up h' hk)) ?_ (by rw[Array.toArray_toList];exact hlD) ⟨by rw[Array.toArray_toList];exact hplD,λ p hp e=>by rw[←e,Heap.get?_push_of_some _ (N p hp).1] at hnew;cases hnew⟩ ((areOf_signs hlen hP).paired pz d _ hF)
  cases e:h₀.get? D with
  | none=>rfl
  | some o'=>rw[Heap.get?_push_of_some _ (F.keep _ _ e)] at hnew;cases hnew
end
end
section
open PyProof.Rows PySem.W
noncomputable def SSo(K:Frag)(tb:Tab)(n:Nat)(fi:Fi)(o:Lc->Hp->Out)(ts:List Stmt):Prop:=∀ (c:Cx) (A:Around) (s:Shared) (m:Str->Option Value) (M I:Led) (L:Lc) (H:Hp) (Q:Flow->Shared->Prop) (X:Value->Shared->Prop),
 Cok K false n 8 c A->c.scope=fi.sc->1<=s.toks->St K tb c.w c.h₀ c.L s.heap m M I H->LR K tb fi.ns m I (z6 M) L->PostS K tb fi c s M I (o L H) Q X->wpAny (model pw c.w) A (execs ts c.env) Q X s
section
variable {K:Frag}{tb:Tab}{G:Nat->Option V}{gn:Nat->Option Str}{F:Fn}{W:Nat}{n:Nat}{fi:Fi}
set_option tactic.hygienic true in
theorem Vp{o:Lc->Hp->Out}{k:Nat}{a:Addr}{f:XFn}(Y:FnK K a f.np fi body)(hb:SSo K tb n fi o body)(hlen:f.names.length=fi.ns.length){s:Shared}(C:Cok K false n 10 c A)(ht:1<=s.toks)(S:St K tb c.w c.h₀ c.L s.heap m M I H)(hv:RVs K tb I (z6 M) vs xs)(p:Post K tb (zU K tb) c s m M I (if xs.length=f.np then(match f.pure_&&V.flatIn.flatL xs with
    | true=>yB H (o (xs.map some++List.replicate (f.names.length-f.np) none) [])
    | false=>yt f H (o (xs.map some++List.replicate (f.names.length-f.np) none) H)) else .bad) Q X) :
  codeAny (model pw c.w) A (.call (.ref a) ⟨vs,[]⟩) (zy Q X) s:=by
 by_cases hx:xs.length=f.np
 case neg=>rw[if_neg hx] at p;exact p.elim
 rw[if_pos hx] at p
 obtain⟨⟨oc,od,osl,name,qual,params,kV,doc,pm,an,cdv,ct,ho,hcd,e1,e2,e3,e4,e5⟩,hnp,hnd,hloc,hco,hgen,hfk,hcell⟩:=Y
 obtain⟨pp,l,mean,mg,mb,T⟩:=C.T
 have hvl:vs.length=(fi.ns.take f.np).length:=by rw[hv.length,hx,List.length_take];omega
 have hndt:(fi.ns.take f.np).Nodup:=hnd.sublist (List.take_sublist ..)
 refine code_def (binds:=(fi.ns.take f.np).zip vs) C.B S.F S.kin S.N T C.hA rfl C.fk ho hcd (by have:=C.dp;omega) ?_ ?_ (λ g L' h₁ FG F' N' B' KG TG=>?_) hco hgen hfk hcell
 ·have hbp:=ki (s:=s) (fd:=fnOf name qual params body fi.sc .none kV doc pm an cdv ct) (vs:=vs) e1 e2 e3 e4 rfl (by show(params.args.map (·.arg)).Nodup;rw[e5];exact hndt) (by show _=(params.args.map (·.arg)).length;rw[e5];exact hvl)
  have e6:((fnOf name qual params body fi.sc .none kV doc pm an cdv ct).params.args.map (·.arg))=fi.ns.take f.np:=e5
  rw[e6] at hbp
  exact hbp
 ·intro y hy
  exact hloc _ (List.mem_of_mem_take (List.of_mem_zip hy).1)
 ·obtain⟨c',hc'⟩:∃ c':Cx,c'=⟨c.w,A,c.base,c.env::c.outer,g,L',qual,fi.sc,a,cdv,[]⟩:=⟨_,rfl⟩
  have henv:envOf qual fi.sc L' a cdv=c'.env:=by subst hc';rfl
  have hw:c'.w=c.w:=by subst hc';rfl
  have hg0:c'.h₀=g:=by subst hc';rfl
  have hL0:c'.L=L':=by subst hc';rfl
  have hA':(A.deeper c'.env).frames=some (c'.env::c'.outer):=by
   have:c'.outer=c.env::c.outer:=by subst hc';rfl
   rw[this]
   exact Around.frames_deeper C.hA
  have C':Cok K false n 8 c' (A.deeper c'.env):=by
   refine⟨by subst hc';exact B',hA',by subst hc';exact C.Tb,by subst hc';exact C.kb,by subst hc';exact hfk,λ h=>C.hh h,?_,?_⟩
   ·have:=C.dp
    show A.depth+1+8*n+8<recursionLimit
    omega
   ·have:=C.un
    show A.units+3+64*n+8*8<cLine
    omega
  have S':St K tb c'.w c'.h₀ c'.L h₁ (λ y=>((fi.ns.take f.np).zip vs).reverse.lookup y) M I H:=by
   rw[hw,hg0,hL0]
   exact⟨F',N',S.nd,S.ap,S.ro,KG,S.tw⟩
  have LL:LR K tb fi.ns (λ y=>((fi.ns.take f.np).zip vs).reverse.lookup y) I (z6 M) (xs.map some++List.replicate (f.names.length-f.np) none):=by
   intro i x hi
   have hi':xs[i]?=some x:=by
    rw[List.getElem?_append] at hi
    split at hi
    ·simpa using hi
    ·rw[List.getElem?_replicate] at hi
     split at hi<;>cases hi
   have hil:i<f.np:=by rw[←hx];exact(gs_ hi').1
   obtain⟨v,h1,h2⟩:=hv.get hi'
   have h3:i<fi.ns.length:=by omega
   have h4:(fi.ns.take f.np)[i]?=some fi.ns[i]:=by rw[List.getElem?_take,if_pos hil,List.getElem?_eq_getElem h3]
   exact⟨fi.ns[i],v,List.getElem?_eq_getElem h3,Xy hndt hvl h4 h1,h2⟩
  rw[henv]
  have hX:∀ k d H',(∀ e h' tk,XPost K tb c m M I k d H' e h'->X (.ref e) {s with heap:=h',toks:=tk})->∀ e h' tk m',XPost K tb c' m' M I k d H' e h'->
    wpAny (model pw c.w) (A.deeper c'.env) (leaving c'.env (.ref e)) (λ _ s''=>zy Q X (.error (.ref e)) s'') (λ e' s''=>zy Q X (.error e') s'') {s with heap:=h',toks:=tk}:=by
   intro k d H' hq e h' tk m' hp
   exact XPost.leave (s:={s with heap:=h',toks:=tk}) (c:=c) (c':=c') hw (by subst hc';rfl) (by subst hc';rfl) (by rw[hg0];exact FG) hA' hp λ h2 q2=>hq e h2 tk q2
  have hR:∀ (av:Value) (v:V) (H3:Hp) (h2:Heap) (tk2:Nat) (m2:Str->Option Value) (M2 I2:Led),Post K tb (zU K tb) c s m M I (.ok v H3) Q X->St K tb c'.w c'.h₀ c'.L h2 m2 M2 I2 H3->Ext M I M2 I2->RV K tb I2 (z6 M2) av v->
    LeaveK c.h₀ c.L m g (zy Q X) av {s with heap:=h2,toks:=tk2}:=by
   intro av v H3 h2 tk2 m2 M2 I2 q S3 x3 z3
   rw[hg0,hL0,hw] at S3
   exact leaveK_ (s':={s with heap:=h2,toks:=tk2}) S3.F S3.N λ F2 N2=>q av h2 tk2 M2 I2 ⟨F2,N2,S3.nd,S3.ap,S3.ro,S.kin,S.tw⟩ x3 z3
  cases hfl:f.pure_&&V.flatIn.flatL xs with
  | false=>
   rw[hfl] at p
   dsimp only at p
   have key:=hb c' (A.deeper c'.env) {s with heap:=h₁,toks:=s.toks+((fi.ns.take f.np).zip vs).length} _ M I _ H
    (λ fl s'=>LeaveK c.h₀ c.L m g (zy Q X) (match fl with | .ret v=>v | _=>.none) s')
    (λ e s'=>wpAny (model pw c.w) (A.deeper c'.env) (leaving c'.env e) (λ _ s''=>zy Q X (.error e) s'') (λ e' s''=>zy Q X (.error e') s'') s')
    C' (by subst hc';rfl) (by show 1<=s.toks+_;omega) S' LL ?_
   ·rw[hw] at key
    exact key
   ·cases hev:o (xs.map some++List.replicate (f.names.length-f.np) none) H with
    | next L2 H2=>
     rw[hev] at p
     intro h2 tk2 m2 M2 I2 S2 x2 l2
     simp only[yt] at p
     split at p
     ·split at p
      ·rename_i hpf
       obtain⟨J,rfl⟩:=wi hpf
       obtain⟨S3,x3⟩:=St.cut S S2 x2
       exact hR .none .none H h2 tk2 m2 _ I2 p S3 x3 .none
      ·exact p.elim
     ·exact hR .none .none H2 h2 tk2 m2 M2 I2 p S2 x2 .none
    | cont L2 H2=>rw[hev] at p;exact p.elim
    | ret v H2=>
     rw[hev] at p
     intro av h2 tk2 m2 M2 I2 S2 x2 z2
     simp only[yt] at p
     split at p
     ·split at p
      ·rename_i hpf
       rw[Bool.and_eq_true] at hpf
       obtain⟨J,rfl⟩:=wi hpf.1
       obtain⟨S3,x3⟩:=St.cut S S2 x2
       exact hR av v H h2 tk2 m2 _ I2 p S3 x3 (RV.flat hpf.2 z2)
      ·exact p.elim
     ·exact hR av v H2 h2 tk2 m2 M2 I2 p S2 x2 z2
    | exc k d H2=>
     rw[hev] at p
     exact hX k d H2 p
    | bad=>rw[hev] at p;exact p.elim
  | true=>
   rw[hfl] at p
   dsimp only at p
   rw[Bool.and_eq_true] at hfl
   have S1:=S'.fresh
   have LL1:LR K tb fi.ns (λ y=>((fi.ns.take f.np).zip vs).reverse.lookup y) (M++I) (z6 []) (xs.map some++List.replicate (f.names.length-f.np) none):=by
    intro i x hi
    obtain⟨nm,u,h1,h2,h3⟩:=LL i x hi
    have hx1:x.flatIn=true:=by
     have hi':xs[i]?=some x:=by
      rw[List.getElem?_append] at hi
      split at hi
      ·simpa using hi
      ·rw[List.getElem?_replicate] at hi
       split at hi<;>cases hi
     exact Y8 hfl.2 hi'
    exact⟨nm,u,h1,h2,RV.flatSub (λ p hp _=>List.mem_append_right _ hp) hx1 h3⟩
   have key:=hb c' (A.deeper c'.env) {s with heap:=h₁,toks:=s.toks+((fi.ns.take f.np).zip vs).length} _ [] (M++I) _ []
    (λ fl s'=>LeaveK c.h₀ c.L m g (zy Q X) (match fl with | .ret v=>v | _=>.none) s')
    (λ e s'=>wpAny (model pw c.w) (A.deeper c'.env) (leaving c'.env e) (λ _ s''=>zy Q X (.error e) s'') (λ e' s''=>zy Q X (.error e') s'') s')
    C' (by subst hc';rfl) (by show 1<=s.toks+_;omega) S1 LL1 ?_
   ·rw[hw] at key
    exact key
   ·cases hev:o (xs.map some++List.replicate (f.names.length-f.np) none) [] with
    | next L2 H2=>
     rw[hev] at p
     intro h2 tk2 m2 M2 I2 S2 x2 l2
     obtain⟨S3,x3,_⟩:=St.unfresh S' S2 x2
     exact hR .none .none H h2 tk2 m2 _ _ p S3 x3 .none
    | cont L2 H2=>rw[hev] at p;exact p.elim
    | ret v H2=>
     rw[hev] at p
     intro av h2 tk2 m2 M2 I2 S2 x2 z2
     simp only[yB] at p
     split at p
     ·rename_i hvf
      obtain⟨S3,x3,hs3⟩:=St.unfresh S' S2 x2
      exact hR av v H h2 tk2 m2 _ _ p S3 x3 (RV.flatSub hs3 hvf z2)
     ·exact p.elim
    | exc k d H2=>
     rw[hev] at p
     simp only[yB] at p
     split at p
     ·rename_i l hl
      split at p
      ·rename_i hlf
       intro e h2 tk2 m2 hq
       exact hX k H.length _ p e h2 tk2 m2 (hq.unfresh S' hl hlf)
      ·exact p.elim
     ·exact p.elim
    | bad=>rw[hev] at p;exact p.elim
end
end
section
open PyProof.Rows PySem.Calls PySem.Spec PySem.W
noncomputable def rN:FRow:=⟨58,711,bd 130,"_law_is_name",(.str "law_no0290_02" 1324),.ref 710,[("text":Str),("strange":Str)]⟩
theorem nmK(P:Params)(x:Addr×Obj):FnK (KX P x) 711 1 (fiO rN) (xC (bd 130)):=ko (r:=rN) (np:=1) (by kernel_rfl) (by kernel_rfl) (by decide +kernel) (by decide +kernel) (by decide +kernel)
noncomputable def LETS:List Nat:=@"ABCDEFGHIJKLMNOPQRSTUVWXYZ"
noncomputable def DIGS:List Nat:=@"0123456789"
theorem KL(P:Params)(x:Addr×Obj):nsIn (KX P x) mainGlobals "_law_letters"=some (some (.str (z0 LETS) 1350)):=by kernel_rfl
theorem XC(P:Params)(x:Addr×Obj):nsIn (KX P x) mainGlobals "_law_digits"=some (some (.str (z0 DIGS) 1352)):=by kernel_rfl
theorem z3b(P:Params)(x:Addr×Obj):nsIn (KX P x) mainGlobals "len"=some none:=by kernel_rfl
theorem ZF{w':World}(hw:w'=w){x:Addr×Obj}{cenv:Env}{s₂:Shared}{m₂:Str->Option Value}{c:Nat}{u t:Tok}{g:List Nat}{nm:Str}{p3:Pos}{whole:Sem Value}{Q:Bool->Shared->Prop}{E:Value->Shared->Prop}{pp:_}{ll:_}{mean:_}(hu:A.units+8<cLine)(hk:cenv.scope.kind=.function)(hs:cenv.kindOf "sign"=some .local)(hl:cenv.kindOf nm=some .globalImplicit)(hg:cenv.globals=mainGlobals)(hd:(nm==("__debug__":Str))=false)(hK:(KX w.params x).In h₀)(T:Top pp ll mean mg mb h₀)(F:Fr h₀ C s₂.heap m₂)(hC:cenv.locals=C)(hm:m₂ "sign"=some (.str ⟨#[c]⟩ u))(e:nsIn (KX w.params x) mainGlobals nm=some (some (.str (z0 g) t)))(hc:zu [c])(hg':zu g)(q:∀ tk,Q (!g.contains c) {s₂ with toks:=tk}):wpAny (model pw w') A (isTrue (.Compare (.Name "sign" p2) [.NotIn] [.Name nm p3] pos) cenv whole) Q E s₂:=by
 subst hw
 refine wpAny_isTrue_Compare1 (wpAny_Name (wpAny_loadName_local hk hs (hC ▸ F.ns) hm ?_) (by decide)) rfl
 refine nameG_K F hK (topRead_of T) e ?_ hg hk hl hd
 have S:St (KX w'.params x) (zi w') w' h₀ C s₂.heap m₂ [] [] []:=⟨F,λ p hp=>(by cases hp),List.nodup_nil,λ p hp=>(by cases hp),ROs.nil,hK,rfl⟩
 exact XO (k:=.notin) (c:=⟨w',A,h₀,[],h₀,C,"",cenv.scope,0,.none,[]⟩) (x:=.str [c]) (y:=.str g) (r:=!g.contains c) hu (amb w' x).sys S (.str _ hc) (.str _ hg') rfl λ tk=>wpAny_truthy_bool (q tk)
noncomputable def G2(i:Nat):Option V:=if i=200 then some (.str LETS) else if i=201 then some (.str DIGS) else G_ i
noncomputable def gn2(i:Nat):Option Str:=if i=200 then some "_law_letters" else if i=201 then some "_law_digits" else gnF i
set_option tactic.hygienic true in
theorem amb2(w:World)(x:Addr×Obj):Amb (KX w.params x) (zi w) G2 gn2 where
 sys:=(amb w x).sys
 g:=λ i y n h1 h2=>by
  unfold gn2 at h1
  unfold G2 at h2
  split at h1
  ·rename_i hi
   rw[if_pos hi] at h2
   cases h1;cases h2
   exact⟨_,KL _ _,λ I μ=>.str _ (zk (by decide))⟩
  ·rename_i hi
   rw[if_neg hi] at h2
   split at h1
   ·rename_i hi2
    rw[if_pos hi2] at h2
    cases h1;cases h2
    exact⟨_,XC _ _,λ I μ=>.str _ (zk (by decide))⟩
   ·rename_i hi2
    rw[if_neg hi2] at h2
    exact(amb w x).g i y n h1 h2
 b:=(amb w x).b
 fk:=(amb w x).fk
theorem ambK2(w:World)(x:Addr×Obj):AmbK (KX w.params x) (zi w) G2 gn2 anL:=⟨amb2 w x,ambC w x,ambA w x,ambX w x⟩
noncomputable def qu(c:Nat):Bool:=!LETS.contains c&&!DIGS.contains c
noncomputable def xu(s:List Nat):List V:=(s.filter qu).map λ c=>.str [c]
noncomputable def z0X:S:=.cons (.ret (.and_ (.cmp .ne (.loc 0) (.cst (.str []))) (.and_ (.cmp .in_ (.idx (.loc 0) (.cst (.int 0))) (.glb 200)) (.and_ (.cmp .eq (.loc 1) (.lst .nil)) (.cmp .lt (.bi .len (.cons (.loc 0) .nil)) (.cst (.int 7))))))) .nil
noncomputable def W4(F:Fn)(L:Lc)(H:Hp):Out:=match (L[0]?:Option (Option V)) with
 | some (some (V.str s))=>evS G2 F 2000 z0X [some (.str s),some (.ref H.length)] (H++[.lst (xu s)])
 | _=>.bad
theorem z03:qk gn2 anL rnF cnF false (fiO rN) 60 z0X ((xC (bd 130)).drop 1)=true:=by decide +kernel
theorem Zz{K:Frag}{tb:Tab}{l:List Nat}:∀ {ys:List Value},zu l->CarriedAll ys (l.map λ c=>PyData.str ⟨#[c]⟩)->RVs K tb I μ ys (l.map λ c=>.str [c]):=by
 induction l with
 | nil=>exact λ _ h=>by cases h;exact .nil
 | cons c r ih=>
  intro ys hl h
  cases h with
  | cons h1 h2=>
   cases h1
   exact .cons (.str _ (xF hl (.head _))) (ih (yW hl (λ x hx=>.tail _ hx) (Nat.le_succ _)) h2)
theorem lc_ex:∃ p1 p2 p3 p4 p5 p6 p7 p8 p9 p10 p11 p12 sc p13 rest,xC (bd 130)=.Assign [.Name "strange" p1] (.ListComp (.Name "sign" p2) [⟨.Name "sign" p3,.Name "text" p4,[.BoolOp .And [.Compare (.Name "sign" p5) [.NotIn] [.Name "_law_letters" p6] p7,.Compare (.Name "sign" p8) [.NotIn] [.Name "_law_digits" p9] p10] p11],0⟩] sc p12) p13::rest /\
  (p1.line==p12.line)=true/\sc.kind=.function/\sc.names=[((".0":Str),.local),(("sign":Str),.local),(("_law_letters":Str),.globalImplicit),(("_law_digits":Str),.globalImplicit)]:=⟨_,_,_,_,_,_,_,_,_,_,_,_,_,_,_,rfl,rfl,rfl,rfl⟩
noncomputable def pzN(a:Str):Bool:=match a.cps.toList with | [c]=>qu c | _=>false
theorem X3(s:List Nat)(p:Nat->Bool)(pz:Str->Bool)(h:∀ c,pz ⟨#[c]⟩=p c):((signs (z0 s)).filter pz).map (λ a=>PyData.str a)=(s.filter p).map λ c=>PyData.str ⟨#[c]⟩:=by
 unfold signs z0
 induction s with
 | nil=>rfl
 | cons c r ih=>
  simp only[List.map_cons,List.filter_cons,h] at ih ⊢
  split
  ·simp only[List.map_cons,ih]
  ·exact ih
theorem Xa{M:Model}{s:Shared}{cenv:Env}{Q:Bool->Shared->Prop}{E:Value->Shared->Prop}(h:wpAny M A (isTrue t cenv (eval t cenv)) Q E s) :
  wpAny M A (forIn [t] true λ c r=>if r=true then do let ok ←isTrue c cenv (eval c cenv);pure (ForInStep.yield ok) else pure (ForInStep.yield r)) Q E s:=by
 simp only[List.forIn_cons,List.forIn_nil,if_true,bind_assoc,pure_bind]
 refine wpAny_bind (wpAny_mono h (λ b s' hb=>wpAny_pure hb) λ _ _ e=>e)
theorem ZV{sc:Scope}{env:Env}{y:Str}(h:sc.names=[((".0":Str),.local),(("sign":Str),.local),(("_law_letters":Str),.globalImplicit),(("_law_digits":Str),.globalImplicit)])(hy:sc.names.lookup y=some .globalImplicit):(compEnvC sc [] C env).kindOf y=some .globalImplicit:=by
 show(relabel sc env).names.lookup y=_
 unfold relabel
 rw[h] at hy ⊢
 exact hy
set_option tactic.hygienic true in
theorem nm_ss{x:Addr×Obj}{F:Fn}{n:Nat}(hF:Xf (KX w.params x) (zi w) F n):SSo (KX w.params x) (zi w) n (fiO rN) (W4 F) (xC (bd 130)):=by
 obtain⟨p1,p2,p3,p4,p5,p6,p7,p8,p9,p10,p11,p12,sc,p13,rest,hb,hln,hsk,hsn⟩:=lc_ex
 have h2:qk gn2 anL rnF cnF false (fiO rN) 60 z0X rest=true:=by have:=z03;rw[hb] at this;exact this
 have hret:=(vR (W:=2000) (ambK2 w x) (Q8 w x) (by decide +kernel) hF 60).2 _ _ h2
 rw[hb]
 intro c A s m M I L H Q X C hs ht S LL p
 unfold W4 at p
 split at p
 case h_2=>exact p.elim
 rename_i l hl
 obtain⟨nm,v,q1,q2,q3⟩:=LL 0 _ hl
 cases q1
 cases q3 with
 | str tk hok=>
  have hkt:∀ y,c.env.kindOf y=(fiO rN).sc.names.lookup y:=λ y=>by show c.scope.names.lookup y=_;rw[hs]
  obtain⟨pp,ll,mean,mg,mb,T⟩:=C.T
  have hcf:(c.scope.kind==.class||(c.scope.kind==.module&&c.env.locals !=c.env.globals))=false:=by rw[C.fk];rfl
  have hsw:∀ (e:Expr) (g:List Comprehension) (ln:Nat),swapsWith (.ListComp e g sc p12) (some (.Name "strange" p1)) ln c.env=pure true:=λ e g ln=>by
   show(pure (c.env.blockKind==.function&&c.env.kindOf "strange"==some .local&&p1.line==p12.line&&!(sc.names.any λ(n,k)=>n=="strange"&&(k==.local||k==.cell))):Sem Bool)=pure true
   have hbk:c.env.blockKind=.function:=by simp [Env.blockKind,C.fk,ScopeKind.isAnnotationScope]
   rw[hln,hsn,(hkt "strange").trans (show _=some .local by decide +kernel),hbk]
   rfl
  refine wpAny_execs_cons (wp1 ht (V2 (news:=M++I) (h₀:=c.h₀) (L:=c.L) (m:=m) (d:=λ a=>.str a) (pz:=pzN) (hsw _ _ _) rfl (C.hh rfl) (closureFor_none (by rw[hsn];decide)) (by rw[hsn];decide) hsk (by rw[hsn];decide) (by rw[hsn];decide) ((hkt _).trans (by decide +kernel)) hcf (nameX_L S.F q2 ?_ C.fk ((hkt _).trans (by decide +kernel)) (by decide)) (λ _=>rfl)))
  refine⟨z0 l,tk,rfl,?_,S.F,S.N,?_,?_,?_⟩
  ·have:=hok.2
   show l.toArray.size<=sizeLine
   unfold sizeLine
   simp only[List.size_toArray]
   omega
  ·intro C' a v s₂ m₂ E' hC ha hns hm hk
   obtain⟨ch,u,rfl,rfl,hmem⟩:=ha
   have hchm:ch∈l:=by simpa [z0] using hmem
   have okc:=xF hok hchm
   have hkk:(compEnvC sc [] C' c.env).scope.kind=.function:=hsk
   have hks:(compEnvC sc [] C' c.env).kindOf "sign"=some .local:=lookup_relabel_local (by rw[hsn];rfl)
   have hkg:∀ y,sc.names.lookup y=some .globalImplicit->(compEnvC sc [] C' c.env).kindOf y=some .globalImplicit:=λ y hy=>ZV hsn hy
   have F2:Fr s.heap C' s₂.heap m₂:=⟨hns,hk,hC⟩
   have hin:(KX w.params x).In s.heap:=S.kin.keeps S.F.keep
   have hun:A.units+8<cLine:=un8 C
   have hb2:pzN ⟨#[ch]⟩=(!LETS.contains ch&&(!DIGS.contains ch&&true)):=by show qu ch=_;unfold qu;rw[Bool.and_true]
   have hw:c.w=w:=S.tw.symm
   have T2:=T.keeps S.F.keep
   refine Xa (isTrue_and (ZF hw hun hkk hks (hkg _ (by rw[hsn];rfl)) rfl (by decide) hin T2 F2 rfl hm (KL _ _) okc (zk (by decide)) λ tk1=>?_))
   cases hL1:LETS.contains ch with
   | true=>exact⟨by rw[hb2,hL1];rfl,_,_,rfl,λ b o e=>e⟩
   | false=>
    rw[Bool.not_false,if_pos rfl]
    refine isTrue_and (ZF (s₂:={s₂ with toks:=tk1}) hw hun hkk hks (hkg _ (by rw[hsn];rfl)) rfl (by decide) hin T2 F2 rfl hm (XC _ _) okc (zk (by decide)) λ tk2=>?_)
    cases hL2:DIGS.contains ch with
    | true=>exact⟨by rw[hb2,hL1,hL2];rfl,_,_,rfl,λ b o e=>e⟩
    | false=>
     rw[Bool.not_false,if_pos rfl]
     exact isTrue_and_nil ⟨by rw[hb2,hL1,hL2];rfl,_,_,rfl,λ b o e=>e⟩
  ·intro C' a v s₂ m₂ E' hC ha hpz hns hm hk
   obtain⟨ch,u,rfl,rfl,hmem⟩:=ha
   refine wpAny_Name (wpAny_loadName_local (by show(relabel sc c.env).kind=_;rw[show(relabel sc c.env).kind=sc.kind from rfl];exact hsk) (lookup_relabel_local (by rw[hsn];rfl)) hns hm ?_) (by decide)
   exact⟨.str _ u,_,_,rfl,λ b o e=>e⟩
  ·intro D ys h' tk' F' N' hD hIL hNP hcar ht'
   dsimp only
   rw[X3 l qu pzN (λ c=>rfl)] at hcar
   have hrv:=Zz (K:=KX w.params x) (tb:=zi w) (I:=I) (μ:=z6 M) (yW hok (λ y hy=>(List.mem_filter.mp hy).1) (List.length_filter_le _ _)) hcar
   obtain⟨⟨n',hD'⟩,hnD⟩:=hNP
   have S0:St (KX w.params x) (zi w) c.w c.h₀ c.L h' (λ z=>if z=("strange":Str) then some (.ref D) else m z) M I H:=⟨F',N',S.nd,S.ap,S.ro,S.kin,S.tw⟩
   have hDL:D≠c.L:=NewPlain.ne_locals ⟨⟨n',hD'⟩,hnD⟩ F'
   have xe:Ext M I (M++[(D,{cls:=.type "list",data:=.seq ys.toArray n'})]) I:=⟨λ _ h=>h,λ _ _ h=>getElem?_map_append_left h⟩
   have N2:News c.h₀ c.L h' ((D,{cls:=.type "list",data:=.seq ys.toArray n'})::(M++I)):=by
    intro p hp
    rcases mc_ hp with rfl | hp
    ·exact⟨hD',hDL,hD⟩
    ·exact N' p hp
   obtain⟨S2,e2⟩:=St.newM (s:=⟨h',s.gens,s.drawn,tk',s.os⟩) (ob:={cls:=.type "list",data:=.seq ys.toArray n'}) (o:=.lst (xu l)) S0 hnD F' N2 (RO.lst (hrv.ext xe) (by
    have:=List.length_filter_le qu l
    have:=hok.2
    simp only[xu,List.length_map]
    omega))
   refine hret c A _ _ _ _ [some (.str l),some (.ref H.length)] _ _ _ C hs ht' S2 ?_ (PostS.ext e2 p)
   intro i y hy
   match i with
   | 0=>
    cases hy
    refine⟨"text",_,rfl,?_,.str tk hok⟩
    show(if ("text":Str)="strange" then _ else m "text")=_
    rw[if_neg (by decide)]
    exact q2
   | 1=>
    cases hy
    refine⟨"strange",_,rfl,if_pos rfl,.ref ?_⟩
    rw[←S.ro.length]
    exact zG
   | i+2=>cases hy
noncomputable def F0:Fn:=λ _ _ _=>.bad
theorem fn0{K:Frag}{tb:Tab}{n:Nat}:Xf K tb F0 n:=λ k a xs vs c A s m M I H Q X _ _ _ _ _ p=>p.elim
theorem jP(c a n:Nat):(List.range' a n).contains c=(decide (a<=c)&&decide (c<a+n)):=by
 rw[Bool.eq_iff_iff,List.contains_iff_mem,List.mem_range'_1,Bool.and_eq_true,decide_eq_true_eq,decide_eq_true_eq]
theorem ZC(c:Nat):LETS.contains c=lenV.upB c:=(jP c 65 26).trans (congrArg (decide (65<=c)&&·) (decide_eq_decide.mpr Nat.lt_succ_iff))
theorem kf(c:Nat):DIGS.contains c=lenV.dgB c:=(jP c 48 10).trans (congrArg (decide (48<=c)&&·) (decide_eq_decide.mpr Nat.lt_succ_iff))
theorem kE:∀ s:List Nat,(s.filter qu).isEmpty=s.all (λ c=>lenV.upB c||lenV.dgB c)
 | []=>rfl
 | c::r=>by
  have hb:qu c=!(lenV.upB c||lenV.dgB c):=by unfold qu;rw[ZC,kf,Bool.not_or]
  rw[List.filter_cons,hb,List.all_cons]
  cases h:(lenV.upB c||lenV.dgB c) with
  | true=>simpa using kE r
  | false=>rfl
theorem X0(n:Nat)(H:Hp):∀ l:List Nat,jp n H (l.map λ c=>.str [c])=some (l.map λ c=>PyData.str (z0 [c]))
 | []=>by simp [yL,yJ,w8,ye,w0,xL,xZ,yP,y6,y7]
 | a::r=>by
  have h1:toD n H (.str [a])=some (.str (z0 [a])):=by cases n<;>simp [yL,yJ,w8,ye,w0,xL,xZ,yP,y6,y7]
  simp only[List.map_cons,yL,yJ,w8,ye,w0,xL,xZ,yP,y6,y7,h1,X0 n H r]
theorem z34(s:List Nat):∃ J,W4 F0 [some (.str s),none] []=.ret (.bool (lenV.isNameB s)) J:=by
 unfold W4 z0X
 show ∃ J,evS G2 F0 2000 _ [some (.str s),some (.ref 0)] [.lst (xu s)]=_
 have hg:G2 200=some (.str LETS):=rfl
 cases s with
 | nil=>exact⟨_,rfl⟩
 | cons c r=>
  have h1:zd .ne (.str (c::r)) (.str []) [.lst (xu (c::r))]=some true:=rfl
  have h2:zC [.lst (xu (c::r))] (.str (c::r)) (.int 0)=some (.str [c]):=rfl
  have h3:zd .in_ (.str [c]) (.str LETS) [.lst (xu (c::r))]=some (LETS.contains c):=rfl
  cases hu:LETS.contains c with
  | false=>
   rw[hu] at h3
   refine⟨[.lst (xu (c::r))],?_⟩
   simp only[x_cons,x_if,t_or,t_and,t_not,t_cmp,t_call,x_ret,e_or,e_and,e_not,e_ite,e_cmp,e_cst,e_loc,e_glb,e_idx,r_tat,r_taf,r_tot,r_tof,r_tcm,r_tru,r_not,r_cmp,r_e1,r_e1b,r_idx,r_itt,r_itf,r_ant,r_anf,r_ort,r_orf,r_nb,locR_s,List.getElem?_cons_zero,R.bind_ok,lift_some,h1,Option.map_some,h2,hg,h3,out_ok,thn_next,ifK_t,ifK_f]
   rw[ZC] at hu
   simp [lenV.isNameB,hu]
  | true=>
   rw[hu] at h3
   have h4:zd .eq (.ref 0) (.ref 1) [.lst (xu (c::r)),.lst []]=some ((c::r).filter qu).isEmpty:=by
    have e1:toD 4 [.lst (xu (c::r)),.lst []] (.ref 0)=some (.list (((c::r).filter qu).map λ c=>PyData.str (z0 [c]))):=by
     simp only[yL,yJ,w8,ye,w0,xL,xZ,yP,y6,y7,List.getElem?_cons_zero,xu,X0,Option.map_some]
    have e2:toD 4 [.lst (xu (c::r)),.lst []] (.ref 1)=some (.list []):=by
     simp only[yL,yJ,w8,ye,w0,xL,xZ,yP,y6,y7,List.getElem?_cons_zero,List.getElem?_cons_succ,Option.map_some]
    simp only[zd,eqV,eqD,e1,e2]
    cases (c::r).filter qu<;>rfl
   cases he:((c::r).filter qu).isEmpty with
   | false=>
    rw[he] at h4
    refine⟨[.lst (xu (c::r)),.lst []],?_⟩
    simp only[x_cons,x_if,t_or,t_and,t_not,t_cmp,t_call,x_ret,e_or,e_and,e_not,e_ite,e_cmp,e_cst,e_loc,e_glb,e_idx,r_tat,r_taf,r_tot,r_tof,r_tcm,r_tru,r_not,r_cmp,r_e1,r_e1b,r_idx,r_itt,r_itf,r_ant,r_anf,r_ort,r_orf,r_nb,r_ls,r_l,r_bi,e_lst,li0,li1,e_bi,l_nil,l_cons,locR_s,List.getElem?_cons_zero,List.getElem?_cons_succ,R.bind_ok,lift_some,h1,Option.map_some,h2,hg,h3,out_ok,thn_next,ifK_t,ifK_f,List.length_nil,List.length_cons,Nat.zero_add,List.cons_append,List.nil_append,Nat.reduceLT,decide_true,if_true,h4]
    rw[kE] at he
    simp only[lenV.isNameB,he]
    simp
   | true=>
    rw[he] at h4
    have h5:∀ G,biV .len [.str (c::r)] G=some (.int (((c::r).length:Nat):Int)):=λ G=>rfl
    have h6:∀ (a:Int) G,zd .lt (.int a) (.int 7) G=some (decide (a<7)):=λ a G=>rfl
    refine⟨[.lst (xu (c::r)),.lst []],?_⟩
    simp only[x_cons,x_if,t_or,t_and,t_not,t_cmp,t_call,x_ret,e_or,e_and,e_not,e_ite,e_cmp,e_cst,e_loc,e_glb,e_idx,r_tat,r_taf,r_tot,r_tof,r_tcm,r_tru,r_not,r_cmp,r_e1,r_e1b,r_idx,r_itt,r_itf,r_ant,r_anf,r_ort,r_orf,r_nb,r_ls,r_l,r_bi,e_lst,li0,li1,e_bi,l_nil,l_cons,locR_s,List.getElem?_cons_zero,List.getElem?_cons_succ,R.bind_ok,lift_some,h1,Option.map_some,h2,hg,h3,out_ok,thn_next,ifK_t,ifK_f,List.length_nil,List.length_cons,Nat.zero_add,List.cons_append,List.nil_append,Nat.reduceLT,decide_true,if_true,h4,h5,h6]
    rw[kE] at he
    rw[ZC] at hu
    simp only[lenV.isNameB,he,hu,Bool.true_and]
    have e:decide ((((c::r).length:Nat):Int)<7)=decide ((c::r).length<7):=by
     rw[decide_eq_decide];omega
    exact congrArg (λ b=>Out.ret (V.bool b) _) e
theorem VQ{x:Addr×Obj}{n:Nat}{a:Addr}{s:Shared}(ha:(zi w).f 58=some a)(C:Cok (KX w.params x) false n 10 c A)(ht:1<=s.toks)(S:St (KX w.params x) (zi w) c.w c.h₀ c.L s.heap m M I H)(hv:RVs (KX w.params x) (zi w) I (z6 M) vs xs)(p:Post (KX w.params x) (zi w) (zU (KX w.params x) (zi w)) c s m M I (lift H (QE xs)) Q X):codeAny (model pw c.w) A (.call (.ref a) ⟨vs,[]⟩) (zy Q X) s:=by
 have ha':a=711:=by
  have:(zi w).f 58=some 711:=by rfl
  rw[this] at ha
  exact(Option.some.inj ha).symm
 subst ha'
 have key:∀ t:List Nat,xs=[.str t]->codeAny (model pw c.w) A (.call (.ref 711) ⟨vs,[]⟩) (zy Q X) s:=by
  rintro t rfl
  refine Vp (k:=58) (f:=⟨"_law_is_name",1,["text","strange"],true,.bad⟩) (o:=W4 F0) (nmK w.params x) (nm_ss fn0) (by decide +kernel) C ht S hv ?_
  obtain⟨J,hJ⟩:=z34 t
  have:W4 F0 ([V.str t].map some++List.replicate (2-1) none) []=.ret (.bool (lenV.isNameB t)) J:=hJ
  show Post _ _ _ c s m M I (yB H (W4 F0 ([V.str t].map some++List.replicate (2-1) none) [])) Q X
  rw[this]
  exact p
 unfold QE at p
 split at p
 ·exact key _ rfl
 ·exact p.elim
noncomputable def CS(g:Heap)(L C0:Addr)(I:Led)(m:Str->Option Value)(ov:Option Value)(h:Heap):Prop:=Fr g L h m/\∃ o:Obj,o.data=.cell ov/\News g L h ((C0,o)::I)
section
variable {w:World}{x:Addr×Obj}{A:Around}{g:Heap}{L C0:Addr}{I:Led}{m:Str->Option Value}{ov:Option Value}{env:Env}
variable (w x A g L C0 I m env) in
noncomputable def EV(ov:Option Value)(t:Expr)(y:V):Prop:=∀ (s:Shared) (Q:Value->Shared->Prop) (X:Value->Shared->Prop),CS g L C0 I m ov s.heap->
 (∀ u h' tk,CS g L C0 I m ov h'->RV (KX w.params x) (zi w) [] [] u y->Q u {s with heap:=h',toks:=tk})->wpAny (model pw w) A (eval t env) Q X s
variable (w x A g L C0 I m env) in
noncomputable def EB(ov:Option Value)(t:Expr)(b:Bool):Prop:=∀ (s:Shared) (Q:Bool->Shared->Prop) (X:Value->Shared->Prop),CS g L C0 I m ov s.heap->
 (∀ h' tk,CS g L C0 I m ov h'->Q b {s with heap:=h',toks:=tk})->wpAny (model pw w) A (isTrue t env (eval t env)) Q X s
theorem CS.st(S:CS g L C0 I m ov h)(hK:(KX w.params x).In g):∃ I',St (KX w.params x) (zi w) w g L h m [] I' []:=by
 obtain⟨F,o,ho,N⟩:=S
 exact⟨(C0,o)::I,F,N,List.nodup_nil,λ p hp q=>(by cases q),ROs.nil,hK,rfl⟩
theorem CS.push(S:CS g L C0 I m ov h)(o:Obj):CS g L C0 I m ov (h.push o):=by
 obtain⟨F,q,hq,N⟩:=S
 exact⟨Fr.push F o,q,hq,News.pushKeep N o⟩
theorem wA{u:Value}(h:RV (KX w.params x) (zi w) [] [] u y):RV (KX w.params x) (zi w) I' μ u y:=h.mono (λ p hp=>by cases hp) (λ i a e=>by simp at e)
noncomputable def cxO(w:World)(A:Around)(g:Heap)(L:Addr)(sc:Scope):Cx:=⟨w,A,g,[],g,L,"",sc,0,.none,[]⟩
theorem v0{l:List Nat}{p:Pos}(h:zu l):EV w x A g L C0 I m env ov (.Constant (.str (z0 l)) k p) (.str l):=λ s Q X S q=>wpAny_Constant_str (q _ s.heap _ S (.str _ h))
theorem v7{i:Int}{p:Pos}:EV w x A g L C0 I m env ov (.Constant (.int i) k p) (.int i):=λ s Q X S q=>wpAny_Constant_int (q _ s.heap _ S (.int _ _))
theorem Q2{i:Int}{p:Pos}(h:EV w x A g L C0 I m env ov t (.int i)):EV w x A g L C0 I m env ov (.UnaryOp .USub t p) (.int (-i)):=λ s Q X S q=>
 wpAny_UnaryOp (h s _ _ S λ u h' tk S' z=>by cases z;exact PyProof.Rows.neg_int (q _ h' _ S' (.int _ _)))
theorem qb{k:Cop}{z:V}{l r:Expr}{p:Pos}{b:Bool}(hK:(KX w.params x).In g)(hu:A.units+8<cLine)(hm:behindInMarks (wo k) r=false)(hl:EV w x A g L C0 I m env ov l y)(hr:EV w x A g L C0 I m env ov r z)(hb:zd k y z []=some b) :
  EB w A g L C0 I m env ov (.Compare l [wo k] [r] p) b:=λ s Q X S q=>
 wpAny_isTrue_Compare1 (hl s _ _ S λ u h' tk S' z1=>hr {s with heap:=h',toks:=tk} _ _ S' λ v h2 tk2 S2 z2=>by
  obtain⟨I',S3⟩:=S2.st (w:=w) (x:=x) hK
  exact XO (c:=cxO w A g L default) (s:={s with heap:=h2,toks:=tk2}) hu (amb w x).sys S3 (wA z1) (wA z2) hb λ tk3=>wpAny_truthy_bool (q h2 tk3 S2)) hm
theorem z3a{z v:V}{l r:Expr}{p:Pos}(hK:(KX w.params x).In g)(hsl:∀ o i,subscripted r false o i=operate [o,i] (getItem o i))(hl:EV w x A g L C0 I m env ov l y)(hr:EV w x A g L C0 I m env ov r z)(hb:zC [] y z=some v)(hf:∀ (I':Led) (u:Value),RV (KX w.params x) (zi w) I' [] u v->RV (KX w.params x) (zi w) [] [] u v) :
  EV w x A g L C0 I m env ov (.Subscript l r p) v:=λ s Q X S q=>
 Subscript_ (hl s _ _ S λ u h' tk S' z1=>hr {s with heap:=h',toks:=tk} _ _ S' λ u2 h2 tk2 S2 z2=>by
  obtain⟨I',S3⟩:=S2.st (w:=w) (x:=x) hK
  exact idxS (c:=cxO w A g L default) (s:={s with heap:=h2,toks:=tk2}) hsl S3 (wA z1) (wA z2) hb λ u3 tk3 z3=>q u3 h2 tk3 S2 (hf _ _ z3))
end
section
variable {w:World}{x:Addr×Obj}{A:Around}{g:Heap}{L C0 a:Addr}{I:Led}{m:Str->Option Value}{ov:Option Value}{cn:Str}{cs:Scope}{ccd:Value}{cl:List (Str×Addr)}{pp:Program}{ll:List Str}{mean:ExcName->Option Value}{mg mb:Str->Option Value}
theorem z0M{p:Pos}(hm:m "text"=some v)(hv:RV (KX w.params x) (zi w) [] [] v y)(hk:cs.kind=.function)(hx:cs.names.lookup ("text":Str)=some .local):EV w x A g L C0 I m (envX cn cs L a ccd cl) ov (.Name "text" p) y:=
 λ s Q X S q=>nameX_L S.1 hm (q v s.heap s.toks S hv) hk hx (by decide)
theorem wb{p:Pos}(hv:RV (KX w.params x) (zi w) [] [] v y)(hk:cs.kind=.function)(hc:cl.lookup ("inner":Str)=some C0)(hx:cs.names.lookup ("inner":Str)=some .cell):EV w x A g L C0 I m (envX cn cs L a ccd cl) (some v) (.Name "inner" p) y:=
 λ s Q X S q=>by
  obtain⟨F,o,ho,N⟩:=S
  exact nameX_C N hc (.head _) ho (q v s.heap s.toks ⟨F,o,ho,N⟩ hv) hk hx (by decide)
noncomputable def EP(w:World)(x:Addr×Obj)(A:Around)(g:Heap)(L C0:Addr)(I:Led)(m:Str->Option Value)(env:Env)(ov:Option Value):Option Expr->Option Int->Prop
 | none,none=>True
 | some t,some i=>EV w x A g L C0 I m env ov t (.int i)
 | _,_=>False
theorem VL{env:Env}{t:Option Expr}{i:Option Int}(h:EP w x A g L C0 I m env ov t i){s:Shared}(S:CS g L C0 I m ov s.heap)(q:∀ (j:Option (Int×Tok)) h' tk,CS g L C0 I m ov h'->j.map (·.1)=i->Q (partValue j) {s with heap:=h',toks:=tk}):wpAny (model pw w) A (evalPart t env) Q X s:=by
 cases t with
 | none=>
  cases i with
  | none=>rw[evalPart_none];exact wpAny_pure (q none s.heap s.toks S rfl)
  | some i=>exact h.elim
 | some t=>
  cases i with
  | none=>exact h.elim
  | some i=>
   rw[evalPart_some]
   exact h s _ _ S λ u h' tk S' z=>by cases z;exact q (some (i,_)) h' tk S' rfl
theorem ZQ{env:Env}{nm:Str}{l:List Nat}{lo hi:Option Int}{tlo thi:Option Expr}(hK:(KX w.params x).In g)(ho:EV w x A g L C0 I m env ov (.Name nm p1) (.str l))(hlo:EP w x A g L C0 I m env ov tlo lo)(hhi:EP w x A g L C0 I m env ov thi hi) :
  EV w x A g L C0 I m env ov (.Subscript (.Name nm p1) (.Slice tlo thi none p2) pos) (.str ((l.take ((hi.map (adj l.length)).getD l.length)).drop ((lo.map (adj l.length)).getD 0))):=λ s Q X S q=>by
 refine wpAny_Subscript_str_slice (ho s _ _ S λ u h' tk S' z=>?_)
 cases z with
 | str t hx=>
  refine VL (s:={s with heap:=h',toks:=tk}) hlo S' λ j2 h2 tk2 S2 e2=>?_
  refine VL (s:={s with heap:=h2,toks:=tk2}) hhi S2 λ j3 h3 tk3 S3 e3=>?_
  obtain⟨I',S4⟩:=S3.st (w:=w) (x:=x) hK
  refine⟨z0 l,t,j2,j3,rfl,rfl,rfl,Jo (c:=cxO w A g L default) (s:={s with heap:=h3,toks:=tk3}) S4 hx (λ t' tk' o=>?_) _ _⟩
  subst e2
  subst e3
  exact q _ _ tk' (S3.push o) (.str _ (yW hx (λ c hc=>List.mem_of_mem_take (List.mem_of_mem_drop hc)) (by simp;omega)))
end
section
variable {w:World}{x:Addr×Obj}{A:Around}{g:Heap}{L C0 a:Addr}{I:Led}{m:Str->Option Value}{ov:Option Value}{env:Env}{cn:Str}{cs:Scope}{ccd:Value}{cl:List (Str×Addr)}{pp:Program}{ll:List Str}{mean:ExcName->Option Value}{mg mb:Str->Option Value}
theorem CS.st2(S:CS g L C0 I m ov h)(hK:(KX w.params x).In g):∃ o:Obj,o.data=.cell ov/\St (KX w.params x) (zi w) w g L h m [] ((C0,o)::I) []:=by
 obtain⟨F,o,ho,N⟩:=S
 exact⟨o,ho,F,N,List.nodup_nil,λ p hp q=>(by cases q),ROs.nil,hK,rfl⟩
theorem CS.of_st{o:Obj}(S:St (KX w.params x) (zi w) w g L h' m M' I' H')(ho:o.data=.cell ov)(e:Ext [] ((C0,o)::I) M' I'):CS g L C0 I m ov h':=
 ⟨S.F,o,ho,λ p hp=>S.N p (List.mem_append_right _ (e.i p hp))⟩
theorem QH{l:List Nat}(hh:A.handled=none)(hK:(KX w.params x).In g)(T:Top pp ll mean mg mb g)(hk:cs.kind=.function)(hx:cs.names.lookup ("len":Str)=some .globalImplicit)(hn:∀ e p,t≠.Starred e p)(h:EV w x A g L C0 I m (envX cn cs L a ccd cl) ov t (.str l)):EV w x A g L C0 I m (envX cn cs L a ccd cl) ov (.Call (.Name "len" p1) [t] [] pos) (.int l.length):=λ s Q X S q=>by
 rw[yp (λ _ _ _ q=>by cases q)]
 have hpl:zt [t]=true:=by cases t<;>first | rfl | exact absurd rfl (hn _ _)
 refine wpAny_bind (nameX_B S.1 hK (topRead_of T) (z3b _ _) (Y3 .len) (by decide) (yi hpl ?_) hk hx (by decide))
 rw[zH hn]
 refine Calls.spliced_cons (h s _ _ S λ u h' tk S' z=>Calls.spliced_nil ?_)
 obtain⟨o,ho,S3⟩:=S'.st2 (w:=w) (x:=x) hK
 refine biS (k:=.len) (c:=cxO w A g L default) (s:={s with heap:=h',toks:=tk}) (xs:=[.str l]) hh S3 (.cons (wA z) .nil) ?_
 intro u2 h2 tk2 M2 I2 S4 e4 z2
 cases z2
 exact q _ h2 tk2 (CS.of_st S4 ho e4) (.int _ _)
theorem Jt{p:Pos}:EB w A g L C0 I m env ov (.BoolOp .And [] p) true:=λ s Q X S q=>isTrue_and_nil (q s.heap s.toks S)
theorem XA{p:Pos}{r:List Expr}{b b2:Bool}(h:EB w A g L C0 I m env ov t b)(h2:b=true->EB w A g L C0 I m env ov (.BoolOp .And r p) b2):EB w A g L C0 I m env ov (.BoolOp .And (t::r) p) (b&&b2):=λ s Q X S q=>by
 refine isTrue_and (h s _ _ S λ h' tk S'=>?_)
 cases b with
 | true=>exact h2 rfl {s with heap:=h',toks:=tk} _ _ S' q
 | false=>exact q h' tk S'
theorem z3s{p:Pos}:EB w A g L C0 I m env ov (.BoolOp .Or [] p) false:=λ s Q X S q=>isTrue_or_nil (q s.heap s.toks S)
theorem z1B{p:Pos}{r:List Expr}{b b2:Bool}(h:EB w A g L C0 I m env ov t b)(h2:b=false->EB w A g L C0 I m env ov (.BoolOp .Or r p) b2):EB w A g L C0 I m env ov (.BoolOp .Or (t::r) p) (b||b2):=λ s Q X S q=>by
 refine isTrue_or (h s _ _ S λ h' tk S'=>?_)
 cases b with
 | false=>exact h2 rfl {s with heap:=h',toks:=tk} _ _ S' q
 | true=>exact q h' tk S'
end
noncomputable def pzD(a:Str):Bool:=match a.cps.toList with | [c]=>!DIGS.contains c | _=>false
theorem Yy{ys:List Value}{ds:List PyData}(h:CarriedAll ys ds):ys.length=ds.length:=h.length_eq
section
variable {w:World}{x:Addr×Obj}{A:Around}{g:Heap}{L C0 a:Addr}{I:Led}{m:Str->Option Value}{cn:Str}{cs:Scope}{ccd:Value}{cl:List (Str×Addr)}{pp:Program}{ll:List Str}{mean:ExcName->Option Value}{mg mb:Str->Option Value}
theorem eb_lc{i:List Nat}{t:Tok}{sc:Scope}{p3 p4 p5 p6 p7:Pos}(hok:zu i)(hh:A.handled=none)(hu:A.units+8<cLine)(hK:(KX w.params x).In g)(T:Top pp ll mean mg mb g)(hk:cs.kind=.function)(hc:cl.lookup ("inner":Str)=some C0)(hxi:cs.names.lookup ("inner":Str)=some .cell)(hsk:sc.kind=.function)(hsn:sc.names=[((".0":Str),.local),(("sign":Str),.local),(("_law_digits":Str),.globalImplicit)]) :
  EB w A g L C0 I m (envX cn cs L a ccd cl) (some (.str (z0 i) t)) (.ListComp (.Name "sign" p2) [⟨.Name "sign" p3,.Name "inner" p4,[.Compare (.Name "sign" p5) [.NotIn] [.Name "_law_digits" p6] p7],0⟩] sc pos) (i.any λ c=>!DIGS.contains c):=λ s Q X S q=>by
 refine wpAny_isTrue_value ?_ rfl
 obtain⟨F,o,ho,N⟩:=S
 refine LC (news:=(C0,o)::I) (h₀:=g) (L:=L) (m:=m) (cl:=[]) (pz:=pzD) (d:=λ a=>.str a) hh (closureFor_none (by rw[hsn];decide)) (by rw[hsn];decide) hsk (by rw[hsn];decide) (by rw[hsn];decide) (nameX_C N hc (.head _) ho ?_ hk hxi (by decide)) (λ _=>rfl)
 refine⟨z0 i,t,rfl,?_,F,N,?_,?_,?_⟩
 ·have:=hok.2
  show i.toArray.size<=sizeLine
  unfold sizeLine
  simp only[List.size_toArray]
  omega
 ·intro C' a' v s₂ m₂ E' hC ha hns hm hk2
  obtain⟨ch,u,rfl,rfl,hmem⟩:=ha
  have hchm:ch∈i:=by simpa [z0] using hmem
  have hks:(compEnvC sc [] C' (envX cn cs L a ccd cl)).kindOf "sign"=some .local:=lookup_relabel_local (by rw[hsn];rfl)
  have hkg:(compEnvC sc [] C' (envX cn cs L a ccd cl)).kindOf "_law_digits"=some .globalImplicit:=by
   show(relabel sc _).names.lookup _=_
   unfold relabel
   rw[hsn];rfl
  exact Xa (ZF (w:=w) rfl hu hsk hks hkg rfl (by decide) (hK.keeps F.keep) (T.keeps F.keep) ⟨hns,hk2,hC⟩ rfl hm (XC _ _) (xF hok hchm) (zk (by decide)) λ tk1=>⟨rfl,_,_,rfl,λ b o e=>e⟩)
 ·intro C' a' v s₂ m₂ E' hC ha hpz hns hm hk2
  obtain⟨ch,u,rfl,rfl,hmem⟩:=ha
  refine wpAny_Name (wpAny_loadName_local hsk (lookup_relabel_local (by rw[hsn];rfl)) hns hm ?_) (by decide)
  exact⟨.str _ u,_,_,rfl,λ b o e=>e⟩
 ·intro D ys h' tk' F' N' hD hIL hNP hcar
  rw[X3 i (λ c=>!DIGS.contains c) pzD (λ c=>rfl)] at hcar
  have hl:=Yy hcar
  rw[List.length_map] at hl
  have hle:=List.length_filter_le (λ c=>!DIGS.contains c) i
  refine wpAny_truthy_list hIL (by have:=hok.2;simp only[List.size_toArray];omega) ?_
  have hb:(!ys.toArray.isEmpty)=i.any λ c=>!DIGS.contains c:=by
   have e1:ys.toArray.isEmpty=(i.filter λ c=>!DIGS.contains c).isEmpty:=by
    rw[Bool.eq_iff_iff]
    simp only[List.isEmpty_toArray,List.isEmpty_iff]
    constructor
    ·intro e;rw[e] at hl;exact List.eq_nil_of_length_eq_zero hl.symm
    ·intro e;rw[e] at hl;exact List.eq_nil_of_length_eq_zero hl
   rw[e1]
   have:∀ l:List Nat,(!(l.filter λ c=>!DIGS.contains c).isEmpty)=l.any λ c=>!DIGS.contains c:=by
    intro l
    induction l with
    | nil=>rfl
    | cons c r ih=>
     rw[List.filter_cons,List.any_cons]
     cases hc:(!DIGS.contains c) with
     | true=>rfl
     | false=>simpa using ih
   exact this i
  rw[hb]
  exact q h' _ ⟨F',o,ho,N'⟩
theorem V6{n:Nat}{i:List Nat}{s:Shared}{Q:Bool->Shared->Prop}(hw:c.w=w)(C:Cok (KX w.params x) false n 10 c A)(T:Top pp ll mean mg mb c.h₀)(ht:1<=s.toks)(hK:(KX w.params x).In c.h₀)(hx:c.scope.names.lookup ("_law_is_name":Str)=some .globalImplicit)(hi:EV w x A c.h₀ c.L C0 I m c.env (some v) (.Name "inner" p2) (.str i))(S:CS c.h₀ c.L C0 I m (some v) s.heap)(q:∀ h' tk,CS c.h₀ c.L C0 I m (some v) h'->Q (lenV.isNameB i) {s with heap:=h',toks:=tk}):wpAny (model pw w) A (isTrue (.Call (.Name "_law_is_name" p1) [.Name "inner" p2] [] pos) c.env (eval (.Call (.Name "_law_is_name" p1) [.Name "inner" p2] [] pos) c.env)) Q X s:=by
 have hat:nsIn (KX w.params x) mainGlobals "_law_is_name"=some (some (.ref 711)):=by kernel_rfl
 have hf:(zi w).f 58=some 711:=rfl
 refine wpAny_isTrue_value ?_ rfl
 rw[yp (λ _ _ _ q=>by cases q)]
 refine wpAny_bind (nameX_K S.1 hK (topRead_of T) hat ?_ C.fk hx (by decide))
 refine jZ (K:=KX w.params x) ((amb w x).fk _ _ hf) rfl ?_
 rw[zH (λ e p q=>by cases q)]
 refine Calls.spliced_cons (wp1 ht (hi s _ _ S λ u h' tk S' z ht'=>Calls.spliced_nil ?_))
 obtain⟨o,ho,S3⟩:=S'.st2 (w:=w) (x:=x) hK
 subst hw
 refine⟨hK.keeps S'.1.keep,wpAny_call (VQ (n:=n) (xs:=[.str i]) (c:=c) (s:={s with heap:=h',toks:=tk}) hf ⟨C.B,C.hA,C.Tb,C.kb,C.fk,C.hh,by have:=C.dp;omega,by have:=C.un;omega⟩ ht' S3 (.cons (wA z) .nil) ?_)⟩
 intro u2 h2 tk2 M2 I2 S4 e4 z2
 cases z2
 exact wpAny_truthy_bool (q h2 tk2 (CS.of_st S4 ho e4))
end
noncomputable def wQ(i:List Nat)(k:Nat):Int:=(((i[i.length-1-k]?.getD 0:Nat):Int)-48)*10 ^ k
noncomputable def Ku(i:List Nat):Nat:=i.foldl (λ n c=>n*10+(c-48)) 0
theorem Vm(l:List Int):(l.map (10*·)).sum=10*l.sum:=by
 induction l with
 | nil=>rfl
 | cons a r ih=>rw[List.map_cons,List.sum_cons,List.sum_cons,ih,Int.mul_add]
theorem KM(r:List Nat)(c:Nat):((List.range (r++[c]).length).map (wQ (r++[c]))).sum=((c:Int)-48)+10*((List.range r.length).map (wQ r)).sum:=by
 have hl:(r++[c]).length=r.length+1:=List.length_append
 rw[hl,List.range_succ_eq_map,List.map_cons,List.sum_cons,List.map_map,←Vm,List.map_map]
 have h0:wQ (r++[c]) 0=(c:Int)-48:=by
  unfold wQ
  simp [hl]
 rw[h0]
 congr 2
 refine List.map_congr_left λ k hk=>?_
 have hk':=List.mem_range.mp hk
 show wQ (r++[c]) (k+1)=10*wQ r k
 unfold wQ
 rw[hl,List.getElem?_append_left (Nat.sub_lt (Nat.zero_lt_of_lt hk') (Nat.succ_pos k)),show r.length+1-1-(k+1)=r.length-1-k from((Nat.sub_sub _ 1 k).trans (congrArg (r.length-·) (Nat.add_comm 1 k))).symm,Int.pow_succ]
 generalize (10:Int) ^ k=t
 generalize (((r[r.length-1-k]?.getD 0:Nat):Int)-48)=u
 rw[←Int.mul_assoc,Int.mul_comm (u*t) 10]
theorem z1V{c a b:Nat}(h:48<=c):((c:Int)-48)+10*((a:Nat):Int)=((a*10+(c-48):Nat):Int):=by
 rw[Int.natCast_add,Int.natCast_mul,Int.ofNat_sub h,Int.mul_comm,Int.add_comm];rfl
theorem z0g(n:Nat):∀ (i:List Nat),i.length=n->(∀ c∈i,48<=c)->((List.range i.length).map (wQ i)).sum=((Ku i:Nat):Int):=by
 induction n with
 | zero=>
  intro i hn h
  rw[List.eq_nil_of_length_eq_zero hn];rfl
 | succ n ih=>
  intro i hn h
  rcases List.eq_nil_or_concat i with rfl | ⟨r,c,rfl⟩
  ·cases hn
  ·rw[List.concat_eq_append] at *
   rw[List.length_append] at hn
   rw[KM,ih r (Nat.succ.inj hn) (λ x hx=>h x (List.mem_append_left _ hx)),z1V (b:=0) (h c (List.mem_append_right _ (.head _)))]
   unfold Ku
   rw[List.foldl_append];rfl
theorem z2O(P:Params)(x:Addr×Obj):nsIn (KX P x) mainGlobals "ord"=some none:=by kernel_rfl
theorem z2h(P:Params)(x:Addr×Obj):nsIn (KX P x) mainGlobals "sum"=some none:=by kernel_rfl
theorem z29(P:Params)(x:Addr×Obj):nsIn (KX P x) mainGlobals "range"=some none:=by kernel_rfl
theorem JD{x:Addr×Obj}{env:Env}{s:Shared}{m₂:Str->Option Value}{nm:Str}{p:Pos}{E:Value->Shared->Prop}{pp:Program}{ll:List Str}{mean:ExcName->Option Value}(hk:env.scope.kind=.function)(hl:env.kindOf nm=some .globalImplicit)(hg:env.globals=mainGlobals)(hb:env.builtins=builtinsNs)(hd:(nm==("__debug__":Str))=false)(hn:nm≠"__name__")(hK:(KX w.params x).In h₀)(T:Top pp ll mean mg mb h₀)(F:Fr h₀ C s.heap m₂)(e:nsIn (KX w.params x) mainGlobals nm=some none)(hv:bootBuiltins nm=some v)(q:Q v s):wpAny (model pw w) A (eval (.Name nm p) env) Q E s:=by
 have TR:=topRead_of T
 exact Name_function_global hk hl (loadGlobal_builtin (env:=env) (by rw[hg];exact TR.g.keeps F.keep) (mg_none_of hK TR.g e) (by rw[hb];exact TR.b.keeps F.keep) ((TR.builtins nm hn).trans hv) q) hd
section
variable {w:World}{x:Addr×Obj}{A:Around}{g:Heap}{L C0 a:Addr}{I:Led}{m:Str->Option Value}{cn:Str}{cs:Scope}{ccd:Value}{pp:Program}{ll:List Str}{mean:ExcName->Option Value}{mg mb:Str->Option Value}
set_option tactic.hygienic true in
theorem z19{i:List Nat}{t u:Tok}{cenv:Env}{s:Shared}{m₂:Str->Option Value}{p3 p4 p5 p6 p7 p8 p9 p10 p11 p12 p13 p14 p15:Pos}{k1 k2 k3:Nat}{E:Value->Shared->Prop}(hok:zu i)(hki:k<i.length)(hh:A.handled=none)(hkk:cenv.scope.kind=.function)(hg:cenv.globals=mainGlobals)(hbn:cenv.builtins=builtinsNs)(hlk:cenv.kindOf "k"=some .local)(hlo:cenv.kindOf "ord"=some .globalImplicit)(hli:cenv.kindOf "inner"=some .cell)(hcl:cenv.cells.lookup ("inner":Str)=some C0)(hK:(KX w.params x).In h₀)(T:Top pp ll mean mg mb h₀)(F:Fr h₀ C s.heap m₂)(hC:cenv.locals=C)(hm:m₂ "k"=some (.int (k:Int) u))(hcell:s.heap.IsCell C0 (some (.str (z0 i) t)))(q:∀ t' h' tk,(∀ b o,s.heap.get? b=some o->h'.get? b=some o)->Q (.int (wQ i k) t') {s with heap:=h',toks:=tk}) :
  wpAny (model pw w) A (eval (.BinOp (.BinOp (.Call (.Name "ord" p1) [.Subscript (.Name "inner" p2) (.BinOp (.UnaryOp .USub (.Constant (.int 1) k1 p3) p4) .Sub (.Name "k" p5) p6) p7] [] p8) .Sub (.Constant (.int 48) k2 p9) p10) .Mult (.BinOp (.Constant (.int 10) k3 p11) .Pow (.Name "k" p12) p13) p14) cenv) Q E s:=by
 have S:∀ tk,St (KX w.params x) (zi w) w h₀ C ({s with toks:=tk}:Shared).heap m₂ [] [] []:=λ tk=>⟨F,λ p hp=>(by cases hp),List.nodup_nil,λ p hp=>(by cases hp),ROs.nil,hK,rfl⟩
 obtain⟨ch,hch⟩:∃ ch,i[i.length-1-k]?=some ch:=⟨_,List.getElem?_eq_getElem (Nat.lt_of_le_of_lt (Nat.sub_le _ _) (Nat.sub_lt (Nat.zero_lt_of_lt hki) Nat.one_pos))⟩
 have hidx:zC [] (.str i) (.int (-1-(k:Int)))=some (.str [ch]):=by
  show(at? i (-1-(k:Int))).map _=_
  rw[at?_if,if_pos (z2U k),if_pos (z3x hki),neg_k,hch]
  rfl
 have hdig:wQ i k=((ch:Int)-48)*10 ^ k:=by unfold wQ;rw[hch];rfl
 refine wpAny_BinOp (wpAny_BinOp ?_)
 rw[yp (λ _ _ _ q=>by cases q)]
 refine wpAny_bind (JD hkk hlo hg hbn (by decide) (by decide) hK T F (z2O _ _) (Y3 .ord) (yi rfl ?_))
 rw[zH (λ e p q=>by cases q)]
 refine Calls.spliced_cons (Subscript_ (wpAny_Name (wpAny_loadName_cell hkk hli hcl hcell ?_) (by decide)))
 refine wpAny_BinOp (wpAny_UnaryOp (wpAny_Constant_int (PyProof.Rows.neg_int ?_)))
 refine wpAny_Name (wpAny_loadName_local hkk hlk (hC ▸ F.ns) hm ?_) (by decide)
 refine PyProof.Rows.sub_int ?_
 refine idxS (c:=cxO w A h₀ C default) (H:=[]) (λ _ _=>rfl) (S _) (.str _ hok) (.int _ _) hidx λ v tk hv=>Calls.spliced_nil ?_
 cases hv
 rename_i tc hoc
 refine PyProof.Rows.ord_of_one (by rfl) ?_
 refine wpAny_Constant_int (PyProof.Rows.sub_int ?_)
 refine wpAny_BinOp (wpAny_Constant_int (wpAny_Name (wpAny_loadName_local (s:={s with toks:=_}) hkk hlk (hC ▸ F.ns) hm ?_) (by decide)))
 have hk20:k<2 ^ 20:=Nat.lt_trans hki hok.2
 refine pow_int (Int.natCast_nonneg k) ?_ ?_
 ·have:Builtin.Int.intBits 10=4:=by decide
  rw[this]
  have:((k:Nat):Int)<2 ^ 20:=by exact_mod_cast hk20
  omega
 ·have hchs:zE ((ch:Int)-48)=true:=by
   have:=hok.1 ch (List.mem_of_getElem? hch)
   unfold zE
   exact decide_eq_true (by omega)
  refine PyProof.Rows.mul_int ?_ (IntMulOk.of_left (vb hchs))
  rw[hdig] at q
  rw[Int.toNat_natCast]
  exact q _ s.heap _ λ b o e=>e
end
theorem Zk{l:List Int}:∀ {ys:List Value},CarriedAll ys (l.map λ j=>PyData.int j)->IntsAre ys l:=by
 induction l with
 | nil=>exact λ h=>by cases h;exact .nil
 | cons a r ih=>
  intro ys h
  cases h with
  | cons h1 h2=>cases h1;exact .cons _ _ (ih h2)
theorem z18{prog:Program}{E:Value->Shared->Prop}{s:Shared}{ys:List Value}(hh:A.handled=none)(hl:s.heap.IsList D ys.toArray)(hi:IntsAre ys ns)(h:∀ h' tk t',(∀ b o,s.heap.get? b=some o->h'.get? b=some o)->Q (.int ns.sum t') {s with heap:=h',toks:=tk}):wpAny (model prog w) A (call (.builtin "sum") [.ref D]) Q E s:=by
 obtain⟨xs,hxs⟩:=hi.allInts.items
 have hn:=hi.numsOf
 rw[hxs] at hl
 refine sum_intListG hh hl λ h' tk t' hk=>?_
 have e:preSum (numAt xs) xs.size=ns.sum:=by
  rw[preSum_eq,List.take_of_length_le (by simp),←nums_intItems,←hxs]
  exact congrArg List.sum hn
 rw[e]
 exact h h' tk t' hk
section
variable {w:World}{x:Addr×Obj}{A:Around}{g:Heap}{L C0 a:Addr}{I:Led}{m:Str->Option Value}{cn:Str}{cs:Scope}{ccd:Value}{pp:Program}{ll:List Str}{mean:ExcName->Option Value}{mg mb:Str->Option Value}
theorem z2f{i:List Nat}{t:Tok}{sc:Scope}{p3 p4 p5 p6 p7 p8 p9 p10 p11 p12 p13 p14 p15 p16 p17 p18 p19 p20 p21 p22 p23:Pos}{k1 k2 k3:Nat}(hok:zu i)(hdg:∀ c∈i,48<=c)(hh:A.handled=none)(hK:(KX w.params x).In g)(T:Top pp ll mean mg mb g)(hk:cs.kind=.function)(hxi:cs.names.lookup ("inner":Str)=some .cell)(hxs:cs.names.lookup ("sum":Str)=some .globalImplicit)(hxr:cs.names.lookup ("range":Str)=some .globalImplicit)(hxl:cs.names.lookup ("len":Str)=some .globalImplicit)(hsk:sc.kind=.function)(hsn:sc.names=[((".0":Str),.local),(("k":Str),.local),(("ord":Str),.globalImplicit),(("inner":Str),.free)]) :
  EV w x A g L C0 I m (envX cn cs L a ccd [(("inner":Str),C0)]) (some (.str (z0 i) t)) (.Call (.Name "sum" p1) [.ListComp (.BinOp (.BinOp (.Call (.Name "ord" p2) [.Subscript (.Name "inner" p3) (.BinOp (.UnaryOp .USub (.Constant (.int 1) k1 p4) p5) .Sub (.Name "k" p6) p7) p8] [] p9) .Sub (.Constant (.int 48) k2 p10) p11) .Mult (.BinOp (.Constant (.int 10) k3 p12) .Pow (.Name "k" p13) p14) p15)
   [⟨.Name "k" p16,.Call (.Name "range" p17) [.Call (.Name "len" p18) [.Name "inner" p19] [] p20] [] p21,[],0⟩] sc p22] [] p23) (.int (Ku i)):=λ s Q X S q=>by
 rw[yp (λ _ _ _ q=>by cases q)]
 refine wpAny_bind (nameX_B S.1 hK (topRead_of T) (z2h _ _) (show bootBuiltins ("sum":Str)=some (.builtin "sum") by rfl) (by decide) (yi rfl ?_) hk hxs (by decide))
 rw[zH (λ e p q=>by cases q)]
 refine Calls.spliced_cons ?_
 obtain⟨F,o,ho,N⟩:=S
 have hclos:closureFor sc (envX cn cs L a ccd [(("inner":Str),C0)])=pure [(("inner":Str),C0)]:=by
  unfold closureFor
  rw[hsn]
  rfl
 refine ListComp_DCr (h₀:=g) (L:=L) (m:=m) (cl:=[(("inner":Str),C0)]) (pz:=λ _=>true) (d:=λ j=>.int (wQ i j.toNat)) hh hclos (by rw[hsn];decide) hsk (by rw[hsn];decide) (by rw[hsn];decide) ?_ (λ _=>rfl)
 rw[yp (λ _ _ _ q=>by cases q)]
 refine wpAny_bind (nameX_B F hK (topRead_of T) (z29 _ _) (show bootBuiltins ("range":Str)=some (.type "range") by rfl) (by decide) (Pv.callWith_type1 ?_) hk hxr (by decide))
 rw[zH (λ e p q=>by cases q)]
 refine Calls.spliced_cons (QH hh hK T hk hxl (λ e p q=>by cases q) (wb (x:=x) (.str t hok) hk rfl hxi) s _ _ ⟨F,o,ho,N⟩ λ u h' tk S' z=>Calls.spliced_nil ?_)
 cases z
 obtain⟨F',o',ho',N'⟩:=S'
 refine range1_rows (s:={s with heap:=h',toks:=tk}) F' N' λ h2 tk2 t₁ u₁ v₁ hr F2 N2 hk2=>?_
 have hl20:=hok.2
 refine⟨(C0,o')::I,_,0,_,1,t₁,u₁,v₁,i.length,rfl,hr,small_one (by decide) (by decide) (Int.le_trans (by decide) (Int.natCast_nonneg i.length)) (Int.lt_trans (Int.ofNat_lt.mpr hl20) (by decide)),by rw[rangeSize_nat,Int.sub_zero];rfl,by unfold sizeLine;omega,F2,N2,?_,?_,?_⟩
 ·intro C' a' v s₂ m₂ E' hC hmem ha hns hm hk3
  simp only[List.forIn_nil]
  exact wpAny_pure ⟨rfl,_,_,rfl,λ b o e=>e⟩
 ·intro C' a' v s₂ m₂ E' hC hmem ha _ hns hm hk3
  obtain⟨u,rfl⟩:=ha
  obtain⟨k,hkl,rfl⟩:∃ k,k<i.length/\a'=((k:Nat):Int):=by
   unfold rangeInts at hmem
   obtain⟨k,h1,h2⟩:=List.mem_map.mp hmem
   exact⟨k,List.mem_range.mp h1,by rw[←h2,Int.mul_one,Int.zero_add]⟩
  have hcell:s₂.heap.IsCell C0 (some (.str (z0 i) t)):=⟨o',hk3 _ _ (N2 (C0,o') (.head _)).1,ho'⟩
  have hrel:∀ y k',(sc.names.map λ(n,k)=>if (k==NameKind.free&&cs.kind==.function&&cs.names.lookup n==some .cell) then(n,NameKind.cell) else(n,k)).lookup y=k'->(compEnvC sc [(("inner":Str),C0)] C' (envX cn cs L a ccd [(("inner":Str),C0)])).kindOf y=k':=λ y k' h=>h
  have f1:(compEnvC sc [(("inner":Str),C0)] C' (envX cn cs L a ccd [(("inner":Str),C0)])).scope.kind=.function:=hsk
  have f2:(compEnvC sc [(("inner":Str),C0)] C' (envX cn cs L a ccd [(("inner":Str),C0)])).globals=mainGlobals:=rfl
  have f3:(compEnvC sc [(("inner":Str),C0)] C' (envX cn cs L a ccd [(("inner":Str),C0)])).builtins=builtinsNs:=rfl
  have f4:(compEnvC sc [(("inner":Str),C0)] C' (envX cn cs L a ccd [(("inner":Str),C0)])).cells.lookup ("inner":Str)=some C0:=rfl
  have f5:(compEnvC sc [(("inner":Str),C0)] C' (envX cn cs L a ccd [(("inner":Str),C0)])).locals=C':=rfl
  have f6:=hrel "k" (some .local) (by rw[hsn];rfl)
  have f7:=hrel "ord" (some .globalImplicit) (by rw[hsn];rfl)
  have f8:=hrel "inner" (some .cell) (by
   rw[hsn,hk]
   simp only[List.map_cons,List.map_nil,hxi]
   rfl)
  have hF2:Fr h2 C' s₂.heap m₂:=⟨f5 ▸ hns,hk3,hC⟩
  clear hrel
  generalize compEnvC sc [(("inner":Str),C0)] C' (envX cn cs L a ccd [(("inner":Str),C0)])=cenv at f1 f2 f3 f4 f5 f6 f7 f8 ⊢
  have hK2:(KX w.params x).In h2:=hK.keeps F2.keep
  have T2:=T.keeps F2.keep
  simp only[Int.toNat_natCast]
  exact z19 (x:=x) (h₀:=h2) (C:=C') (k:=k) (t:=t) (p15:=p15) hok hkl hh f1 f2 f3 f6 f7 f8 f4 hK2 T2 hF2 f5 hm hcell λ t' h3 tk3 keep=>⟨Carried.int _ _,h3,tk3,rfl,keep⟩
 ·intro D ys h3 tk3 F3 N3 hD hIL hNP hcar
  refine Calls.spliced_nil ?_
  have e1:((rangeInts 0 1 i.length).filter λ _=>true).map (λ j=>PyData.int (wQ i j.toNat))=((List.range i.length).map (wQ i)).map λ j=>PyData.int j:=by
   rw[List.filter_eq_self.mpr (λ _ _=>rfl)]
   unfold rangeInts
   rw[List.map_map,List.map_map]
   refine List.map_congr_left λ k _=>?_
   show PyData.int (wQ i ((0:Int)+(k:Int)*1).toNat)=PyData.int (wQ i k)
   rw[Int.mul_one,Int.zero_add];rfl
  rw[e1] at hcar
  refine z18 (s:={s with heap:=h3,toks:=tk3}) hh hIL (Zk hcar) λ h4 tk4 t4 keep=>?_
  rw[z0g _ i rfl hdg]
  exact q _ h4 tk4 ⟨F3.keeps keep,o',ho',N3.grown keep⟩ (.int _ _)
end
noncomputable def ShA(s:Stmt):Prop:=(Ex8 λ p1 k p2 p3 k2 p4 p5 p6=>s=.If (.Compare (.Name "text" p1) [.Eq] [.Constant (.str (z0 [])) k p2] p3) [.Return (some (.Constant .none k2 p4)) p5] [] p6)
noncomputable def ShB(s:Stmt):Prop:=(Ex7 λ p1 p2 k p3 p4 p5 p6=>s=.Assign [.Name "inner" p1] (.Subscript (.Name "text" p2) (.Slice (some (.Constant (.int 1) k p3)) none none p4) p5) p6)
noncomputable def ShC(s:Stmt):Prop:=(Ex11 λ p1 k p2 p3 k2 p4 p5 k3 p6 p7 p8=>s=.If (.Compare (.Subscript (.Name "text" p1) (.Constant (.int 0) k p2) p3) [.NotEq] [.Constant (.str (z0 [42])) k2 p4] p5) [.Return (some (.Constant (.bool false) k3 p6)) p7] [] p8)
noncomputable def ShT1(t:Expr):Prop:=(Ex8 λ p1 k p2 p3 p4 k2 p5 p6=>t=.Compare (.Subscript (.Name "inner" p1) (.Slice none (some (.Constant (.int 1) k p2)) none p3) p4) [.Eq] [.Constant (.str (z0 [40])) k2 p5] p6)
noncomputable def ShT2(t:Expr):Prop:=(Ex9 λ p1 k p2 p3 p4 p5 k2 p6 p7=>t=.Compare (.Subscript (.Name "inner" p1) (.Slice (some (.UnaryOp .USub (.Constant (.int 1) k p2) p3)) none none p4) p5) [.Eq] [.Constant (.str (z0 [41])) k2 p6] p7)
noncomputable def ShT3(t:Expr):Prop:=(Ex6 λ p1 p2 p3 k p4 p5=>t=.Compare (.Call (.Name "len" p1) [.Name "inner" p2] [] p3) [.Gt] [.Constant (.int 2) k p4] p5)
noncomputable def ShT(t:Expr):Prop:=(Ex4 λ a b c p=>A4 (t=.BoolOp .And [a,b,c] p) (ShT1 a) (ShT2 b) (ShT3 c))
noncomputable def ShD1(s:Stmt):Prop:=(Ex10 λ p1 p2 k p3 k2 p4 p5 p6 p7 p8=>s=.Assign [.Name "inner" p1] (.Subscript (.Name "inner" p2) (.Slice (some (.Constant (.int 1) k p3)) (some (.UnaryOp .USub (.Constant (.int 1) k2 p4) p5)) none p6) p7) p8)
noncomputable def ShD2(s:Stmt):Prop:=(Ex8 λ p1 k p2 p3 k2 p4 p5 p6=>s=.If (.Compare (.Name "inner" p1) [.Eq] [.Constant (.str (z0 [42])) k p2] p3) [.Return (some (.Constant (.str (z0 [42])) k2 p4)) p5] [] p6)
noncomputable def ShD3(s:Stmt):Prop:=(Ex10 λ p1 p2 p3 k p4 p5 k2 p6 p7 p8=>s=.If (.Call (.Name "_law_is_name" p1) [.Name "inner" p2] [] p3) [.Return (some (.Tuple [.Constant (.str (z0 @"name")) k p4,.Name "inner" p5] k2 p6)) p7] [] p8)
noncomputable def ShD(s:Stmt):Prop:=(Ex5 λ t a b c p=>A5 (s=.If t [a,b,c] [] p) (ShT t) (ShD1 a) (ShD2 b) (ShD3 c))
inductive ShE:Stmt->Prop where
 | mk (p1 k p2 p3 p4 p5 p6 p7 p8 p9 sc p10 p11 k2 p12 p13 p14):sc.kind=.function->sc.names=[((".0":Str),.local),(("sign":Str),.local),(("_law_digits":Str),.globalImplicit)]->ShE (.If (.BoolOp .Or [.Compare (.Name "inner" p1) [.Eq] [.Constant (.str (z0 [])) k p2] p3,.ListComp (.Name "sign" p4) [⟨.Name "sign" p5,.Name "inner" p6,[.Compare (.Name "sign" p7) [.NotIn] [.Name "_law_digits" p8] p9],0⟩] sc p10] p11) [.Return (some (.Constant (.bool false) k2 p12)) p13] [] p14)
inductive ShG:Expr->Prop where
 | mk (p1 p2 k p3 p4 p5 p6 p7 p8 k2 p9 p10 k3 p11 p12 p13 p14 p15 p16 p17 p18 p19 p20 sc p21):sc.kind=.function->sc.names=[((".0":Str),.local),(("k":Str),.local),(("ord":Str),.globalImplicit),(("inner":Str),.free)]->ShG (.ListComp (.BinOp (.BinOp (.Call (.Name "ord" p1) [.Subscript (.Name "inner" p2) (.BinOp (.UnaryOp .USub (.Constant (.int 1) k p3) p4) .Sub (.Name "k" p5) p6) p7] [] p8) .Sub (.Constant (.int 48) k2 p9) p10) .Mult (.BinOp (.Constant (.int 10) k3 p11) .Pow (.Name "k" p12) p13) p14)
  [⟨.Name "k" p15,.Call (.Name "range" p16) [.Call (.Name "len" p17) [.Name "inner" p18] [] p19] [] p20,[],0⟩] sc p21)
noncomputable def ShF(s:Stmt):Prop:=Ex8 λ k p1 p2 t p3 k2 p4 p5=>s=.Return (some (.Tuple [.Constant (.str (z0 @"int")) k p1,.Call (.Name "sum" p2) [t] [] p3] k2 p4)) p5/\ShG t
theorem z2T:(Ex6 λ a b c d e f=>A7 (xC (bd 132)=[a,b,c,d,e,f]) (ShA a) (ShB b) (ShC c) (ShD d) (ShE e) (ShF f)):=
 ⟨_,_,_,_,_,_,rfl,⟨_,_,_,_,_,_,_,_,rfl⟩,⟨_,_,_,_,_,_,_,rfl⟩,⟨_,_,_,_,_,_,_,_,_,_,_,rfl⟩,
  ⟨_,_,_,_,_,rfl,⟨_,_,_,_,rfl,⟨_,_,_,_,_,_,_,_,rfl⟩,⟨_,_,_,_,_,_,_,_,_,rfl⟩,⟨_,_,_,_,_,_,rfl⟩⟩,⟨_,_,_,_,_,_,_,_,_,_,rfl⟩,⟨_,_,_,_,_,_,_,_,rfl⟩,⟨_,_,_,_,_,_,_,_,_,_,rfl⟩⟩,
  ⟨_,_,_,_,_,_,_,_,_,_,_,_,_,_,_,_,_,rfl,rfl⟩,⟨_,_,_,_,_,_,_,_,rfl,⟨_,_,_,_,_,_,_,_,_,_,_,_,_,_,_,_,_,_,_,_,_,_,_,_,_,rfl,rfl⟩⟩⟩
theorem jG:(yn (bd 132)).names.lookup ("text":Str)=some .local/\(yn (bd 132)).names.lookup ("inner":Str)=some .cell/\(yn (bd 132)).names.lookup ("len":Str)=some .globalImplicit/\(yn (bd 132)).names.lookup ("sum":Str)=some .globalImplicit/\(yn (bd 132)).names.lookup ("range":Str)=some .globalImplicit/\(yn (bd 132)).names.lookup ("_law_is_name":Str)=some .globalImplicit/\(yn (bd 132)).kind=.function:=by decide +kernel
section
variable {w:World}{x:Addr×Obj}{A:Around}{g:Heap}{L C0:Addr}{I:Led}{m:Str->Option Value}{env:Env}{ov:Option Value}
theorem z2j{b:Bool}{r:Stmt}{p:Pos}{rest:List Stmt}{s:Shared}{Q:Flow->Shared->Prop}(ht:EB w A g L C0 I m env ov t b)(S:CS g L C0 I m ov s.heap)(h1:b=true->∀ h' tk,CS g L C0 I m ov h'->wpAny (model pw w) A (exec r env) (λ f s'=>match f with | .next=>False | f=>Q f s') X {s with heap:=h',toks:=tk})(h2:b=false->∀ h' tk,CS g L C0 I m ov h'->wpAny (model pw w) A (execs rest env) Q X {s with heap:=h',toks:=tk}):wpAny (model pw w) A (execs (.If t [r] [] p::rest) env) Q X s:=by
 refine wpAny_execs_cons (wpAny_If (ht s _ _ S λ h' tk S'=>?_))
 cases b with
 | true=>
  rw[if_pos rfl]
  refine wpAny_execs_cons (wpAny_mono (h1 rfl h' tk S') (λ f s' hf=>?_) λ _ _ e=>e)
  cases f<;>first | exact hf.elim | exact hf
 | false=>
  rw[if_neg (by decide)]
  exact wpAny_execs_nil (h2 rfl h' tk S')
end
noncomputable def qS(q:List Nat):Bool:=q.take 1==[40]&&q.drop (q.length-1)==[41]&&decide (2<q.length)
noncomputable def wx(q:List Nat):List Nat:=(q.drop 1).take (q.length-2)
theorem J8{c:Nat}(h:(c==42)=false):lenV [.str (c::q)]=some (.bool false):=by
 exact if_pos (by rw[bne,h];rfl)
noncomputable def qA(i:List Nat):Option V:=if i==[]||i.any (λ c=>!(decide (48<=c)&&decide (c<=57))) then some (.bool false) else some (.tup [.str @"int",.int (Ku i:Nat)])
theorem km(q:List Nat):lenV [.str (42::q)]=if qS q&&wx q==[42] then some (.str [42]) else if qS q&&lenV.isNameB (wx q) then some (.tup [.str @"name",.str (wx q)]) else qA (if qS q then wx q else q):=rfl
theorem JT(h:qS q=true)(h2:(wx q==[42])=true):lenV [.str (42::q)]=some (.str [42]):=by rw[km,h,h2];rfl
theorem KW(h:qS q=true)(h2:(wx q==[42])=false)(h3:lenV.isNameB (wx q)=true):lenV [.str (42::q)]=some (.tup [.str @"name",.str (wx q)]):=by rw[km,h,h2,h3];rfl
theorem z0i(h:qS q=true)(h2:(wx q==[42])=false)(h3:lenV.isNameB (wx q)=false):lenV [.str (42::q)]=qA (wx q):=by rw[km,h,h2,h3];rfl
theorem z0h(h:qS q=false):lenV [.str (42::q)]=qA q:=by rw[km,h];rfl
section
variable {w:World}{x:Addr×Obj}{A:Around}{g:Heap}{L C0 a:Addr}{I:Led}{m:Str->Option Value}{cn:Str}{cs:Scope}{ccd:Value}{pp:Program}{ll:List Str}{mean:ExcName->Option Value}{mg mb:Str->Option Value}
noncomputable def Fin(w:World)(x:Addr×Obj)(g:Heap)(L C0:Addr)(I:Led)(m:Str->Option Value)(s:Shared)(y:V)(Q:Flow->Shared->Prop):Prop:=∀ u h' tk I'' o,Fr g L h' m->News g L h' ((C0,o)::I'')->(∀ p∈I,p∈I'')->RV (KX w.params x) (zi w) I'' [] u y->Q (.ret u) {s with heap:=h',toks:=tk}
theorem X9{y1 y2:V}{t1 t2:Expr}{p:Pos}{ov:Option Value}{env:Env}{s:Shared}{Q:Flow->Shared->Prop}(h1:EV w x A g L C0 I m env ov t1 y1)(h2:EV w x A g L C0 I m env ov t2 y2)(n1:∀ e p,t1≠.Starred e p)(n2:∀ e p,t2≠.Starred e p)(S:CS g L C0 I m ov s.heap)(hq:Fin w x g L C0 I m s (.tup [y1,y2]) Q):wpAny (model pw w) A (exec (.Return (some (.Tuple [t1,t2] k p)) p2) env) Q X s:=by
 refine wpAny_Return_some (wpAny_Tuple ?_)
 rw[zH n1,zH n2]
 refine Calls.spliced_cons (h1 s _ _ S λ u h' tk S' z1=>Calls.spliced_cons (h2 {s with heap:=h',toks:=tk} _ _ S' λ u2 h2 tk2 S2 z2=>Calls.spliced_nil ?_))
 refine⟨by rw[sizeLine_eq];simp,?_⟩
 obtain⟨F,o,ho,N⟩:=S2
 have hsz:∀ p∈(C0,o)::I,p.1≠h2.objs.size:=λ p hp=>Nat.ne_of_lt (Heap.lt_size (N p hp).1)
 have N2:=News.push F N {cls:=.type "tuple",data:=.seq [u,u2].toArray}
 refine hq _ _ _ ((h2.objs.size,{cls:=.type "tuple",data:=.seq [u,u2].toArray})::I) o (Fr.push F _) ?_ (λ p hp=>.tail _ hp) (.tup (.head _) rfl rfl (by simpa using RVs.cons (wA z1) (.cons (wA z2) .nil)))
 intro p hp
 rcases mc_ hp with rfl | hp
 ·exact N2 _ (.tail _ (.head _))
 ·rcases mc_ hp with rfl | hp
  ·exact N2 _ (.head _)
  ·exact N2 _ (.tail _ (.tail _ hp))
theorem Wo{i:List Nat}{t:Tok}{e f:Stmt}{s:Shared}{Q:Flow->Shared->Prop}(he:ShE e)(hf:ShF f)(hok:zu i)(hh:A.handled=none)(hu:A.units+8<cLine)(hK:(KX w.params x).In g)(T:Top pp ll mean mg mb g)(hk:cs.kind=.function)(hxi:cs.names.lookup ("inner":Str)=some .cell)(hxs:cs.names.lookup ("sum":Str)=some .globalImplicit)(hxr:cs.names.lookup ("range":Str)=some .globalImplicit)(hxl:cs.names.lookup ("len":Str)=some .globalImplicit)(S:CS g L C0 I m (some (.str (z0 i) t)) s.heap)(hy:qA i=some y)(hq:Fin w x g L C0 I m s y Q):wpAny (model pw w) A (execs [e,f] (envX cn cs L a ccd [(("inner":Str),C0)])) Q X s:=by
 obtain⟨_,_,_,_,_,_,_,_,_,_,_,_,_,_,_,_,_,hsk,hsn⟩:=he
 have hin:=λ p=>wb (w:=w) (x:=x) (A:=A) (g:=g) (L:=L) (C0:=C0) (a:=a) (I:=I) (m:=m) (cn:=cn) (cs:=cs) (ccd:=ccd) (cl:=[(("inner":Str),C0)]) (p:=p) (.str t hok) hk rfl hxi
 refine z2j (z1B (qb (k:=.eq) (b:=i==[]) hK hu rfl (hin _) (v0 (l:=[]) (zk (by decide))) rfl) λ _=>z1B (eb_lc hok hh hu hK T hk rfl hxi hsk hsn) λ _=>z3s) S (λ hb h' tk S'=>?_) λ hb h' tk S'=>?_
 ·have hlo:qA i=some (.bool false):=by
   unfold qA
   have e:(λ c:Nat=>!DIGS.contains c)=λ c=>!(decide (48<=c)&&decide (c<=57)):=funext λ c=>by rw[kf];rfl
   rw[e,Bool.or_false] at hb
   rw[hb];rfl
  rw[hlo] at hy
  cases hy
  refine wpAny_Return_some (wpAny_Constant_bool ?_)
  obtain⟨F,o,ho,N⟩:=S'
  exact hq _ h' _ I o F N (λ p hp=>hp) (.bool false)
 ·have e:(λ c:Nat=>!DIGS.contains c)=λ c=>!(decide (48<=c)&&decide (c<=57)):=funext λ c=>by rw[kf];rfl
  have hdg:∀ c∈i,48<=c:=λ c hc=>by
   rw[Bool.or_false,Bool.or_eq_false_iff] at hb
   have:=List.any_eq_false.mp hb.2 c hc
   rw[kf] at this
   unfold lenV.dgB at this
   simp at this
   exact this.1
  have hlo:qA i=some (.tup [.str @"int",.int (Ku i:Nat)]):=by
   unfold qA
   rw[e,Bool.or_false] at hb
   rw[hb];rfl
  rw[hlo] at hy
  cases hy
  obtain⟨_,_,_,_,_,_,_,_,rfl,⟨_,_,_,_,_,_,_,_,_,_,_,_,_,_,_,_,_,_,_,_,_,_,_,_,_,hsk2,hsn2⟩⟩:=hf
  refine wpAny_execs_cons (wpAny_mono (X9 (ov:=some (.str (z0 i) t)) (I:=I) (C0:=C0) (m:=m) (g:=g) (L:=L) (x:=x) (s:={s with heap:=h',toks:=tk}) (Q:=λ f s'=>match f with | .next=>False | f=>Q f s') (v0 (l:=@"int") (zk (by decide))) (z2f hok hdg hh hK T hk hxi hxs hxr hxl hsk2 hsn2) (λ e p q=>by cases q) (λ e p q=>by cases q) S' ?_) (λ f s' hf=>?_) λ _ _ e=>e)
  ·exact λ u h2 tk2 I2 o2 F2 N2 hs2 z2=>hq u h2 tk2 I2 o2 F2 N2 hs2 z2
  ·cases f<;>first | exact hf.elim | exact hf
end
theorem adj1(l:List Nat):l.take (adj l.length 1)=l.take 1:=by
 have:adj l.length 1=min 1 l.length:=wT _ 1
 rw[this]
 cases l with
 | nil=>rfl
 | cons c r=>simp
theorem adjm(l:List Nat):adj l.length (-1)=l.length-1:=z1i _
theorem adjd(l:List Nat):l.drop (adj l.length 1)=l.drop 1:=by
 have:adj l.length 1=min 1 l.length:=wT _ 1
 rw[this]
 cases l with
 | nil=>rfl
 | cons c r=>simp
section
variable {w:World}{x:Addr×Obj}{A:Around}{g:Heap}{L C0 a:Addr}{I:Led}{m:Str->Option Value}{cn:Str}{cs:Scope}{ccd:Value}{pp:Program}{ll:List Str}{mean:ExcName->Option Value}{mg mb:Str->Option Value}
theorem z2H{t:Tok}{e:Expr}(he:ShT e)(hok:zu q)(hh:A.handled=none)(hu:A.units+8<cLine)(hK:(KX w.params x).In g)(T:Top pp ll mean mg mb g)(hk:cs.kind=.function)(hxi:cs.names.lookup ("inner":Str)=some .cell)(hxl:cs.names.lookup ("len":Str)=some .globalImplicit) :
  EB w A g L C0 I m (envX cn cs L a ccd [(("inner":Str),C0)]) (some (.str (z0 q) t)) e (qS q):=by
 obtain⟨_,_,_,_,rfl,⟨_,_,_,_,_,_,_,_,rfl⟩,⟨_,_,_,_,_,_,_,_,_,rfl⟩,⟨_,_,_,_,_,_,rfl⟩⟩:=he
 have hin:=λ p=>wb (w:=w) (x:=x) (A:=A) (g:=g) (L:=L) (C0:=C0) (a:=a) (I:=I) (m:=m) (cn:=cn) (cs:=cs) (ccd:=ccd) (cl:=[(("inner":Str),C0)]) (p:=p) (.str t hok) hk rfl hxi
 have e1:qS q=((q.take (adj q.length 1)).drop 0==[40]&&((q.take q.length).drop (adj q.length (-1))==[41]&&(decide ((2:Int)<(q.length:Int))&&true))):=by
  rw[adj1,adjm,List.take_length,List.drop_zero,Bool.and_true,←Bool.and_assoc]
  unfold qS
  congr 1
  exact(ilt 2 _).symm
 rw[e1]
 refine XA (qb (k:=.eq) hK hu rfl (ZQ (lo:=none) (hi:=some 1) hK (hin _) trivial v7) (v0 (l:=[40]) (zk (by decide))) rfl) λ _=>?_
 refine XA (qb (k:=.eq) hK hu rfl (ZQ (lo:=some (-1)) (hi:=none) hK (hin _) (Q2 v7) trivial) (v0 (l:=[41]) (zk (by decide))) rfl) λ _=>?_
 refine XA (qb (k:=.gt) hK hu rfl (QH hh hK T hk hxl (λ e p q=>by cases q) (hin _)) v7 rfl) λ _=>Jt
theorem Wp{ov:Option Value}{env:Env}{b:Bool}{r:Stmt}{p:Pos}{rest:List Stmt}{s:Shared}{Q:Flow->Shared->Prop}(h0:1<=s.toks)(ht:EB w A g L C0 I m env ov t b)(S:CS g L C0 I m ov s.heap)(h1:b=true->∀ h' tk,CS g L C0 I m ov h'->1<=tk->wpAny (model pw w) A (exec r env) (λ f s'=>match f with | .next=>False | f=>Q f s') X {s with heap:=h',toks:=tk})(h2:b=false->∀ h' tk,CS g L C0 I m ov h'->1<=tk->wpAny (model pw w) A (execs rest env) Q X {s with heap:=h',toks:=tk}):wpAny (model pw w) A (execs (.If t [r] [] p::rest) env) Q X s:=by
 refine wpAny_execs_cons (wpAny_If (wp1 h0 (ht s _ _ S λ h' tk S' ht'=>?_)))
 cases b with
 | true=>
  rw[if_pos rfl]
  refine wpAny_execs_cons (wpAny_mono (h1 rfl h' tk S' ht') (λ f s' hf=>?_) λ _ _ e=>e)
  cases f<;>first | exact hf.elim | exact hf
 | false=>
  rw[if_neg (by decide)]
  exact wpAny_execs_nil (h2 rfl h' tk S' ht')
theorem qE{ov:Option Value}{p:Pos}{rest:List Stmt}{s:Shared}{Q:Flow->Shared->Prop}(h0:1<=s.toks)(hk:cs.kind=.function)(hxi:cs.names.lookup ("inner":Str)=some .cell)(hnc:yC t=true)(hne:∀ p∈I,p.1≠C0)(ht:EV w x A g L C0 I m (envX cn cs L a ccd [(("inner":Str),C0)]) ov t y)(S:CS g L C0 I m ov s.heap)(h:∀ v h' tk,CS g L C0 I m (some v) h'->RV (KX w.params x) (zi w) [] [] v y->1<=tk->wpAny (model pw w) A (execs rest (envX cn cs L a ccd [(("inner":Str),C0)])) Q X {s with heap:=h',toks:=tk}) :
  wpAny (model pw w) A (execs (.Assign [.Name "inner" p1] t p::rest) (envX cn cs L a ccd [(("inner":Str),C0)])) Q X s:=by
 refine wpAny_execs_cons (wpAny_Assign_Name (wp1 h0 (ht s _ _ S λ v h' tk S' z ht'=>?_)) (y5 hnc))
 obtain⟨F,o,ho,N⟩:=S'
 exact storeX_C F N (c:=C0) rfl (.head hne) ho (λ h2 o2 F2 N2 ho2=>h v h2 tk ⟨F2,o2,ho2,N2⟩ z ht') hk hxi
end
section
variable {w:World}{x:Addr×Obj}{A:Around}{C0:Addr}{I:Led}{m:Str->Option Value}{pp:Program}{ll:List Str}{mean:ExcName->Option Value}{mg mb:Str->Option Value}
theorem z2L{n:Nat}{t:Tok}{d e f:Stmt}{s:Shared}{Q:Flow->Shared->Prop}(hw:c.w=w)(hcl:c.cl=[(("inner":Str),C0)])(C:Cok (KX w.params x) false n 10 c A)(hD:ShD d)(he:ShE e)(hf:ShF f)(hok:zu q)(hK:(KX w.params x).In c.h₀)(T:Top pp ll mean mg mb c.h₀)(hxi:c.scope.names.lookup ("inner":Str)=some .cell)(hxs:c.scope.names.lookup ("sum":Str)=some .globalImplicit)(hxr:c.scope.names.lookup ("range":Str)=some .globalImplicit)(hxl:c.scope.names.lookup ("len":Str)=some .globalImplicit)(hxn:c.scope.names.lookup ("_law_is_name":Str)=some .globalImplicit)(hne:∀ p∈I,p.1≠C0)(ht:1<=s.toks)(S:CS c.h₀ c.L C0 I m (some (.str (z0 q) t)) s.heap)(hy:lenV [.str (42::q)]=some y)(hq:Fin w x c.h₀ c.L C0 I m s y Q):wpAny (model pw w) A (execs [d,e,f] c.env) Q X s:=by
 obtain⟨cw,cA0,cb,co,g,L,cn,cs,a,ccd,cl⟩:=c
 dsimp only at hcl hw hxi hxs hxr hxl hxn S T hK hq
 subst hcl
 subst hw
 have hh:A.handled=none:=C.hh rfl
 have hk:cs.kind=.function:=C.fk
 have hu:A.units+8<cLine:=by have:=C.un;omega
 obtain⟨_,_,_,_,_,rfl,d0,d1,d2,d3⟩:=hD
 refine wpAny_execs_cons (wpAny_If (wp1 ht (z2H d0 hok hh hu hK T hk hxi hxl s _ _ S λ h' tk S' ht'=>?_)))
 cases hb:qS q with
 | false=>
  rw[if_neg (by decide)]
  refine wpAny_execs_nil ?_
  rw[z0h hb] at hy
  exact Wo he hf hok hh hu hK T hk hxi hxs hxr hxl S' hy λ u h2 tk2 I2 o2 F2 N2 hs2 z2=>hq u h2 tk2 I2 o2 F2 N2 hs2 z2
 | true=>
  rw[if_pos rfl]
  obtain⟨_,_,_,_,_,_,_,_,_,_,rfl⟩:=d1
  have hin:=λ p=>wb (w:=cw) (x:=x) (A:=A) (g:=g) (L:=L) (C0:=C0) (a:=a) (I:=I) (m:=m) (cn:=cn) (cs:=cs) (ccd:=ccd) (cl:=[(("inner":Str),C0)]) (p:=p) (.str t hok) hk rfl hxi
  have hmid:(q.take (adj q.length (-1))).drop (adj q.length 1)=wx q:=by
   rw[adjm]
   unfold wx
   have:adj q.length 1=min 1 q.length:=wT _ 1
   rw[this,List.drop_take]
   have h2:2<q.length:=by
    unfold qS at hb
    simp only[Bool.and_eq_true,decide_eq_true_eq] at hb
    exact hb.2
   rw[Nat.min_eq_left (Nat.le_of_lt (Nat.lt_trans (by decide) h2))];rfl
  refine qE (s:={s with heap:=h',toks:=tk}) ht' hk hxi rfl hne (ZQ (lo:=some 1) (hi:=some (-1)) hK (hin _) v7 (Q2 v7)) S' λ v h2 tk2 S2 z2 ht2=>?_
  have z2':RV (KX cw.params x) (zi cw) [] [] v (.str (wx q)):=by rw[←hmid];exact z2
  revert S2
  refine RV.eStr z2' λ t2 hok2 S2=>?_
  have hin2:=λ p=>wb (w:=cw) (x:=x) (A:=A) (g:=g) (L:=L) (C0:=C0) (a:=a) (I:=I) (m:=m) (cn:=cn) (cs:=cs) (ccd:=ccd) (cl:=[(("inner":Str),C0)]) (p:=p) (.str t2 hok2) hk rfl hxi
  obtain⟨_,_,_,_,_,_,_,_,rfl⟩:=d2
  refine Wp (s:={s with heap:=h2,toks:=tk2}) ht2 (qb (k:=.eq) (b:=wx q==[42]) hK hu rfl (hin2 _) (v0 (l:=[42]) (zk (by decide))) rfl) S2 (λ hb2 h3 tk3 S3 ht3=>?_) λ hb2 h3 tk3 S3 ht3=>?_
  ·rw[JT hb hb2] at hy
   cases hy
   refine wpAny_Return_some (wpAny_Constant_str ?_)
   obtain⟨F,o,ho,N⟩:=S3
   exact hq _ h3 _ I o F N (λ p hp=>hp) (.str _ (zk (by decide)))
  ·obtain⟨_,_,_,_,_,_,_,_,_,_,rfl⟩:=d3
   refine wpAny_execs_cons (wpAny_If (V6 (c:=⟨cw,cA0,cb,co,g,L,cn,cs,a,ccd,[(("inner":Str),C0)]⟩) (s:={s with heap:=h3,toks:=tk3}) rfl C T ht3 hK hxn (hin2 _) S3 λ h4 tk4 S4=>?_))
   cases hb3:lenV.isNameB (wx q) with
   | true=>
    rw[if_pos rfl]
    rw[KW hb hb2 hb3] at hy
    cases hy
    refine wpAny_execs_cons (wpAny_mono (X9 (ov:=some (.str (z0 (wx q)) t2)) (I:=I) (C0:=C0) (m:=m) (g:=g) (L:=L) (x:=x) (s:={s with heap:=h4,toks:=tk4}) (Q:=λ f s'=>match f with | .next=>False | f=>Q f s') (v0 (l:=@"name") (zk (by decide))) (hin2 _) (λ e p q=>by cases q) (λ e p q=>by cases q) S4 ?_) (λ f s' hf=>?_) λ _ _ e=>e)
    ·exact λ u h5 tk5 I2 o2 F2 N2 hs2 z2=>hq u h5 tk5 I2 o2 F2 N2 hs2 z2
    ·cases f<;>first | exact hf.elim | exact hf
   | false=>
    rw[if_neg (by decide)]
    refine wpAny_execs_nil (wpAny_execs_nil ?_)
    rw[z0i hb hb2 hb3] at hy
    exact Wo he hf hok2 hh hu hK T hk hxi hxs hxr hxl S4 hy λ u h5 tk5 I2 o2 F2 N2 hs2 z2=>hq u h5 tk5 I2 o2 F2 N2 hs2 z2
end
section
variable {w:World}{x:Addr×Obj}{A:Around}{C0:Addr}{I:Led}{m:Str->Option Value}{pp:Program}{ll:List Str}{mean:ExcName->Option Value}{mg mb:Str->Option Value}
theorem Kb{n:Nat}{l:List Nat}{t:Tok}{s:Shared}{Q:Flow->Shared->Prop}(hw:c.w=w)(hcl:c.cl=[(("inner":Str),C0)])(C:Cok (KX w.params x) false n 10 c A)(hok:zu l)(hK:(KX w.params x).In c.h₀)(T:Top pp ll mean mg mb c.h₀)(hsc:c.scope=yn (bd 132))(hm:m "text"=some (.str (z0 l) t))(hne:∀ p∈I,p.1≠C0)(S:CS c.h₀ c.L C0 I m none s.heap)(hy:lenV [.str l]=some y)(hq:Fin w x c.h₀ c.L C0 I m s y Q):wpAny (model pw w) A (execs (xC (bd 132)) c.env) Q X s:=by
 obtain⟨cw,cA0,cb,co,g,L,cn,cs,a,ccd,cl⟩:=c
 dsimp only at hcl hw S T hK hq hsc
 subst hcl
 subst hw
 have hh:A.handled=none:=C.hh rfl
 have hk:cs.kind=.function:=C.fk
 have hu:A.units+8<cLine:=by have:=C.un;omega
 obtain⟨k1,k2,k3,k4,k5,k6,k7⟩:=jG
 rw[←hsc] at k1 k2 k3 k4 k5 k6
 obtain⟨sa,sb,sc_,sd,se_,sf,hbo,ha,hb,hc,hd,he,hf⟩:=z2T
 rw[hbo]
 obtain⟨_,_,_,_,_,_,_,_,rfl⟩:=ha
 refine wpAny_execs_cons (wpAny_If (wpAny_isTrue_Compare1 (nameX_L S.1 hm (wpAny_Constant_str (wp1 (n:=1) (Nat.le_add_left 1 s.toks) ?_)) hk k1 (by decide)) rfl))
 obtain⟨o0,ho0,S0⟩:=S.st2 (w:=cw) (x:=x) hK
 refine XO (k:=.eq) (c:=cxO cw A g L default) (s:={s with toks:=s.toks+1}) (x:=.str l) (y:=.str []) (r:=l==[]) (H:=[]) hu (amb cw x).sys S0 (.str t hok) (.str _ (zk (by decide))) rfl λ tk1 ht1=>wpAny_truthy_bool ?_
 have S1:CS g L C0 I m none ({s with toks:=tk1}:Shared).heap:=S
 cases l with
 | nil=>
  cases hy
  rw[if_pos (by rfl)]
  refine wpAny_execs_cons (wpAny_Return_some (wpAny_Constant_none ?_))
  obtain⟨F,o,ho,N⟩:=S
  exact hq .none s.heap _ I o F N (λ p hp=>hp) .none
 | cons ch q=>
  rw[if_neg (by simp)]
  refine wpAny_execs_nil ?_
  obtain⟨_,_,_,_,_,_,_,rfl⟩:=hb
  have htx:=λ ov p=>z0M (w:=cw) (x:=x) (A:=A) (g:=g) (L:=L) (C0:=C0) (a:=a) (I:=I) (m:=m) (ov:=ov) (cn:=cn) (cs:=cs) (ccd:=ccd) (cl:=[(("inner":Str),C0)]) (p:=p) hm (.str t hok) hk k1
  refine qE (s:={s with toks:=tk1}) ht1 hk k2 rfl hne (ZQ (lo:=some 1) (hi:=none) hK (htx none _) v7 trivial) S1 λ v h2 tk2 S2 z2 ht2=>?_
  have hval:(((ch::q).take (ch::q).length).drop (adj (ch::q).length 1))=q:=by rw[List.take_length,adjd];rfl
  have z2':RV (KX cw.params x) (zi cw) [] [] v (.str q):=by rw[←hval];exact z2
  revert S2
  refine RV.eStr z2' λ t2 hok2 S2=>?_
  obtain⟨_,_,_,_,_,_,_,_,_,_,_,rfl⟩:=hc
  refine Wp (s:={s with heap:=h2,toks:=tk2}) ht2 (qb (k:=.ne) (b:=!(ch==42)) hK hu rfl (z3a (v:=.str [ch]) hK (λ _ _=>rfl) (htx _ _) v7 rfl (λ I' u z=>by cases z;exact .str _ ‹_›)) (v0 (l:=[42]) (zk (by decide))) (by simp [zd,eqV])) S2 (λ hb2 h3 tk3 S3 ht3=>?_) λ hb2 h3 tk3 S3 ht3=>?_
  ·have hne42:(ch==42)=false:=by simpa using hb2
   rw[J8 hne42] at hy
   cases hy
   refine wpAny_Return_some (wpAny_Constant_bool ?_)
   obtain⟨F,o,ho,N⟩:=S3
   exact hq _ h3 _ I o F N (λ p hp=>hp) (.bool false)
  ·have h42:ch=42:=by simpa using hb2
   subst h42
   exact z2L (c:=⟨cw,cA0,cb,co,g,L,cn,cs,a,ccd,[(("inner":Str),C0)]⟩) (s:={s with heap:=h3,toks:=tk3}) rfl rfl C hd he hf hok2 hK T k2 k4 k5 k3 k6 hne ht3 S3 hy λ u h4 tk4 I2 o2 F2 N2 hs2 z2=>hq u h4 tk4 I2 o2 F2 N2 hs2 z2
end
theorem z0P(P:Params)(x:Addr×Obj):(KX P x).lookup 723=some (⟨.type "function",none,.func (fD (bd 132) "_law_length" 3 [] .none .none .none (.str "law_no0290_02" 1324) none (.ref 722) .none 0),#[]⟩:Obj):=by kernel_rfl
theorem QS(P:Params)(x:Addr×Obj):codeIn (KX P x) (.ref 722) "_law_length"=true:=by kernel_rfl
theorem YX(h:lenV xs=some y):∃ l,xs=[.str l]:=by
 cases xs with
 | nil=>exact n1 h
 | cons v r=>
  cases r with
  | nil=>cases v<;>first | exact⟨_,rfl⟩ | exact n1 h
  | cons u r=>
   cases v with
   | str s=>cases s<;>exact n1 h
   | _=>exact n1 h
theorem wJ{v:V}(hv:v.flatIn=true)(h:some v=some y):y.flatIn=true:=Option.some.inj h ▸ hv
theorem Vh(h:lenV xs=some y):y.flatIn=true:=by
 obtain⟨l,rfl⟩:=YX h
 revert h
 cases l with
 | nil=>exact wJ rfl
 | cons c q=>exact i_ (P:=λ o:Option V=>o=some y->y.flatIn=true) (wJ rfl) (i_ (P:=λ o:Option V=>o=some y->y.flatIn=true) (wJ rfl) (i_ (P:=λ o:Option V=>o=some y->y.flatIn=true) (wJ rfl) (i_ (P:=λ o:Option V=>o=some y->y.flatIn=true) (wJ rfl) (wJ rfl))))
theorem Z4(n:Nat):cellsFrom n (yn (bd 132)).names []=[(("inner":Str),n)]:=by kernel_rfl
theorem z2b(P:Params)(x:Addr×Obj):∃ nm,(KX P x).lookup 723=some ⟨.type "function",none,.func (fnOf nm "_law_length" (yS (bd 132)) (xC (bd 132)) (yn (bd 132)) .none .none .none (.str "law_no0290_02" 1324) none (.ref 722) .none),#[]⟩:=by
 obtain⟨nm,hn⟩:=Yi (s:=bd 132) (by decide +kernel)
 exact⟨nm,by rw[z0P,hn];rfl⟩
theorem z2a:(yS (bd 132)).posonlyargs=[]/\(yS (bd 132)).kwonlyargs=[]/\(yS (bd 132)).vararg=none/\(yS (bd 132)).kwarg=none/\(yS (bd 132)).args.map (·.arg)=[("text":Str)]:=by
 have h:((yS (bd 132)).posonlyargs.isEmpty&&(yS (bd 132)).kwonlyargs.isEmpty&&(yS (bd 132)).vararg.isNone&&(yS (bd 132)).kwarg.isNone&&(yS (bd 132)).args.map (·.arg)==[("text":Str)])=true:=by decide +kernel
 simpa only[Bool.and_eq_true,List.isEmpty_iff,Option.isNone_iff_eq_none,beq_iff_eq,and_assoc] using h
theorem len_sc:(yn (bd 132)).isCoroutine=false/\(yn (bd 132)).isGenerator=false/\((cellsFrom 0 (yn (bd 132)).names []).map (·.1)).Nodup:=by decide +kernel
theorem z39{x:Addr×Obj}{n:Nat}{a:Addr}{s:Shared}(ha:(zi w).f 60=some a)(C:Cok (KX w.params x) false (n+1) 4 c A)(ht:1<=s.toks)(S:St (KX w.params x) (zi w) c.w c.h₀ c.L s.heap m M I H)(hv:RVs (KX w.params x) (zi w) I (z6 M) vs xs)(p:Post (KX w.params x) (zi w) (zU (KX w.params x) (zi w)) c s m M I (lift H (lenV xs)) Q X):codeAny (model pw c.w) A (.call (.ref a) ⟨vs,[]⟩) (zy Q X) s:=by
 have ha':a=723:=by
  have:(zi w).f 60=some 723:=by rfl
  rw[this] at ha
  exact(Option.some.inj ha).symm
 subst ha'
 have hw:c.w=w:=S.tw.symm
 cases hy:lenV xs with
 | none=>rw[hy] at p;exact p.elim
 | some y=>
  rw[hy] at p
  have hfl:=Vh hy
  obtain⟨l,rfl⟩:=YX hy
  cases hv with
  | cons hv1 hv2=>
  cases hv2
  cases hv1 with
  | str t hok=>
  obtain⟨pp,ll,mean,mg,mb,T⟩:=C.T
  obtain⟨nm,ho⟩:=z2b w.params x
  obtain⟨e1,e2,e3,e4,e5⟩:=z2a
  obtain⟨k1,k2,k3,k4,k5,k6,k7⟩:=jG
  refine code_defC (binds:=[(("text":Str),.str (z0 l) t)]) C.B S.F S.kin S.N T C.hA rfl C.fk ho (QS _ _) (by have:=C.dp;omega) ?_ ?_ len_sc.2.2 (λ g L' h₁ tk cells FG F' N' Y' B' KG TG hlt=>?_) len_sc.1 len_sc.2.1 k7
  ·have hbp:=ki (s:=s) (fd:=fnOf nm "_law_length" (yS (bd 132)) (xC (bd 132)) (yn (bd 132)) .none .none .none (.str "law_no0290_02" 1324) none (.ref 722) .none) (vs:=[.str (z0 l) t]) e1 e2 e3 e4 rfl (by show((yS (bd 132)).args.map (·.arg)).Nodup;rw[e5];decide) (by show _=((yS (bd 132)).args.map (·.arg)).length;rw[e5];rfl)
   have e6:((fnOf nm "_law_length" (yS (bd 132)) (xC (bd 132)) (yn (bd 132)) .none .none .none (.str "law_no0290_02" 1324) none (.ref 722) .none).params.args.map (·.arg))=[("text":Str)]:=e5
   rw[e6] at hbp
   exact hbp
  ·simp only[List.all_cons,List.all_nil,k1,Bool.and_true];rfl
  ·rw[Z4] at Y'
   obtain⟨o,rfl,hod⟩:=Y'.one
   have hko:(envOfC "_law_length" (yn (bd 132)) L' 723 (.ref 722)).kindOf "text"=some .local:=k1
   have hod':o.data=.cell none:=by
    rw[hod]
    simp only[bindC,hko,if_true]
   have hm:(bindL (envOfC "_law_length" (yn (bd 132)) L' 723 (.ref 722)).kindOf [(("text":Str),Value.str (z0 l) t)] λ _=>none) "text"=some (.str (z0 l) t):=by
    simp only[bindL,hko,if_true]
   generalize hm2:(bindL (envOfC "_law_length" (yn (bd 132)) L' 723 (.ref 722)).kindOf [(("text":Str),Value.str (z0 l) t)] λ _=>none)=m2 at hm F'
   obtain⟨c',hc'⟩:∃ c':Cx,c'=⟨c.w,A,c.base,c.env::c.outer,g,L',"_law_length",yn (bd 132),723,.ref 722,[(("inner":Str),L'+1)]⟩:=⟨_,rfl⟩
   have henv:envOfC "_law_length" (yn (bd 132)) L' 723 (.ref 722)=c'.env:=by
    subst hc'
    show envX "_law_length" (yn (bd 132)) L' 723 (.ref 722) (cellsFrom (L'+1) (yn (bd 132)).names [])=_
    rw[Z4]
   have hA':(A.deeper c'.env).frames=some (c'.env::c'.outer):=by
    have:c'.outer=c.env::c.outer:=by subst hc';rfl
    rw[this]
    exact Around.frames_deeper C.hA
   have C':Cok (KX w.params x) false n 10 c' (A.deeper c'.env):=by
    refine⟨by subst hc';exact B',hA',by subst hc';exact C.Tb,by subst hc';exact C.kb,by subst hc';exact k7,λ h=>C.hh h,?_,?_⟩
    ·have:=C.dp
     show A.depth+1+8*n+10<recursionLimit
     omega
    ·have:=C.un
     show A.units+3+64*n+8*10<cLine
     omega
   rw[henv]
   have key:=Kb (c:=c') (w:=w) (x:=x) (C0:=L'+1) (I:=M++I) (m:=m2) (y:=y) (s:={s with heap:=h₁,toks:=tk}) (A:=A.deeper c'.env)
    (Q:=λ fl s'=>LeaveK c.h₀ c.L m g (zy Q X) (match fl with | .ret v=>v | _=>.none) s')
    (X:=λ e s'=>wpAny (model pw c.w) (A.deeper c'.env) (leaving c'.env e) (λ _ s''=>zy Q X (.error e) s'') (λ e' s''=>zy Q X (.error e') s'') s')
    (by subst hc';exact hw) (by subst hc';rfl) C' hok (by subst hc';exact KG) (by subst hc';exact TG) (by subst hc';rfl) hm (λ p hp e=>by have:=hlt p hp;rw[e] at this;exact absurd this (Nat.not_lt.mpr (Nat.le_succ L'))) (by subst hc';exact⟨F',o,hod',N'⟩) hy ?_
   ·rw[hw] at key ⊢
    exact key
   ·intro u h2 tk2 I2 o2 F2 N2 hs2 z2
    have hg0:c'.h₀=g:=by subst hc';rfl
    have hL0:c'.L=L':=by subst hc';rfl
    rw[hg0,hL0] at F2 N2
    have S2:St (KX w.params x) (zi w) c.w g L' h2 m2 [] ((L'+1,o2)::I2) []:=⟨F2,N2,List.nodup_nil,λ p hp q=>(by cases q),ROs.nil,KG,S.tw⟩
    obtain⟨S3,x3,hs3⟩:=St.unfresh S S2 ⟨λ p hp=>.tail _ (hs2 p hp),λ i a e=>by simp at e⟩
    show LeaveK c.h₀ c.L m g (zy Q X) u {s with heap:=h2,toks:=tk2}
    exact leaveK_ (s':={s with heap:=h2,toks:=tk2}) S3.F S3.N λ F4 N4=>p u h2 tk2 M _ ⟨F4,N4,S3.nd,S3.ap,S3.ro,S.kin,S.tw⟩ x3 (RV.flatSub (λ p hp hc=>hs3 p (.tail _ hp) hc) hfl z2)
end
section
open PyProof.Rows PySem.W
theorem Qd:lawRec.scope=(fiO rL).sc:=by kernel_rfl
theorem z2Y:lawRec.body=xC (bd 136):=by kernel_rfl
theorem ky{l r:Frag}{a:Addr}:(l++r).lookup a=(l.lookup a).or (r.lookup a):=by
 show List.lookup a (l++r)=_
 rw[List.lookup_append]
set_option tactic.hygienic true in
theorem kx_in{P:Params}{x:Addr×Obj}(hk:(KP P).In h)(hx:h.get? x.1=some x.2):(KX P x).In h:=by
 intro a o ho
 unfold KX at ho
 rw[ky] at ho
 cases hq:(KP P).lookup a with
 | some o'=>
  rw[hq] at ho
  cases ho
  exact hk a _ hq
 | none=>
  rw[hq] at ho
  obtain⟨b,ob⟩:=x
  have ho':List.lookup a [(b,ob)]=some o:=ho
  simp only[List.lookup] at ho'
  split at ho'
  ·rename_i he
   cases ho'
   rw[be_ he]
   exact hx
  ·cases ho'
theorem kx_at{P:Params}{a:Addr}{o:Obj}(hk:(KP P).In h)(hx:h.get? a=some o):(KX P (a,o)).lookup a=some o:=by
 unfold KX
 rw[ky]
 cases hq:(KP P).lookup a with
 | some o'=>
  have:=hk a _ hq
  rw[hx] at this
  cases this
  rfl
 | none=>
  show List.lookup a [(a,o)]=some o
  simp [List.lookup]
theorem JV{K:Frag}{tb:Tab}(h:IntsAre vs ns):RVs K tb I μ vs (ns.map .int):=by
 induction h with
 | nil=>exact .nil
 | cons n t _ ih=>exact .cons (.int n t) ih
theorem core(hp:∀ w x,ZO w x)(hlaw:∀ ns:List Int,ns.length<=63->∃ H',evS G_ (evN G_ 2000 fns xK 36) 2000 wU [some (.clst (ns.map .int)),none,none,none,none,none,none,none,none,none,none] []=.ret (.bool true) H'){s₁:Shared}{pp:_}{ll:_}{mean:_}{a fa:Addr}{cd:Value}{h₁:Heap}{gens:_}{drawn:_}{tk:Nat}{os:_}{Q:Flow->Shared->Prop}{E:Value->Shared->Prop}(hk:(KP w.params).In s₁.heap)(T:Top pp ll mean mg mb s₁.heap)(hL:s₁.heap.IsList a vs.toArray)(hI:IntsAre vs ns)(hlen:ns.length<=63)(B:Below callerA s₁.heap [] s₁.heap)(F:Fr s₁.heap s₁.heap.objs.size h₁ m)(hm:m "script"=some (.ref a))(N:News s₁.heap s₁.heap.objs.size h₁ [])(ht:1<=tk)(hQ:∀ h' tk' m',Fr s₁.heap s₁.heap.objs.size h' m'->Q (.ret (.bool true)) ⟨h',gens,drawn,tk',os⟩) :
  wpAny (model pw w) (callerA.deeper (envOf lawRec.name lawRec.scope s₁.heap.objs.size fa cd)) (execs lawRec.body (envOf lawRec.name lawRec.scope s₁.heap.objs.size fa cd)) Q E ⟨h₁,gens,drawn,tk,os⟩:=by
 obtain⟨o,ho,hc,n,hd⟩:=hL
 obtain⟨H',hev⟩:=hlaw ns hlen
 have hin:(KX w.params (a,o)).In s₁.heap:=kx_in hk ho
 rw[z2Y]
 refine z2y (w:=w) (x:=(a,o)) (F:=evN G_ 2000 fns xK 36) (W:=2000) (n:=36) (Kd w (a,o) (hp w (a,o)) 2000 36) ⟨w,callerA,s₁.heap,[],s₁.heap,s₁.heap.objs.size,lawRec.name,lawRec.scope,fa,cd,[]⟩ _ ⟨h₁,gens,drawn,tk,os⟩ m [] [] [some (.clst (ns.map .int)),none,none,none,none,none,none,none,none,none,none] [] Q E rfl ⟨B,rfl,⟨_,_,_,_,_,T⟩,hin,?_,λ _=>rfl,show 1+claimMargin+1+8*36+8<recursionLimit by decide,show 4+3+64*36+8*8<cLine by decide⟩ Qd ht ⟨F,N,List.nodup_nil,?_,?_,hin,rfl⟩ ?_ ?_
 ·rw[Qd];rfl
 ·intro p hp;cases hp
 ·exact .nil
 ·intro i x hx
  match i with
  | 0=>
   cases hx
   refine⟨"script",.ref a,rfl,hm,?_⟩
   have hat:=kx_at hk ho
   obtain⟨oc,od,odt,osl⟩:=o
   dsimp only at hc hd
   subst hc
   subst hd
   exact .clst hat (JV hI)
  | k+1=>
   exfalso
   match k with
   | 0 | 1 | 2 | 3 | 4 | 5 | 6 | 7 | 8 | 9=>cases hx
   | k+10=>cases hx
 ·rw[hev]
  intro v h' tk' m' M' I' S e z
  cases z
  exact hQ h' tk' m' S.F
local macro_rules (kind:=PySem.W.tacticW_nolog_)
 | s=>
 let h:=λ s=>zj (zj (zj (zj s 1) 0) 0) 0
 let f:=zj (zj (zj (zj (zj s 1) 1) 0) 0) 0
 let a:=(zj f 1).getArgs
 if f.isOfKind `Lean.Parser.Tactic.first&&a.size==2&&a.all λ x=>(h x).isOfKind `Lean.Parser.Tactic.paren then pure (xt "skip" "skip" []) else Lean.Macro.throwUnsupported
set_option tactic.hygienic true in
theorem walk_(hp:∀ w x,ZO w x)(hlaw:∀ ns:List Int,ns.length<=63->∃ H',evS G_ (evN G_ 2000 fns xK 36) 2000 wU [some (.clst (ns.map .int)),none,none,none,none,none,none,none,none,none,none] []=.ret (.bool true) H'):WalkO qv loose (XL qv []) (Hook.says Yg) (OpenRow.toRowW (OpenLaw.row rw_)) lawRec [] (λ f vs=>PySem.call f vs):=by
 k_go0
 rename_i w s₀ s₁ mg mb _ _ fa _ _ _ _ _ hg KX0 _ _ T _ _ _ _ _ _ _ cd _ ns _ _ _ _ _ _ _ a vs _ hL _ _ _ hI _ hlen _ K0 _ h₁ F N
 refine core hp hlaw KX0 T hL hI ?_ K0 F rfl N (Nat.le_add_left _ _) λ h' tk' m' F'=>?_
 ·omega
 ·first | exact goodW_bool F' hg (λ _=>rfl) (by kernel_rfl) | (trace "A";wrow_close) | (trace "B";k_end;wrow_close)
end
noncomputable def upC(c:Nat):Bool:=decide (65<=c)&&decide (c<=90)
noncomputable def dgC(c:Nat):Bool:=decide (48<=c)&&decide (c<=57)
theorem z1s(c a n:Nat):(List.range' a n).contains c=(decide (a<=c)&&decide (c<a+n)):=by
 rw[Bool.eq_iff_iff,List.contains_iff_mem,List.mem_range'_1,Bool.and_eq_true,decide_eq_true_eq,decide_eq_true_eq]
theorem xA(c:Nat):(@"ABCDEFGHIJKLMNOPQRSTUVWXYZ":List Nat).contains c=upC c:=(z1s c 65 26).trans (congrArg (decide (65<=c)&&·) (decide_eq_decide.mpr Nat.lt_succ_iff))
theorem yo(c:Nat):(@"0123456789":List Nat).contains c=dgC c:=(z1s c 48 10).trans (congrArg (decide (48<=c)&&·) (decide_eq_decide.mpr Nat.lt_succ_iff))
theorem g1:G_ 1=some (.str @"0123456789"):=rfl
theorem g7:G_ 7=some (.str @"0123456789"):=rfl
theorem g8:G_ 8=some (.str @"ABCDEFGHIJKLMNOPQRSTUVWXYZ"):=rfl
theorem g41:G_ 41=some (.str @"0123456789"):=rfl
theorem g44:G_ 44=some (.str @"ABCDEFGHIJKLMNOPQRSTUVWXYZ"):=rfl
theorem g0:G_ 0=some (.fn 0):=rfl
theorem g2:G_ 2=some (.fn 1):=rfl
theorem Z2{n:Nat}{sg:List Nat}{a:Nat}(hn:s.length<1000):Ev (n+1) 30 [.str s,.int a,.str sg] H=.ok (.int ((a+zo (sg.contains ·) (s.drop a):Nat):Int)) H:=by
 rw[zv (k:=30) (b:=kJ) (L:=[some (.str s),some (.int a),some (.str sg),none]) rfl rfl rfl rfl rfl rfl rfl]
 have hle:=jj (p:=(sg.contains ·)) (s.drop a)
 rw[List.length_drop] at hle
 unfold kJ
 simp! only[]
 rw[WK (λ i=>[some (.str s),some (.int a),some (.str sg),some (.int ((a+i:Nat):Int))]) (zo (sg.contains ·) (s.drop a))]
 ·simp! only[]
  rfl
 ·rfl
 ·exact Nat.lt_trans (ln1 hle hn) (by decide)
 ·rcases kc (p:=(sg.contains ·)) (s:=s) (a:=a) with h1 | ⟨c,h1,h2⟩
  ·simp! only[nlt (gn_ h1)]
  ·have hlt:=(gs_ h1).1
   simp! only[ylt hlt,h1,h2]
 ·intro i hi
  obtain⟨c,h1,h2⟩:=qg hi
  have hlt:=(gs_ h1).1
  refine⟨?_,.inl ?_⟩
  ·simp! only[ylt hlt,h1,h2]
  ·simp! only[]
   rfl
theorem v6{n:Nat}(hs:s<[97]):Ev (n+1) 0 [.str s] H=.ok (.str s) H:=by
 rw[zv (k:=0) (b:=qo) (L:=[some (.str s)]) rfl rfl rfl rfl rfl rfl rfl]
 unfold qo
 have h:zd .le (.str [97]) (.str s) []=some false:=by
  show some (!decide (s<[97]))=_
  rw[decide_eq_true hs];rfl
 simp! only[h]
 rfl
noncomputable def bdC(c:Nat):Bool:=c==32||dgC c
noncomputable def Zs(s:List Nat)(a:Nat):Nat->Int
 | 0=>-1
 | i+1=>if s[a+i]?=some 32 then Zs s a i else(if Zs s a i<0 then 0 else Zs s a i)*10+z8 [(s[a+i]?).getD 0] @"0123456789" 0
theorem Zm{n:Nat}{a:Nat}(hn:s.length<1000)(hH:∀ c,s[a+zo bdC (s.drop a)]?=some c->c≠72/\c<97):Ev (n+2) 1 [.str s,.int a] H=.ok (.tup [.int (-1),.int a]) H:=by
 rw[zv (k:=1) (b:=wz) (L:=[some (.str s),some (.int a),none,none]) rfl rfl rfl rfl rfl rfl rfl]
 have hle:=jj (p:=bdC) (s.drop a)
 rw[List.length_drop] at hle
 unfold wz
 simp! only[]
 rw[WK (λ i=>[some (.str s),some (.int a),some (.int (Zs s a i)),some (.int ((a+i:Nat):Int))]) (zo bdC (s.drop a))]
 ·simp! only[]
  by_cases hc:Zs s a (zo bdC (s.drop a))<0
  ·simp! only[decide_eq_true hc]
   rfl
  ·cases hx:s[a+zo bdC (s.drop a)]? with
   | none=>
    have h1:Ev (n+1) 0 [.str []] []=.ok (.str []) []:=v6 (by decide)
    simp! only[decide_eq_false hc,yj,g0,hx,Option.toList_none,h1]
    rfl
   | some c=>
    obtain⟨h2,h3⟩:=hH c hx
    have h1:Ev (n+1) 0 [.str [c]] []=.ok (.str [c]) []:=v6 (List.cons_lt_cons_iff.mpr (.inl h3))
    have h4:([c]==[72])=false:=by simpa using h2
    simp! only[decide_eq_false hc,yj,g0,hx,Option.toList_some,h1,h4]
    rfl
 ·rfl
 ·exact Nat.lt_trans (ln1 hle hn) (by decide)
 ·rcases kc (p:=bdC) (s:=s) (a:=a) with h1 | ⟨c,h1,h2⟩
  ·simp! only[nlt (gn_ h1)]
  ·have hlt:=(gs_ h1).1
   simp only[bdC,Bool.or_eq_false_iff,beq_eq_false_iff_ne] at h2
   have h3:([c]==[32])=false:=by simpa using h2.1
   simp! only[ylt hlt,h1,h3,g1,yo,h2.2]
 ·intro i hi
  obtain⟨c,h1,h2⟩:=qg hi
  have hlt:=(gs_ h1).1
  by_cases hc:c=32
  ·subst hc
   refine⟨?_,.inl ?_⟩
   ·simp! only[ylt hlt,h1,beq_self_eq_true]
   ·simp! only[h1,beq_self_eq_true,Bool.not_true]
    simp only[Zs,h1,if_true]
    rfl
  ·have h3:([c]==[32])=false:=by simpa using hc
   have h4:dgC c=true:=by simpa [bdC,hc] using h2
   refine⟨?_,.inl ?_⟩
   ·simp! only[ylt hlt,h1,h3,g1,yo,h4]
   ·have h5:(zE (if Zs s a i<0 then 0 else Zs s a i)||zE 10)=true:=by rw[show zE 10=true by decide,Bool.or_true]
    have h6:(some c=some 32)=False:=by simpa using hc
    simp! only[h1,h3,g1,Bool.not_false,h5]
    simp only[Zs,h1,h6,if_false,Option.getD_some]
    rfl
theorem Y6{n:Nat}{a:Nat}(hn:s.length<1000)(hH:∀ c,s[a+zo bdC (s.drop a)]?=some c->c≠72/\c<97):Ev (n+3) 2 [.str s,.int a] H=.ok (.tup [.str [],.int a]) H:=by
 rw[zv (k:=2) (b:=wc) (L:=[some (.str s),some (.int a),none,none,none]) rfl rfl rfl rfl rfl rfl rfl]
 have h1:Ev (n+2) 1 [.str s,.int a] []=.ok (.tup [.int (-1),.int a]) []:=Zm hn hH
 have h2:decide ((-1:Int)<0)=true:=by decide
 unfold wc
 simp! only[g2,h1,h2]
 rfl
theorem g3:G_ 3=some (.str @"(,/:"):=rfl
theorem g4:G_ 4=some (.fn 2):=rfl
theorem g5:G_ 5=some (.fn 3):=rfl
noncomputable abbrev noB(s:List Nat):List Nat:=s.filter (λ c=>c !=32)
noncomputable def kM(s:List Nat):List Nat:=s.getLast?.toList
noncomputable def xi(s:List Nat):List V:=s.map λ c=>.tup [.str [c],.bool false]
noncomputable def WF(s:List Nat):Prop:=(∀ c∈s,c<97/\c≠39)/\∀ i c,s[i]?=some c->dgC c=true->(∃ l,(noB (s.take i)).getLast?=some l/\(@"(,/:":List Nat).contains l=true)->∀ c',s[i+zo bdC (s.drop i)]?=some c'->c'≠72
theorem XF{n:Nat}(hn:s.length<1000)(hT:WF s):Ev (n+4) 3 [.str s] []=.ok (.ref 0) [.lst (xi (noB s))]:=by
 rw[za (k:=3) (b:=qc) (L:=[some (.str s),none,none,none,none,none,none,none]) rfl rfl rfl rfl rfl rfl]
 unfold qc
 simp! only[]
 obtain⟨L',H',⟨x4,x5,x6,x7,rfl,rfl⟩,h2⟩:∃ L' H',((Ex4 λ x4 x5 x6 x7=>L'=[some (.str s),some (.ref 0),some (.str (kM (noB (s.take s.length)))),some (.int ((s.length:Nat):Int)),x4,x5,x6,x7]/\H'=[.lst (xi (noB (s.take s.length)))]))/\zZ (cT G_ (Ev (n+3)) (.cmp .lt (.loc 3) (.bi .len (.cons (.loc 0) .nil)))) (evS G_ (Ev (n+3)) 2000 qf) 2000 [some (.str s),some (.ref 0),some (.str []),some (.int 0),none,none,none,none] [.lst []]=.next L' H':=by
  refine Wf (λ i L H=>(Ex4 λ x4 x5 x6 x7=>L=[some (.str s),some (.ref 0),some (.str (kM (noB (s.take i)))),some (.int ((i:Nat):Int)),x4,x5,x6,x7]/\H=[.lst (xi (noB (s.take i)))])) s.length ⟨none,none,none,none,rfl,rfl⟩ (Nat.lt_trans hn (by decide)) (λ L H hp=>?_) (λ i hi L H hp=>?_)
  ·obtain⟨x4,x5,x6,x7,rfl,rfl⟩:=hp
   simp! only[nlt (Nat.le_refl s.length)]
  ·obtain⟨x4,x5,x6,x7,rfl,rfl⟩:=hp
   have h1:s[i]?=some s[i]:=List.getElem?_eq_getElem hi
   have ht:s.take (i+1)=s.take i++[s[i]]:=by rw[List.take_succ_eq_append_getElem hi]
   obtain⟨c,hc⟩:∃ c,s[i]=c:=⟨_,rfl⟩
   rw[hc] at h1 ht
   have hcm:c∈s:=List.mem_of_getElem? h1
   obtain⟨hc97,hc39⟩:=hT.1 c hcm
   refine⟨by simp! only[ylt hi],?_⟩
   unfold qf
   by_cases h32:c=32
   ·subst h32
    refine⟨[some (.str s),some (.ref 0),some (.str (kM (noB (s.take i)))),some (.int ((i+1:Nat):Int)),some (.str [32]),x5,x6,x7],[.lst (xi (noB (s.take i)))],⟨some (.str [32]),x5,x6,x7,?_,?_⟩,.inr ?_⟩
    ·rw[ht];simp [noB]
    ·rw[ht];simp [noB]
    ·simp! only[h1,beq_self_eq_true]
     rfl
   ·have hb1:([c]==[32])=false:=by simpa using h32
    have hb2:([c]==[39])=false:=by simpa using hc39
    have hcap:Ev (n+3) 0 [.str [c]] [.lst (xi (noB (s.take i)))]=.ok (.str [c]) [.lst (xi (noB (s.take i)))]:=v6 (List.cons_lt_cons_iff.mpr (.inl hc97))
    have hln:(xi (noB (s.take i))).length<2 ^ 20:=by
     rw[xi,List.length_map]
     exact Nat.lt_of_le_of_lt (Nat.le_trans (List.length_filter_le _ _) (List.length_take_le _ _)) (Nat.lt_trans hi (Nat.lt_trans hn (by decide)))
    refine⟨[some (.str s),some (.ref 0),some (.str [c]),some (.int ((i+1:Nat):Int)),some (.str [c]),some (.str []),some (.int ((i:Nat):Int)),x7],[.lst (xi (noB (s.take i))++[.tup [.str [c],.bool false]])],⟨some (.str [c]),some (.str []),some (.int ((i:Nat):Int)),x7,?_,?_⟩,.inl ?_⟩
    ·rw[ht];simp [noB,h32,kM]
    ·rw[ht];simp [noB,h32,xi]
    ·have hl0:kM (noB (s.take i))=[]\/∃ l,kM (noB (s.take i))=[l]/\(noB (s.take i)).getLast?=some l:=by
      unfold kM
      cases (noB (s.take i)).getLast? with
      | none=>exact .inl rfl
      | some l=>exact .inr ⟨l,rfl,rfl⟩
     by_cases hd:dgC c=true
     ·rcases hl0 with hl0 | ⟨l,hl0,hl1⟩
      ·rw[hl0]
       simp! only[h1,hb1,hb2,g0,g1,yo,hd,beq_self_eq_true,Bool.not_true,hcap,xg,hln]
       rfl
      ·have hb3:([l]==([]:List Nat))=false:=rfl
       rw[hl0]
       by_cases ha:(@"(,/:":List Nat).contains l=true
       ·have hh:Ev (n+3) 2 [.str s,.int ((i:Nat):Int)] [.lst (xi (noB (s.take i)))]=.ok (.tup [.str [],.int ((i:Nat):Int)]) [.lst (xi (noB (s.take i)))]:=
         Y6 hn λ c' hc'=>⟨hT.2 i c h1 hd ⟨l,hl1,ha⟩ c' hc',(hT.1 c' (List.mem_of_getElem? hc')).1⟩
        simp! only[h1,hb1,hb2,hb3,g0,g1,g3,g4,yo,hd,beq_self_eq_true,Bool.not_true,Bool.not_false,ha,hh,hcap,xg,hln]
        rfl
       ·have ha':(@"(,/:":List Nat).contains l=false:=by simpa using ha
        simp! only[h1,hb1,hb2,hb3,g0,g1,g3,yo,hd,beq_self_eq_true,Bool.not_true,Bool.not_false,ha',hcap,xg,hln]
        rfl
     ·have hd':dgC c=false:=by simpa using hd
      simp! only[h1,hb1,hb2,g0,g1,yo,hd',beq_self_eq_true,hcap,xg,hln]
      rfl
 rw[List.nil_append,h2]
 simp! only[List.take_length]
 rfl
theorem qN{n:Nat}(hn:s.length<1000)(hT:WF s):Ev (n+5) 4 [.str s] H=.ok (.str (noB s)) H:=by
 rw[zv (k:=4) (b:=vj) (L:=[some (.str s),none,none,none]) rfl rfl rfl rfl rfl rfl rfl]
 have h1:Ev (n+4) 3 [.str s] []=.ok (.ref 0) [.lst (xi (noB s))]:=XF hn hT
 unfold vj
 simp! only[]
 rw[Xm (i:=0) (H':=[.lst (xi (noB s))]) (l:=xi (noB s)) (by simp! only[g5,h1]) rfl]
 have hle:(noB s).length<=s.length:=List.length_filter_le _ _
 obtain⟨L',H',⟨x2,x3,rfl,rfl⟩,h2⟩:=Jw (is:=[2,3]) (b:=evS G_ (Ev (n+4)) 2000 (.cons (.aug 1 .add (.loc 2)) .nil)) (j:=0) (all:=xi (noB s))
  (λ i L H=>∃ x2 x3,L=[some (.str s),some (.str ((noB s).take i)),x2,x3]/\H=[.lst (xi (noB s))]) (λ i L H ⟨_,_,_,h⟩=>by rw[h];rfl) (xi (noB s)) (L:=[some (.str s),some (.str []),none,none]) (H:=[.lst (xi (noB s))]) 0 ⟨none,none,rfl,rfl⟩
  (by
   intro i v hv L H ⟨x2,x3,hL,hH⟩
   subst hL hH
   simp only[xi,List.getElem?_map] at hv
   obtain⟨c,hc,rfl⟩:=om_ hv
   have hi:=(gs_ hc).1
   rw[Nat.zero_add]
   refine⟨[some (.str s),some (.str ((noB s).take i)),some (.str [c]),some (.bool false)],rfl,[some (.str s),some (.str ((noB s).take (i+1))),some (.str [c]),some (.bool false)],_,⟨_,_,rfl,rfl⟩,.inl ?_⟩
   have h3:decide (((noB s).take i).length+[c].length<2 ^ 20)=true:=by
    simp only[List.length_take,List.length_cons,List.length_nil,decide_eq_true_eq]
    omega
   have h4:(noB s).take (i+1)=(noB s).take i++[c]:=by
    rw[List.take_succ_eq_append_getElem hi,←(gs_ hc).2]
   rw[h4]
   simp only[List.length_cons,List.length_nil] at h3
   simp! only[h3])
 rw[h2]
 have h5:0+(xi (noB s)).length=(noB s).length:=by simp [xi]
 rw[h5,List.take_length]
 simp! only[]
 rfl
noncomputable def xz(d:Int)(c:Nat):Int:=if c=40/\0<=d then d+1 else if c=41/\0<d then d-1 else if c=41 then -2 else d
noncomputable def yT(d:Int)(c:Nat):Int:=if c=40/\0<=d then d else if c=41/\0<d then d-1 else if c=41 then -2 else d
noncomputable def qn:Int->List Nat->List Int
 | _,[]=>[]
 | d,c::r=>yT d c::qn (xz d c) r
noncomputable def zM(s:List Nat)(i:Nat):Int:=(s.take i).foldl xz 0
theorem YA(s:List Nat):∀ d:Int,(qn d s).length=s.length:=by
 induction s with
 | nil=>exact λ _=>rfl
 | cons c r ih=>exact λ d=>congrArg Nat.succ (ih _)
theorem Wj:∀ {d:Int} {i c:Nat},s[i]?=some c->(qn d s)[i]?=some (yT ((s.take i).foldl xz d) c):=by
 induction s with
 | nil=>exact λ h=>n1 h
 | cons a r ih=>
  intro d i c h
  cases i with
  | zero=>rw[←Option.some.inj h];rfl
  | succ i=>exact ih (i:=i) h
theorem wE{c:Nat}(h:s[i]?=some c):zM s (i+1)=xz (zM s i) c:=by
 have hi:=(gs_ h).1
 unfold zM
 rw[List.take_succ_eq_append_getElem hi,←(gs_ h).2,List.foldl_append]
 rfl
theorem Ji{l:List α}{x:α}(h:l[i]?=some x):l.take (i+1)=l.take i++[x]:=by
 have hi:=(gs_ h).1
 rw[List.take_succ_eq_append_getElem hi,←(gs_ h).2]
theorem jW{n:Nat}(hn:s.length<1000)(h39:∀ c∈s,c≠39):Ev (n+1) 5 [.str s] []=.ok (.ref 0) [.lst ((qn 0 s).map .int)]:=by
 rw[za (k:=5) (b:=kG) (L:=[some (.str s),none,none,none,none]) rfl rfl rfl rfl rfl rfl]
 unfold kG
 simp! only[List.nil_append]
 rw[z1Z (l:=s) (H':=[.lst []]) (by simp! only[])]
 obtain⟨L',H',⟨x,rfl,rfl⟩,h2⟩:∃ L' H',(∃ x,L'=[some (.str s),some (.ref 0),some (.int (zM s (0+(s.map λ c=>V.str [c]).length))),some (.bool false),x]/\H'=[.lst (((qn 0 s).take (0+(s.map λ c=>V.str [c]).length)).map .int)])/\zh [4] (evS G_ (Ev n) 2000 kP) (s.map λ c=>V.str [c]) [some (.str s),some (.ref 0),some (.int 0),some (.bool false),none] [.lst []]=.next L' H':=by
  refine We (λ i L H=>∃ x,L=[some (.str s),some (.ref 0),some (.int (zM s i)),some (.bool false),x]/\H=[.lst (((qn 0 s).take i).map .int)]) _ 0 ⟨none,rfl,rfl⟩ ?_
  intro i v hv L H ⟨x,hL,hH⟩
  subst hL hH
  simp only[List.getElem?_map] at hv
  obtain⟨c,hc,rfl⟩:=om_ hv
  rw[Nat.zero_add]
  have hlen:decide ((((qn 0 s).take i).map V.int).length<2 ^ 20)=true:=by
   rw[List.length_map]
   exact decide_eq_true (Nat.lt_of_le_of_lt (Nat.le_trans (List.length_take_le' _ _) (Nat.le_of_eq (YA s 0))) (Nat.lt_trans hn (by decide)))
  refine⟨[some (.str s),some (.ref 0),some (.int (zM s i)),some (.bool false),some (.str [c])],rfl,[some (.str s),some (.ref 0),some (.int (zM s (i+1))),some (.bool false),some (.str [c])],[.lst (((qn 0 s).take (i+1)).map .int)],⟨_,rfl,rfl⟩,.inl ?_⟩
  have hat:(qn 0 s)[i]?=some (yT (zM s i) c):=Wj hc
  rw[Ji hat,wE hc,List.map_append]
  have hb:([c]==[39])=false:=by simpa using h39 c (List.mem_of_getElem? hc)
  unfold kP
  by_cases h40:c=40
  ·subst h40
   have b1:([40]==[41])=false:=rfl
   by_cases h0:0<=zM s i
   ·have e1:xz (zM s i) 40=zM s i+1:=by simp [xz,h0]
    have e2:yT (zM s i) 40=zM s i:=by simp [yT,h0]
    rw[e1,e2]
    simp! only[hb,beq_self_eq_true,decide_eq_true h0,xg,hlen]
    rfl
   ·have e1:xz (zM s i) 40=zM s i:=by simp [xz,h0]
    have e2:yT (zM s i) 40=zM s i:=by simp [yT,h0]
    rw[e1,e2]
    simp! only[hb,b1,beq_self_eq_true,decide_eq_false h0,xg,hlen]
    rfl
  ·have b0:([c]==[40])=false:=by simpa using h40
   by_cases h41:c=41
   ·subst h41
    by_cases h0:0<zM s i
    ·have e1:xz (zM s i) 41=zM s i-1:=by simp [xz,h0]
     have e2:yT (zM s i) 41=zM s i-1:=by simp [yT,h0]
     rw[e1,e2]
     simp! only[hb,b0,beq_self_eq_true,decide_eq_true h0,xg,hlen]
     rfl
    ·have e1:xz (zM s i) 41 = -2:=by simp [xz,h0]
     have e2:yT (zM s i) 41 = -2:=by simp [yT,h0]
     rw[e1,e2]
     simp! only[hb,b0,beq_self_eq_true,decide_eq_false h0,xg,hlen]
     rfl
   ·have b1:([c]==[41])=false:=by simpa using h41
    have e1:xz (zM s i) c=zM s i:=by simp [xz,h40,h41]
    have e2:yT (zM s i) c=zM s i:=by simp [yT,h40,h41]
    rw[e1,e2]
    simp! only[hb,b0,b1,xg,hlen]
    rfl
 rw[h2]
 have h5:0+(s.map λ c=>V.str [c]).length=(qn 0 s).length:=by simp [YA]
 rw[h5,List.take_length]
 simp! only[]
 rfl
noncomputable def nmC(c:Nat):Bool:=upC c||dgC c
noncomputable def yv(s:List Nat)(a:Nat):Nat:=match s[a]? with
 | some c=>if upC c then a+zo nmC (s.drop a) else a
 | none=>a
theorem g10:G_ 10=some (.fn 7):=rfl
theorem g11:G_ 11=some (.fn 6):=rfl
theorem g12:G_ 12=some (.fn 8):=rfl
theorem jq{n:Nat}{a:Nat}(hn:s.length<1000):Ev (n+1) 8 [.str s,.int a] H=.ok (.int ((a+zo dgC (s.drop a):Nat):Int)) H:=by
 rw[zv (k:=8) (b:=xY) (L:=[some (.str s),some (.int a),none]) rfl rfl rfl rfl rfl rfl rfl]
 have hle:=jj (p:=dgC) (s.drop a)
 rw[List.length_drop] at hle
 unfold xY
 simp! only[]
 rw[WK (λ i=>[some (.str s),some (.int a),some (.int ((a+i:Nat):Int))]) (zo dgC (s.drop a))]
 ·simp! only[]
  rfl
 ·rfl
 ·exact Nat.lt_trans (ln1 hle hn) (by decide)
 ·rcases kc (p:=dgC) (s:=s) (a:=a) with h1 | ⟨c,h1,h2⟩
  ·simp! only[nlt (gn_ h1)]
  ·have hlt:=(gs_ h1).1
   simp! only[ylt hlt,h1,g7,yo,h2]
 ·intro i hi
  obtain⟨c,h1,h2⟩:=qg hi
  have hlt:=(gs_ h1).1
  refine⟨?_,.inl ?_⟩
  ·simp! only[ylt hlt,h1,g7,yo,h2]
  ·simp! only[]
   rfl
theorem YW{n:Nat}{a:Nat}(hn:s.length<1000):Ev (n+1) 7 [.str s,.int a] H=.ok (.int ((yv s a:Nat):Int)) H:=by
 rw[zv (k:=7) (b:=v1) (L:=[some (.str s),some (.int a),none]) rfl rfl rfl rfl rfl rfl rfl]
 unfold v1
 cases h0:s[a]? with
 | none=>
  have e:yv s a=a:=by unfold yv;rw[h0]
  rw[e]
  simp! only[yj,h0,Option.toList_some,Option.toList_none,beq_self_eq_true]
  rfl
 | some c=>
  have b0:([c]==([]:List Nat))=false:=rfl
  by_cases hu:upC c=true
  ·have e:yv s a=a+zo nmC (s.drop a):=by unfold yv;rw[h0];simp [hu]
   rw[e]
   have hle:=jj (p:=nmC) (s.drop a)
   rw[List.length_drop] at hle
   have ha:=(gs_ h0).1
   simp! only[yj,h0,Option.toList_some,Option.toList_none,b0,g8,xA,hu,Bool.not_true]
   rw[WK (λ i=>[some (.str s),some (.int a),some (.int ((a+i:Nat):Int))]) (zo nmC (s.drop a))]
   ·simp! only[]
    rfl
   ·rfl
   ·exact Nat.lt_trans (ln1 hle hn) (by decide)
   ·rcases kc (p:=nmC) (s:=s) (a:=a) with h1 | ⟨c,h1,h2⟩
    ·simp! only[nlt (gn_ h1)]
    ·have hlt:=(gs_ h1).1
     simp only[nmC,Bool.or_eq_false_iff] at h2
     simp! only[ylt hlt,h1,g7,g8,xA,yo,h2.1,h2.2]
   ·intro i hi
    obtain⟨c,h1,h2⟩:=qg hi
    have hlt:=(gs_ h1).1
    refine⟨?_,.inl ?_⟩
    ·by_cases hu:upC c=true
     ·simp! only[ylt hlt,h1,g7,g8,xA,hu]
     ·have hu':upC c=false:=by simpa using hu
      have hd:dgC c=true:=by simpa [nmC,hu'] using h2
      simp! only[ylt hlt,h1,g7,g8,xA,yo,hu',hd]
    ·simp! only[]
     rfl
  ·have hu':upC c=false:=by simpa using hu
   have e:yv s a=a:=by unfold yv;rw[h0];simp [hu']
   rw[e]
   simp! only[yj,h0,Option.toList_some,Option.toList_none,b0,g8,xA,hu',Bool.not_false]
   rfl
noncomputable def blE:Nat->List Nat->Option Nat
 | d,[]=>some d
 | d,c::r=>if c=40 then blE (d+1) r else if c=41 then(match d with | 0=>none | d+1=>blE d r) else blE d r
noncomputable abbrev xJ(s:List Nat):O:=.lst ((qn 0 s).map .int)
theorem vm{a:Nat}{l:List V}(h:H[a]?=some (.lst l))(i:Nat):zC H (.ref a) (.int (i:Int))=l[i]?:=by
 show(match H[a]? with | some (.lst l)=>at? l (i:Int) | _=>none)=_
 rw[h]
 rfl
theorem ZJ{c:Nat}(h:s[i]?=some c):((qn 0 s).map V.int)[i]?=some (.int (yT (zM s i) c)):=by
 rw[List.getElem?_map,Wj h];rfl
theorem xm{l:List α}{c:α}{r:List α}(h:l.drop i=c::r):l[i]?=some c/\l.drop (i+1)=r:=by
 constructor
 ·have:=congrArg (λ x=>x[0]?) h
  simpa [List.getElem?_drop] using this
 ·have:=congrArg (List.drop 1) h
  simpa [List.drop_drop] using this
noncomputable def BalP(n:Nat)(s:List Nat)(H:Hp)(j:Nat)(B:S)(r:List Nat)(i d:Nat)(x:Option V):Prop:=
  (blE d r=none/\zh [3] (evS G_ (Ev n) 2000 B) (zb i r.length) [some (.str s),some (.ref j),some (.int d),x] H=.ret (.bool false) H) \/
  ∃ e x',blE d r=some e/\zh [3] (evS G_ (Ev n) 2000 B) (zb i r.length) [some (.str s),some (.ref j),some (.int d),x] H=.next [some (.str s),some (.ref j),some (.int e),x'] H
theorem Ks{n:Nat}(hj:H[j]?=some (xJ s))(B:S)(hB:B=vD):∀ (r:List Nat) (i d:Nat) (x:Option V),s.drop i=r->zM s i=d->BalP n s H j B r i d x:=by
 subst hB
 intro r
 induction r with
 | nil=>intro i d x h1 h2;exact .inr ⟨d,x,rfl,rfl⟩
 | cons c r ih=>
  intro i d x h1 h2
  obtain⟨hc,hr⟩:=xm h1
  have hl:=ZJ hc
  rw[h2] at hl
  have hs:=wE hc
  rw[h2] at hs
  have hix:∀ (z:V),((qn 0 s).map V.int)[i]?=some z->zC H (.ref j) (.int (i:Int))=some z:=λ z hz=>by rw[vm hj];exact hz
  have hcast:((i:Int)+1)=((i+1:Nat):Int):=rfl
  have stp:∀ d':Nat,zM s (i+1)=d'->evS G_ (Ev n) 2000 vD [some (.str s),some (.ref j),some (.int d),some (.int (i:Int))] H=.next [some (.str s),some (.ref j),some (.int d'),some (.int (i:Int))] H->
    blE d (c::r)=blE d' r->BalP n s H j vD (c::r) i d x:=λ d' e1 e2 e3=>by
   have:=ih (i+1) d' (some (.int (i:Int))) hr e1
   unfold BalP at this ⊢
   rw[e3]
   simp only[List.length_cons,zb,hcast,z2A,List.set_cons_succ,List.set_cons_zero,e2,turn_next]
   exact this
  by_cases h40:c=40
  ·subst h40
   have e2:yT (d:Int) 40=d:=by simp [yT]
   have e1:xz (d:Int) 40=((d+1:Nat):Int):=by simp [xz]
   rw[e2] at hl
   have hd0:(((d:Nat):Int)==-2)=false:=rfl
   have hd1:(0:Int)<=(d:Int):=Int.natCast_nonneg d
   have b1:([40]==[41])=false:=rfl
   refine stp (d+1) (hs.trans e1) ?_ (by simp [blE])
   unfold vD
   simp! only[hix _ hl,hc,hd0,decide_eq_true hd1,beq_self_eq_true,b1]
   rfl
  ·have b0:([c]==[40])=false:=by simpa using h40
   by_cases h41:c=41
   ·subst h41
    cases d with
    | zero=>
     have e2:yT ((0:Nat):Int) 41 = -2:=by simp [yT]
     rw[e2] at hl
     refine .inl ⟨by simp [blE],?_⟩
     refine(congrArg (λ o=>Out.turn o _) (?_:evS G_ (Ev n) 2000 vD [some (.str s),some (.ref j),some (.int ((0:Nat):Int)),some (.int (i:Int))] H=.ret (.bool false) H)).trans rfl
     unfold vD
     simp! only[hix _ hl,beq_self_eq_true]
    | succ d=>
     have e2:yT ((d+1:Nat):Int) 41=d:=by simp [yT]
     have e1:xz ((d+1:Nat):Int) 41=d:=by simp [xz]
     rw[e2] at hl
     have hd0:(((d:Nat):Int)==-2)=false:=rfl
     have hd1:(0:Int)<=(d:Int):=Int.natCast_nonneg d
     refine stp d (hs.trans e1) ?_ (by simp [blE])
     have e4:((d+1:Nat):Int)-1=d:=Int.add_sub_cancel (d:Int) 1
     unfold vD
     simp! only[hix _ hl,hc,hd0,decide_eq_true hd1,beq_self_eq_true,b0,e4]
   ·have b1:([c]==[41])=false:=by simpa using h41
    have e2:yT (d:Int) c=d:=by simp [yT,h40,h41]
    have e1:xz (d:Int) c=d:=by simp [xz,h40,h41]
    rw[e2] at hl
    have hd0:(((d:Nat):Int)==-2)=false:=rfl
    have hd1:(0:Int)<=(d:Int):=Int.natCast_nonneg d
    refine stp d (hs.trans e1) ?_ (by simp [blE,h40,h41])
    unfold vD
    simp! only[hix _ hl,hc,hd0,decide_eq_true hd1,b0,b1]
noncomputable def yd(s:List Nat):Bool:=blE 0 s==some 0
theorem j7{n:Nat}(hn:s.length<1000)(hj:H[j]?=some (xJ s)):Ev (n+1) 9 [.str s,.ref j] H=.ok (.bool (yd s)) H:=by
 rw[za (k:=9) (b:=xB) (L:=[some (.str s),some (.ref j),none,none]) rfl rfl rfl rfl rfl rfl]
 unfold xB
 simp! -implicitDefEqProofs only[Zl]
 rw[XU hn]
 have h:=Ks (n:=n) hj _ rfl s 0 0 none rfl rfl
 rcases h with ⟨h1,h2⟩ | ⟨e,x',h1,h2⟩
 ·have h2':zh _ _ (zb 0 s.length) [some (.str s),some (.ref j),some (.int 0),none] H=_:=h2
  rw[h2']
  simp! -implicitDefEqProofs only[]
  unfold yd
  rw[h1]
  exact y9 rfl rfl
 ·have h2':zh _ _ (zb 0 s.length) [some (.str s),some (.ref j),some (.int 0),none] H=_:=h2
  rw[h2']
  simp! -implicitDefEqProofs only[]
  unfold yd
  rw[h1]
  refine(y9 rfl rfl).trans ?_
  congr 2
  exact ieq e 0
theorem Yh{n:Nat}(hn:s.length<1000)(hj:H[j]?=some (xJ s))(h61:∀ c∈s,c≠61):Ev (n+1) 10 [.str s,.ref j] H=.ok (.tup [.int (-1),.bool false]) H:=by
 rw[za (k:=10) (b:=wn) (L:=[some (.str s),some (.ref j),none,none]) rfl rfl rfl rfl rfl rfl]
 unfold wn
 simp! -implicitDefEqProofs only[Zl]
 rw[XU hn]
 obtain⟨L',H',⟨x,rfl,rfl⟩,h2⟩:∃ L' H',(∃ x,L'=[some (.str s),some (.ref j),some (.int (-1)),x]/\H'=H)/\zh [3] (evS G_ (Ev n) 2000 j5) (zb ((0:Nat):Int) s.length) [some (.str s),some (.ref j),some (.int (-1)),none] H=.next L' H':=by
  refine We (λ i L H'=>∃ x,L=[some (.str s),some (.ref j),some (.int (-1)),x]/\H'=H) _ 0 ⟨none,rfl,rfl⟩ ?_
  intro i v hv L H' ⟨x,hL,hH⟩
  subst hL hH
  obtain⟨rfl,hi⟩:=JG hv
  rw[Nat.zero_add]
  refine⟨[some (.str s),some (.ref j),some (.int (-1)),some (.int (i:Int))],rfl,[some (.str s),some (.ref j),some (.int (-1)),some (.int (i:Int))],H',⟨some (.int (i:Int)),rfl,rfl⟩,.inl ?_⟩
  have hc:s[i]?=some s[i]:=List.getElem?_eq_getElem hi
  have hb:([s[i]]==[61])=false:=by simpa using h61 _ (List.getElem_mem hi)
  have hl:=ZJ hc
  have hix:zC H' (.ref j) (.int (i:Int))=some (.int (yT (zM s i) s[i])):=by rw[vm hj];exact hl
  have hm:decide ((0:Int)<=-1)=false:=rfl
  unfold j5
  cases h0:(yT (zM s i) s[i]==0) with
  | false=>simp! only[hix,h0,hc]
  | true=>
   cases h44:([s[i]]==[44]) with
   | false=>simp! only[hix,h0,hc,hb,h44]
   | true=>simp! only[hix,h0,hc,hb,h44,hm]
 have h2':zh _ _ (zb 0 s.length) [some (.str s),some (.ref j),some (.int (-1)),none] H'=_:=h2
 rw[h2']
 simp! -implicitDefEqProofs only[]
 exact y9 rfl rfl
theorem zp(s:List Nat)(k:Nat):s.take (adj s.length (k:Int))=s.take k:=by
 rw[wT,←List.take_eq_take_min]
theorem zL(s:List Nat)(k:Nat):s.drop (adj s.length (k:Int))=s.drop k:=by
 rw[wT]
 by_cases h:k<=s.length
 ·rw[Nat.min_eq_left h]
 ·rw[Nat.min_eq_right (Nat.le_of_not_le h),List.drop_length,List.drop_of_length_le (Nat.le_of_not_le h)]
theorem YI(s:List Nat)(a k:Nat):(s.take (adj s.length ((a:Int)+(k:Int)))).drop (adj s.length (a:Int))=(s.drop a).take k:=by
 show(s.take (adj s.length ((a+k:Nat):Int))).drop _=_
 rw[zp]
 by_cases h:a<=s.length
 ·rw[Kf h,List.drop_take,Nat.add_sub_cancel_left]
 ·rw[wT,Nat.min_eq_right (Nat.le_of_not_le h),List.drop_of_length_le (l:=s) (Nat.le_of_not_le h),List.take_nil,List.drop_of_length_le (List.length_take_le' _ _)]
noncomputable def zs(s:List Nat)(a:Nat):Nat:=a+1+zo (λ c=>c !=41) (s.drop (a+1))
noncomputable def okC(s:List Nat)(a:Nat):Prop:=zM s a=0/\s[a]?=some 40/\s[zs s a]?=some 41/\∀ p,a<p->p<zs s a->s[p]?≠some 40
theorem WZ{a:Nat}(h:okC s a):∀ k,a+1+k<=zs s a->zM s (a+1+k)=1:=by
 intro k
 induction k with
 | zero=>
  intro _
  rw[Nat.add_zero,wE h.2.1,h.1]
  rfl
 | succ k ih=>
  intro hk
  have hlt:k<zo (λ c=>c !=41) (s.drop (a+1)):=by unfold zs at hk;omega
  obtain⟨c,h1,h2⟩:=qg hlt
  have h3:=h.2.2.2 (a+1+k) (by omega) (by omega)
  rw[h1] at h3
  have h40:c≠40:=λ q=>h3 (by rw[q])
  have h41:c≠41:=by simpa using h2
  have:a+1+(k+1)=(a+1+k)+1:=by omega
  rw[this,wE h1,ih (by omega)]
  simp [xz,h40,h41]
theorem cl1{a p r:Nat}(hp:a<p)(he:p+(d+1)=a+1+r):p-(a+1)<r/\a+1+(p-(a+1))=p:=
 ⟨Nat.sub_lt_left_of_lt_add hp (he ▸ Nat.lt_add_of_pos_right (Nat.succ_pos d)),Nat.add_sub_cancel' hp⟩
theorem XT{n:Nat}{a:Nat}(hn:s.length<1000)(h39:∀ c∈s,c≠39)(hC:okC s a):Ev (n+2) 6 [.str s,.int a] H=.ok (.int ((zs s a:Nat):Int)) H:=by
 rw[zv (k:=6) (b:=qj) (L:=[some (.str s),some (.int a),none,none]) rfl rfl rfl rfl rfl rfl rfl]
 unfold qj
 have hd:Ev (n+1) 5 [.str s] []=.ok (.ref 0) [xJ s]:=jW hn h39
 have hg6:G_ 6=some (.fn 5):=rfl
 have ha:=(gs_ hC.2.1).1
 have hcast:((a:Int)+1)=((a+1:Nat):Int):=rfl
 have hj:([xJ s]:Hp)[0]?=some (xJ s):=rfl
 have hla:zC [xJ s] (.ref 0) (.int (a:Int))=some (.int 0):=by
  rw[vm hj,ZJ hC.2.1,hC.1];rfl
 have hce:=(gs_ hC.2.2.1).1
 have hclose:zM s (zs s a)=1:=WZ hC _ (Nat.le_refl _)
 have loop:∀ d p x,a<p->p+d=zs s a->zh [3] (evS G_ (Ev (n+1)) 2000 yU) (zb ((p:Nat):Int) (s.length-p)) [some (.str s),some (.int a),some (.ref 0),x] [xJ s]=.ret (.int ((zs s a:Nat):Int)) [xJ s]:=by
  intro d
  induction d with
  | zero=>
   intro p x hp he
   obtain rfl:p=zs s a:=he
   have h1:=hC.2.2.1
   have hle:zC [xJ s] (.ref 0) (.int ((zs s a:Nat):Int))=some (.int 0):=by
    rw[vm hj,ZJ h1,hclose];rfl
   rw[(Nat.sub_add_cancel (Nat.sub_pos_of_lt hce)).symm]
   refine(congrArg (λ o=>Out.turn o _) (?_:evS G_ (Ev (n+1)) 2000 yU [some (.str s),some (.int a),some (.ref 0),some (.int ((zs s a:Nat):Int))] [xJ s]=.ret (.int ((zs s a:Nat):Int)) [xJ s])).trans rfl
   unfold yU
   simp! only[h1,beq_self_eq_true,hle,hla]
  | succ d ih=>
   intro p x hp he
   obtain⟨c,h1,h2⟩:=qg (cl1 hp he).1
   rw[(cl1 hp he).2] at h1
   have hb:([c]==[41])=false:=by simpa using h2
   rw[(Nat.sub_add_cancel (Nat.sub_pos_of_lt (gs_ h1).1)).symm]
   refine(congrArg (λ o=>Out.turn o _) (?_:evS G_ (Ev (n+1)) 2000 yU [some (.str s),some (.int a),some (.ref 0),some (.int ((p:Nat):Int))] [xJ s]=.next [some (.str s),some (.int a),some (.ref 0),some (.int ((p:Nat):Int))] [xJ s])).trans (ih (p+1) (some (.int ((p:Nat):Int))) (Nat.lt_succ_of_lt hp) ((Nat.add_right_comm p 1 d).trans he))
   unfold yU
   simp! only[h1,hb]
 simp! -implicitDefEqProofs only[hg6,hd,Zl,hcast]
 rw[z2e hn (Nat.lt_of_le_of_lt ha hn),loop _ (a+1) none (Nat.lt_succ_self a) rfl]
 simp! only[]
 rfl
noncomputable def FUN:List Nat:=@"FUNCTION"
noncomputable def TYP:List (List Nat×List Nat):=[(@"INTEGER",@"integer"),(@"REAL",@"real"),(@"DOUBLEPRECISION",@"doubleprecision"),(@"COMPLEX",@"complex"),(@"LOGICAL",@"logical"),(@"CHARACTER",@"character")]
noncomputable def CHW:List Nat:=@"character"
noncomputable def vw(p:List Nat×List Nat):V:=.tup [.str p.1,.str p.2]
theorem g9:G_ 9=some (.clst (TYP.map vw)):=rfl
noncomputable def zA(s:List Nat)(k:Nat):Nat:=k+1+zo dgC (s.drop (k+1))
noncomputable def atT(s:List Nat)(k:Nat)(w:List Nat):Nat:=if w==CHW&&(s[k]?.toList==[42]) then(if s[zA s k]?.toList==[40] then zs s (zA s k)+1 else zA s k) else k
noncomputable def yg:List Nat:=@"function"
noncomputable def qY(s:List Nat)(k:Nat)(w:List Nat):List Nat:=if (s.drop (atT s k w)).take 8==FUN then(if decide (atT s k w+8<yv s (atT s k w+8))&&s[yv s (atT s k w+8)]?.toList==[40] then yg else w) else w
noncomputable def Zu(s:List Nat):List Nat:=match TYP.find? (λ p=>s.take p.1.length==p.1) with
 | some p=>qY s p.1.length p.2
 | none=>[]
theorem k9{toV:α->V}{b:Lc->Hp->Out}{inv:Lc->Prop}{cond:α->Bool}{o:α->Out}(ho:∀ v f,(o v).turn f=o v)(items:List α):∀ {L:Lc},inv L->(∀ v∈items,∀ L,inv L->∃ L1,zS is (toV v) L=some L1/\(cond v=true->b L1 H=o v)/\(cond v=false->∃ L',inv L'/\b L1 H=.next L' H))->
  (∃ v,items.find? cond=some v/\zh is b (items.map toV) L H=o v)\/(items.find? cond=none/\∃ L',inv L'/\zh is b (items.map toV) L H=.next L' H):=by
 induction items with
 | nil=>exact λ {L} h _=>.inr ⟨rfl,L,h,rfl⟩
 | cons v r ih=>
  intro L h hs
  obtain⟨L1,h1,h2,h3⟩:=hs v (.head _) L h
  rw[List.find?_cons,List.map_cons,ZD h1]
  cases hc:cond v with
  | true=>exact .inl ⟨v,rfl,(congrArg (λ o=>Out.turn o _) (h2 hc)).trans (ho _ _)⟩
  | false=>
   obtain⟨L',h4,h5⟩:=h3 hc
   rw[h5]
   exact ih h4 λ w hw=>hs w (.tail _ hw)
theorem X8:Kx=.cons (.if_ (.cmp .eq (.slc (.loc 0) (.cst .none) (.bi .len (.cons (.loc 1) .nil))) (.loc 1)) (.cons (.asg 3 (.bi .len (.cons (.loc 1) .nil))) (.cons Xb WD)) .nil) .nil:=rfl
theorem J9{n:Nat}{x w:List Nat}{a:Nat}{z:Option V}(hn:s.length<900):evS G_ (Ev (n+2)) 2000 WD [some (.str s),some (.str x),some (.str w),some (.int (a:Int)),z] []=.ret (.str (if (s.drop a).take 8==FUN then(if decide (a+8<yv s (a+8))&&s[yv s (a+8)]?.toList==[40] then yg else w) else w)) []:=by
 have h8:=YI s a 8
 have h8':(s.take (adj s.length ((a:Int)+8))).drop (adj s.length (a:Int))=(s.drop a).take 8:=h8
 unfold WD
 cases hf:((s.drop a).take 8==FUN) with
 | false=>
  have hf':((s.drop a).take 8==@"FUNCTION")=false:=hf
  simp! only[h8',hf']
  rfl
 | true=>
  have hf':((s.drop a).take 8==@"FUNCTION")=true:=hf
  have hne:Ev (n+2) 7 [.str s,.int ((a:Int)+8)] []=.ok (.int ((yv s (a+8):Nat):Int)) []:=YW (a:=a+8) (Nat.lt_trans hn (by decide))
  cases hd:decide (a+8<yv s (a+8)) with
  | false=>
   have hd':decide (((a:Int)+8)<((yv s (a+8):Nat):Int))=false:=(ilt (a+8) _).trans hd
   simp! only[h8',hf',g10,hne,hd']
   rfl
  | true=>
   have hd':decide (((a:Int)+8)<((yv s (a+8):Nat):Int))=true:=(ilt (a+8) _).trans hd
   cases hp:(s[yv s (a+8)]?.toList==[40]) with
   | false=>
    simp! only[h8',hf',g10,hne,hd',yj,hp]
    rfl
   | true=>
    simp! only[h8',hf',g10,hne,hd',yj,hp]
    rfl
theorem z0K{n:Nat}{x w:List Nat}{z:Option V}(hn:s.length<900)(h39:∀ c∈s,c≠39)(hC:(w==CHW)=true->s[k]?.toList=[42]->s[zA s k]?.toList=[40]->okC s (zA s k)):evS G_ (Ev (n+2)) 2000 Xb [some (.str s),some (.str x),some (.str w),some (.int (k:Int)),z] []=.next [some (.str s),some (.str x),some (.str w),some (.int ((atT s k w:Nat):Int)),z] []:=by
 have hde:Ev (n+2) 8 [.str s,.int ((k:Int)+1)] []=.ok (.int ((zA s k:Nat):Int)) []:=jq (a:=k+1) (Nat.lt_trans hn (by decide))
 unfold Xb atT
 cases hw:(w==CHW) with
 | false=>
  have hw':(w==@"character")=false:=hw
  simp! only[hw']
  rfl
 | true=>
  have hw':(w==@"character")=true:=hw
  cases hs:(s[k]?.toList==[42]) with
  | false=>
   simp! only[hw',yj,hs]
   rfl
  | true=>
   cases hp:(s[zA s k]?.toList==[40]) with
   | false=>
    simp! only[hw',yj,hs,g12,hde,hp]
    rfl
   | true=>
    have hc:Ev (n+2) 6 [.str s,.int ((zA s k:Nat):Int)] []=.ok (.int ((zs s (zA s k):Nat):Int)) []:=XT (Nat.lt_trans hn (by decide)) h39 (hC hw (by simpa using hs) (by simpa using hp))
    simp! only[hw',yj,hs,g12,hde,hp,g11,hc]
    rfl
noncomputable def CHN:List Nat:=@"CHARACTER"
theorem z0y:∀ p∈TYP,(p.2==CHW)=true->p.1=CHN:=by decide
theorem qV{n:Nat}(hn:s.length<900)(h39:∀ c∈s,c≠39)(hC:s.take 9=CHN->s[9]?.toList=[42]->s[zA s 9]?.toList=[40]->okC s (zA s 9)):Ev (n+3) 11 [.str s] H=.ok (.str (Zu s)) H:=by
 rw[zv (k:=11) (b:=yZ) (L:=[some (.str s),none,none,none,none]) rfl rfl rfl rfl rfl rfl rfl]
 have h:=k9 (toV:=vw) (is:=[1,2]) (b:=evS G_ (Ev (n+2)) 2000 Kx) (H:=[]) (inv:=λ L=>∃ x y z w,L=[some (.str s),x,y,z,w]) (cond:=λ p:List Nat×List Nat=>s.take p.1.length==p.1) (o:=λ p=>.ret (.str (qY s p.1.length p.2)) []) (λ v f=>rfl) TYP (L:=[some (.str s),none,none,none,none]) ⟨none,none,none,none,rfl⟩ (by
  intro p hp L ⟨x,y,z,w,hL⟩
  subst hL
  refine⟨[some (.str s),some (.str p.1),some (.str p.2),z,w],rfl,λ hc=>?_,λ hc=>⟨[some (.str s),some (.str p.1),some (.str p.2),z,w],⟨some (.str p.1),some (.str p.2),z,w,rfl⟩,?_⟩⟩
  ·rw[X8]
   have hst:∀ z,evS G_ (Ev (n+2)) 2000 Xb [some (.str s),some (.str p.1),some (.str p.2),some (.int (p.1.length:Int)),z] []=_:=λ z=>z0K (k:=p.1.length) hn h39 (λ hw=>by
    have e:=z0y p hp hw
    rw[e] at hc ⊢
    exact hC (be_ hc))
   simp! only[zp,hc,hst,J9 hn]
   rfl
  ·rw[X8]
   simp! only[zp,hc])
 unfold yZ
 simp! only[]
 rw[XQ (l:=TYP.map vw) (H':=[]) (by simp! only[g9])]
 rcases h with ⟨p,h1,h2⟩ | ⟨h1,L',⟨x,y,z,w,rfl⟩,h2⟩
 ·rw[h2]
  unfold Zu
  rw[h1]
  simp! only[]
  rfl
 ·rw[h2]
  unfold Zu
  rw[h1]
  simp! only[]
  rfl
noncomputable def WHO:List (List Nat×List Nat):=[(@"ELSE",@"else"),(@"ENDIF",@"endif"),(@"END",@"end"),(@"CONTINUE",@"continue")]
noncomputable def BEG:List (List Nat×List Nat):=[(@"FORMAT(",@"format"),(@"CALL",@"call"),(@"RETURN",@"return"),(@"STOP",@"stop"),(@"PAUSE",@"pause"),(@"READ",@"read"),(@"WRITE(",@"write"),(@"PRINT",@"print"),(@"OPEN(",@"open"),(@"CLOSE(",@"close"),(@"INQUIRE(",@"inquire"),(@"BACKSPACE",@"backspace"),(@"REWIND",@"rewind"),(@"ENDFILE",@"endfile"),(@"IMPLICIT",@"implicit"),(@"PARAMETER(",@"parameter"),(@"DIMENSION",@"dimension"),(@"COMMON",@"common"),(@"EQUIVALENCE(",@"equivalence"),(@"EXTERNAL",@"external"),(@"INTRINSIC",@"intrinsic"),(@"SAVE",@"save"),(@"DATA",@"data"),(@"PROGRAM",@"program"),(@"SUBROUTINE",@"subroutine"),(@"FUNCTION",@"function"),(@"BLOCKDATA",@"blockdata"),(@"ENTRY",@"entry")]
theorem g15:G_ 15=some (.clst (WHO.map vw)):=rfl
theorem g14:G_ 14=some (.clst (BEG.map vw)):=rfl
theorem g13:G_ 13=some (.fn 11):=rfl
theorem g16:G_ 16=some (.fn 12):=rfl
theorem g17:G_ 17=some (.fn 10):=rfl
theorem g18:G_ 18=some (.fn 9):=rfl
theorem g6:G_ 6=some (.fn 5):=rfl
noncomputable def xj(s:List Nat):List Nat:=match WHO.find? (λ p=>s==p.1) with
 | some p=>p.2
 | none=>match BEG.find? (λ p=>s.take p.1.length==p.1) with
  | some p=>p.2
  | none=>Zu s
noncomputable def ZU(s:List Nat):Prop:=(s.take 3==@"IF(")=false/\(s.take 7==@"ELSEIF(")=false/\(s.take 4==@"GOTO")=false/\(s.take 6==@"ASSIGN")=false
noncomputable def Yj(s:List Nat):Prop:=s.take 9=CHN->s[9]?.toList=[42]->s[zA s 9]?.toList=[40]->okC s (zA s 9)
theorem qi{n:Nat}(hn:s.length<900)(h39:∀ c∈s,c≠39)(hP:ZU s)(hC:Yj s):Ev (n+4) 12 [.str s] H=.ok (.str (xj s)) H:=by
 rw[zv (k:=12) (b:=yK) (L:=[some (.str s),none,none]) rfl rfl rfl rfl rfl rfl rfl]
 have h:=k9 (toV:=vw) (is:=[1,2]) (b:=evS G_ (Ev (n+3)) 2000 Zo) (H:=[]) (inv:=λ L=>∃ x y,L=[some (.str s),x,y]) (cond:=λ p:List Nat×List Nat=>s==p.1) (o:=λ p=>.ret (.str p.2) []) (λ v f=>rfl) WHO (L:=[some (.str s),none,none]) ⟨none,none,rfl⟩ (by
  intro p hp L ⟨x,y,hL⟩
  subst hL
  refine⟨[some (.str s),some (.str p.1),some (.str p.2)],rfl,λ hc=>?_,λ hc=>⟨[some (.str s),some (.str p.1),some (.str p.2)],⟨some (.str p.1),some (.str p.2),rfl⟩,?_⟩⟩
  ·unfold Zo
   simp! only[hc]
  ·unfold Zo
   simp! only[hc])
 obtain⟨p1,p2,p3,p4⟩:=hP
 have t3:=zp s 3
 have t7:=zp s 7
 have t4:=zp s 4
 have t6:=zp s 6
 have t3':s.take (adj s.length 3)=s.take 3:=t3
 have t7':s.take (adj s.length 7)=s.take 7:=t7
 have t4':s.take (adj s.length 4)=s.take 4:=t4
 have t6':s.take (adj s.length 6)=s.take 6:=t6
 unfold yK
 simp! only[]
 rw[XQ (l:=WHO.map vw) (H':=[]) (by simp! only[g15])]
 rcases h with ⟨p,h1,h2⟩ | ⟨h1,L',⟨x,y,rfl⟩,h2⟩
 ·rw[h2]
  unfold xj
  rw[h1]
  simp! only[]
  rfl
 ·rw[h2]
  unfold xj
  rw[h1]
  simp! only[t3',t7',t4',t6',p1,p2,p3,p4]
  rw[XQ (l:=BEG.map vw) (H':=[]) (by simp! only[g14])]
  have h:=k9 (toV:=vw) (is:=[1,2]) (b:=evS G_ (Ev (n+3)) 2000 ZP) (H:=[]) (inv:=λ L=>∃ x y,L=[some (.str s),x,y]) (cond:=λ p:List Nat×List Nat=>s.take p.1.length==p.1) (o:=λ p=>.ret (.str p.2) []) (λ v f=>rfl) BEG (L:=[some (.str s),x,y]) ⟨x,y,rfl⟩ (by
   intro p hp L ⟨x,y,hL⟩
   subst hL
   refine⟨[some (.str s),some (.str p.1),some (.str p.2)],rfl,λ hc=>?_,λ hc=>⟨[some (.str s),some (.str p.1),some (.str p.2)],⟨some (.str p.1),some (.str p.2),rfl⟩,?_⟩⟩
   ·unfold ZP
    simp! only[zp,hc]
   ·unfold ZP
    simp! only[zp,hc])
  rcases h with ⟨p,h1,h2⟩ | ⟨h1,L',⟨x,y,rfl⟩,h2⟩
  ·rw[h2,h1]
   simp! only[]
   rfl
  ·rw[h2,h1]
   have hw:Ev (n+3) 11 [.str s] []=.ok (.str (Zu s)) []:=qV hn h39 hC
   simp! only[g13,hw]
   rfl
noncomputable def xM(s:List Nat):List Nat:=if yd s then xj s else[]
theorem qI{n:Nat}(hn:s.length<900)(h39:∀ c∈s,c≠39/\c≠61)(hP:ZU s)(hC:yd s=true->Yj s):Ev (n+5) 13 [.str s] H=.ok (.str (xM s)) H:=by
 rw[zv (k:=13) (b:=vi) (L:=[some (.str s),none,none,none]) rfl rfl rfl rfl rfl rfl rfl]
 have hd:Ev (n+4) 5 [.str s] []=.ok (.ref 0) [xJ s]:=jW (Nat.lt_trans hn (by decide)) (λ c hc=>(h39 c hc).1)
 have hb:Ev (n+4) 9 [.str s,.ref 0] [xJ s]=.ok (.bool (yd s)) [xJ s]:=j7 (Nat.lt_trans hn (by decide)) rfl
 have he:Ev (n+4) 10 [.str s,.ref 0] [xJ s]=.ok (.tup [.int (-1),.bool false]) [xJ s]:=Yh (Nat.lt_trans hn (by decide)) rfl (λ c hc=>(h39 c hc).2)
 have hw:=λ hb=>qi (n:=n) (H:=[xJ s]) hn (λ c hc=>(h39 c hc).1) hP (hC hb)
 have hm:decide ((-1:Int)<0)=true:=rfl
 unfold vi xM
 cases hbb:yd s with
 | false=>
  simp! -implicitDefEqProofs only[g6,hd,g18,hb,hbb,Bool.not_false]
  rfl
 | true=>
  simp! -implicitDefEqProofs only[g6,hd,g18,hb,hbb,Bool.not_true,g17,he,hm,g16,hw hbb]
  rfl
noncomputable def tkC(c:Nat):Bool:=(upC c||dgC c||c==40||c==41||c==42||c==44)&&c !=69&&c !=68
abbrev Tk:=Nat×List Nat
noncomputable def ku(k:Nat):List Nat:=match k with | 0=>@"NAME" | 1=>@"INT" | _=>@"OP"
noncomputable def vc(t:Tk)(a:Nat):V:=.tup [.str (ku t.1),(if t.1=1 then .int ((NumText.digitsVal t.2:Nat):Int) else .str t.2),.int (a:Int)]
noncomputable def yM:List Nat->Option (Tk×Nat)
 | []=>none
 | c::r=>if upC c then(if 6<((c::r).takeWhile nmC).length then none else some ((0,(c::r).takeWhile nmC),((c::r).takeWhile nmC).length))
  else if dgC c then some ((1,(c::r).takeWhile dgC),((c::r).takeWhile dgC).length)
  else if c==42&&r.head?==some 42 then some ((2,@"**"),2) else some ((2,[c]),1)
theorem z2J(c:Nat):((@"ABCDEFGHIJKLMNOPQRSTUVWXYZ":List Nat)++@"0123456789").contains c=nmC c:=by
 rw[Bool.eq_iff_iff,List.contains_iff_mem,List.mem_append,←List.contains_iff_mem,←List.contains_iff_mem,xA,yo,nmC,Bool.or_eq_true]
theorem vA(p:Nat->Bool)(l:List Nat):l.take (zo p l)=l.takeWhile p:=by
 have:=(List.takeWhile_prefix p (l:=l))
 exact(List.prefix_iff_eq_take.mp this).symm
theorem j9(s:List Nat)(a k:Nat):(s.take (adj s.length ((a+k:Nat):Int))).drop (adj s.length (a:Int))=(s.drop a).take k:=by
 rw[←YI]
 congr 2
theorem g40:G_ 40=some (.fn 30):=rfl
theorem g42:G_ 42=some (.fn 31):=rfl
theorem g39:G_ 39=some (.int 1000):=rfl
theorem g43:G_ 43=some (.int 6):=rfl
theorem g45:G_ 45=some (.str @"+-*/(),=:"):=rfl
theorem g46:G_ 46=some (.fn 32):=rfl
theorem g47:G_ 47=some (.fn 33):=rfl
theorem g48:G_ 48=some (.fn 34):=rfl
theorem Yw{n:Nat}{a:Nat}(h:∀ c,s[a]?=some c->c≠69/\c≠68):Ev (n+1) 31 [.str s,.int a] H=.ok (.tup [.str [],.int 0,.int a]) H:=by
 rw[zv (k:=31) (b:=v8) (L:=[some (.str s),some (.int a),none,none,none]) rfl rfl rfl rfl rfl rfl rfl]
 unfold v8
 cases hx:s[a]? with
 | none=>
  simp! only[decide_eq_true (Int.ofNat_le.mpr (gn_ hx))]
  rfl
 | some c=>
  have hlt:=(gs_ hx).1
  have hle:¬((s.length:Nat):Int)<=(a:Int):=Int.not_le.mpr (Int.ofNat_lt.mpr hlt)
  have hc:(@"ED":List Nat).contains c=false:=by
   have:=h c hx
   simp [this.1,this.2]
  simp! only[decide_eq_false hle,hx,hc,Bool.not_false]
  rfl
theorem Y1{n:Nat}{a c:Nat}(hn:s.length<600)(hs:∀ c∈s,tkC c=true)(ha:s[a]?=some c)(hd:dgC c=true):Ev (n+2) 32 [.str s,.int a] H=.ok (.tup [vc (1,(s.drop a).takeWhile dgC) a,.int ((a+((s.drop a).takeWhile dgC).length:Nat):Int)]) H:=by
 rw[zv (k:=32) (b:=wr) (L:=[some (.str s),some (.int a),none,none,none,none,none,none,none,none]) rfl rfl rfl rfl rfl rfl rfl]
 have hp:(λ c=>(@"0123456789":List Nat).contains c)=dgC:=funext yo
 have hr:Ev (n+1) 30 [.str s,.int a,.str @"0123456789"] []=.ok (.int ((a+zo dgC (s.drop a):Nat):Int)) []:=by rw[Z2 (Nat.lt_trans hn (by decide)),hp]
 have hle:=jj (p:=dgC) (s.drop a)
 rw[List.length_drop] at hle
 have halt:=(gs_ ha).1
 have hend:∀ c,s[a+zo dgC (s.drop a)]?=some c->c≠69/\c≠68/\c≠46:=λ c hc=>by
  have:=hs c (List.mem_of_getElem? hc)
  refine⟨?_,?_,?_⟩<;>(rintro rfl;exact absurd this (by decide))
 have hpw:Ev (n+1) 31 [.str s,.int ((a+zo dgC (s.drop a):Nat):Int)] []=.ok (.tup [.str [],.int 0,.int ((a+zo dgC (s.drop a):Nat):Int)]) []:=Yw λ c hc=>⟨(hend c hc).1,(hend c hc).2.1⟩
 have hsl:((s.drop a).takeWhile dgC).length<=600:=Nat.le_of_lt (ln1 hle hn)
 have hbig:¬((1000:Int)<((a+zo dgC (s.drop a):Nat):Int)-(a:Int)):=by rw[QJ];exact Int.not_lt.mpr (Int.ofNat_le.mpr (Nat.le_trans hsl (by decide)))
 have hdig:NumText.AllDigits ((s.drop a).takeWhile dgC):=λ c hc=>by
  have:=Qk hc
  unfold dgC at this
  simpa using this
 have hne:(s.drop a).takeWhile dgC≠[]:=by
  rw[List.drop_eq_getElem_cons halt,List.takeWhile_cons]
  have:s[a]=c:=(gs_ ha).2
  rw[this,hd]
  simp
 have hint:intText? (z0 ((s.drop a).takeWhile dgC))=some ((NumText.digitsVal ((s.drop a).takeWhile dgC):Nat):Int):=by
  have:=intText_digits (x:=z0 ((s.drop a).takeWhile dgC)) (by simpa [z0] using hdig) (by simpa [z0] using hne) (by show((s.drop a).takeWhile dgC).toArray.size<=4300;rw[List.size_toArray];exact Nat.le_trans hsl (by decide))
  simpa [z0] using this
 have e0:([]==([]:List Nat))=true:=rfl
 unfold wr
 by_cases hlt:(((a+zo dgC (s.drop a):Nat):Nat):Int)<(s.length:Int)
 ·obtain⟨c',hc'⟩:∃ c',s[a+zo dgC (s.drop a)]?=some c':=⟨_,List.getElem?_eq_getElem (Int.ofNat_lt.mp hlt)⟩
  have hc46:([c']==[46])=false:=by simpa using (hend c' hc').2.2
  simp! only[g41,g40,hr,j9,vA,decide_eq_true hlt,hc',hc46,g42,hpw,g39,decide_eq_false hbig,Bool.not_false,e0,decide_eq_true hsl,hint]
  rfl
 ·simp! only[g41,g40,hr,j9,vA,decide_eq_false hlt,g42,hpw,g39,decide_eq_false hbig,Bool.not_false,e0,decide_eq_true hsl,hint]
  rfl
noncomputable def msgN:List Nat:=@"a name has more than six signs"
noncomputable def z0U(a:Nat):O:=.att [(txt,.str msgN),(@"at",.int (a:Int))]
theorem Xq{n:Nat}{a:Nat}(hn:s.length<600):Ev (n+2) 33 [.str s,.int a] H=if 6<((s.drop a).takeWhile nmC).length then .exc 2 H.length (H++[z0U a]) else .ok (.tup [vc (0,(s.drop a).takeWhile nmC) a,.int ((a+((s.drop a).takeWhile nmC).length:Nat):Int)]) H:=by
 rw[zv (k:=33) (b:=qt) (L:=[some (.str s),some (.int a),none]) rfl rfl rfl rfl rfl rfl rfl]
 have hp:(λ c=>((@"ABCDEFGHIJKLMNOPQRSTUVWXYZ":List Nat)++@"0123456789").contains c)=nmC:=funext z2J
 have hr:Ev (n+1) 30 [.str s,.int a,.str (@"ABCDEFGHIJKLMNOPQRSTUVWXYZ"++@"0123456789")] []=.ok (.int ((a+zo nmC (s.drop a):Nat):Int)) []:=by rw[Z2 (Nat.lt_trans hn (by decide)),hp]
 have e1:decide ((@"ABCDEFGHIJKLMNOPQRSTUVWXYZ":List Nat).length+(@"0123456789":List Nat).length<2 ^ 20)=true:=by decide
 have eL:evE G_ (Ev (n+1)) (.bop .add (.glb 44) (.glb 41)) [some (.str s),some (.int a),none] []=.ok (.str (@"ABCDEFGHIJKLMNOPQRSTUVWXYZ"++@"0123456789")) []:=rfl
 have hcall:evE G_ (Ev (n+1)) (.call (.glb 40) (.cons (.loc 0) (.cons (.loc 1) (.cons (.bop .add (.glb 44) (.glb 41)) .nil)))) [some (.str s),some (.int a),none] []=.ok (.int ((a+zo nmC (s.drop a):Nat):Int)) []:=hr
 unfold qt
 rw[x_cons,x_asg,hcall]
 by_cases h6:6<((s.drop a).takeWhile nmC).length
 ·have h6':(6:Int)<((a+zo nmC (s.drop a):Nat):Int)-(a:Int):=by rw[QJ];exact Int.ofNat_lt.mpr h6
  rw[if_pos h6]
  simp! only[g43,decide_eq_true h6']
  rfl
 ·have h6':¬(6:Int)<((a+zo nmC (s.drop a):Nat):Int)-(a:Int):=by rw[QJ];exact λ h=>h6 (Int.ofNat_lt.mp h)
  rw[if_neg h6]
  simp! only[g43,decide_eq_false h6',j9,vA]
  rfl
theorem tk_or{c:Nat}(h:tkC c=true)(hu:upC c=false)(hd:dgC c=false):c=40\/c=41\/c=42\/c=44:=by
 unfold tkC at h
 rw[hu,hd] at h
 simp only[Bool.false_or,Bool.and_eq_true,Bool.or_eq_true,beq_iff_eq] at h
 rcases h.1.1 with ((h | h) | h) | h
 ·exact .inl h
 ·exact .inr (.inl h)
 ·exact .inr (.inr (.inl h))
 ·exact .inr (.inr (.inr h))
theorem X7{n:Nat}{a c:Nat}(hn:s.length<600)(hs:∀ c∈s,tkC c=true)(ha:s[a]?=some c):Ev (n+3) 34 [.str s,.int a] H=match yM (s.drop a) with
  | some (t,k)=>.ok (.tup [vc t a,.int ((a+k:Nat):Int)]) H
  | none=>.exc 2 H.length (H++[z0U a]):=by
 rw[zv (k:=34) (b:=ya) (L:=[some (.str s),some (.int a),none,none]) rfl rfl rfl rfl rfl rfl rfl]
 have halt:=(gs_ ha).1
 have hda:s.drop a=c::s.drop (a+1):=by
  rw[List.drop_eq_getElem_cons halt,(gs_ ha).2]
 have htk:=hs c (List.mem_of_getElem? ha)
 cases hu:upC c with
 | true=>
  have hna:Ev (n+2) 33 [.str s,.int a] []=_:=Xq hn
  rw[hda] at hna ⊢
  by_cases h6:6<((c::s.drop (a+1)).takeWhile nmC).length
  ·rw[if_pos h6] at hna
   simp only[yM,hu,if_true,h6]
   unfold ya
   simp! only[ha,g44,xA,hu,g47,hna]
   rfl
  ·rw[if_neg h6] at hna
   simp only[yM,hu,if_true,h6,if_false]
   unfold ya
   simp! only[ha,g44,xA,hu,g47,hna]
   rfl
 | false=>
  cases hd:dgC c with
  | true=>
   have hnu:Ev (n+2) 32 [.str s,.int a] []=_:=Y1 hn hs ha hd
   rw[hda] at hnu ⊢
   simp only[yM,hu,hd,if_true]
   unfold ya
   simp! only[ha,g44,xA,hu,g41,yo,hd,g46,hnu]
   rfl
  | false=>
   have hcs:=tk_or htk hu hd
   have h46:([c]==[46])=false:=by rcases hcs with rfl | rfl | rfl | rfl<;>rfl
   have h39:([c]==[39])=false:=by rcases hcs with rfl | rfl | rfl | rfl<;>rfl
   have hsg:(@"+-*/(),=:":List Nat).contains c=true:=by rcases hcs with rfl | rfl | rfl | rfl<;>rfl
   have hrun:evS G_ (Ev (n+2)) 2000 ya [some (.str s),some (.int a),none,none] []=evS G_ (Ev (n+2)) 2000 ZX [some (.str s),some (.int a),some (.str [c]),none] []:=by
    unfold ya
    simp! only[ha,g44,xA,hu,g41,yo,hd,h46,h39,g45,hsg,Bool.not_true]
   rw[hrun]
   unfold ZX
   have hcast:((a:Int)+1)=((a+1:Nat):Int):=rfl
   have hnx:(s.drop (a+1)).head?=s[a+1]?:=by rw[List.head?_drop]
   have hs1:=yj s (a+1)
   have hto:=j9 s a 1
   have hto2:=j9 s a 2
   by_cases h42:c=42
   ·subst h42
    cases hx:s[a+1]? with
    | none=>
     have ht1:yM (s.drop a)=some ((2,[42]),1):=by
      rw[hda]
      simp [yM,hu,hd,hnx,hx]
     have hone:(s.drop a).take 1=[42]:=by rw[hda];rfl
     rw[ht1]
     have hin:(@"*/":List Nat).contains 42=true:=rfl
     have he:(([]:List Nat)==[42])=false:=rfl
     simp! only[hcast,hin,hs1,hx,Option.toList_some,Option.toList_none,he,hto,hone]
     rfl
    | some d=>
     have hin:(@"*/":List Nat).contains 42=true:=rfl
     by_cases hd42:d=42
     ·subst hd42
      have ht1:yM (s.drop a)=some ((2,@"**"),2):=by
       rw[hda]
       simp [yM,hu,hd,hnx,hx]
      have hone:(s.drop a).take 2=@"**":=by
       rw[hda,List.take_succ_cons]
       have:(s.drop (a+1)).take 1=[42]:=by
        have h1:=(gs_ hx)
        rw[List.drop_eq_getElem_cons h1.1,h1.2];rfl
       rw[this]
      rw[ht1]
      have hcast2:(((a+1:Nat):Int)+1)=((a+2:Nat):Int):=rfl
      have hs1b:=hs1
      rw[hcast2] at hs1b
      simp! only[hcast,hin,hs1b,hx,Option.toList_some,Option.toList_none,beq_self_eq_true,hcast2,hto2,hone]
      rfl
     ·have ht1:yM (s.drop a)=some ((2,[42]),1):=by
       rw[hda]
       simp [yM,hu,hd,hnx,hx,hd42]
      have hone:(s.drop a).take 1=[42]:=by rw[hda];rfl
      have he:([d]==[42])=false:=by simpa using hd42
      rw[ht1]
      simp! only[hcast,hin,hs1,hx,Option.toList_some,Option.toList_none,he,hto,hone]
      rfl
   ·have ht1:yM (s.drop a)=some ((2,[c]),1):=by
     rw[hda]
     simp [yM,hu,hd,h42]
    have hone:(s.drop a).take 1=[c]:=by rw[hda];rfl
    have hin:(@"*/":List Nat).contains c=false:=by
     rcases hcs with rfl | rfl | rfl | rfl<;>first | rfl | exact absurd rfl h42
    rw[ht1]
    simp! only[hcast,hin,hto,hone]
    rfl
noncomputable def wa:Nat->List Nat->Option (List Tk)
 | _,[]=>some []
 | 0,_=>none
 | n+1,s=>match yM s with
  | none=>none
  | some (t,k)=>(wa n (s.drop k)).map (t::·)
noncomputable def yI:Nat->List Tk->List V
 | _,[]=>[]
 | a,t::r=>vc t a::yI (a+t.2.length) r
theorem VS{p:Nat->Bool}{c:Nat}{r:List Nat}(h:p c=true):1<=((c::r).takeWhile p).length:=by
 rw[List.takeWhile_cons,if_pos h];exact Nat.succ_pos _
theorem vU{t:Tk}(h:yM s=some (t,k)):k=t.2.length/\1<=k/\s.take k=t.2:=by
 cases s with
 | nil=>exact n1 h
 | cons c r=>
  revert h
  show(if upC c=true then(if 6<((c::r).takeWhile nmC).length then none else some ((0,(c::r).takeWhile nmC),((c::r).takeWhile nmC).length)) else if dgC c=true then some ((1,(c::r).takeWhile dgC),((c::r).takeWhile dgC).length) else if (c==42&&r.head?==some 42)=true then some ((2,@"**"),2) else some ((2,[c]),1))=some (t,k)->_
  by_cases hu:upC c=true
  ·rw[if_pos hu]
   by_cases h6:6<((c::r).takeWhile nmC).length
   ·rw[if_pos h6];exact λ h=>n1 h
   ·rw[if_neg h6]
    intro h
    cases h
    exact⟨rfl,VS (by unfold nmC;rw[hu];rfl),vA nmC (c::r)⟩
  ·rw[if_neg hu]
   by_cases hd:dgC c=true
   ·rw[if_pos hd]
    intro h
    cases h
    exact⟨rfl,VS hd,vA dgC (c::r)⟩
   ·rw[if_neg hd]
    by_cases h42:(c==42&&r.head?==some 42)=true
    ·rw[if_pos h42]
     intro h
     cases h
     refine⟨rfl,Nat.le_succ 1,?_⟩
     rw[be_ (V.beqB h42).1]
     cases r with
     | nil=>cases (V.beqB h42).2
     | cons d r=>rw[Option.some.inj (be_ (V.beqB h42).2)];rfl
    ·rw[if_neg h42]
     intro h
     cases h
     exact⟨rfl,Nat.le_refl 1,rfl⟩
inductive RaisesO(o:Out)(H:Hp):Prop where | mk (k:Nat) (J:Hp) (d:Nat) (l:List (List Nat×V)) (t:List Nat):o=.exc k d (H++J)->(k=2\/k=3)->(H++J)[d]?=some (.att l)->l.lookup txt=some (.str t)->RaisesO o H
inductive RaisesR{α:Type}(o:R α)(H:Hp):Prop where | mk (k:Nat) (J:Hp) (d:Nat) (l:List (List Nat×V)) (t:List Nat):o=.exc k d (H++J)->(k=2\/k=3)->(H++J)[d]?=some (.att l)->l.lookup txt=some (.str t)->RaisesR o H
theorem ym(G:Hp)(o:O):(G++[o])[G.length]?=some o:=List.getElem?_concat_length
theorem vz(G:Hp)(o o':O):(G++[o]).set G.length o'=G++[o']:=by rw[List.set_append_right _ _ (Nat.le_refl _),Nat.sub_self];rfl
theorem g51:G_ 51=some (.fn 35):=rfl
theorem VV{n:Nat}(hn:s.length<600)(hs:∀ c∈s,tkC c=true)(G:Hp)(C:E)(B:S)(hC:C=.cmp .lt (.loc 2) (.bi .len (.cons (.loc 0) .nil)))(hB:B=.cons (.asgT [3,2] (.call (.glb 48) (.cons (.loc 0) (.cons (.loc 2) .nil)))) (.cons (.app (.loc 1) (.loc 3)) .nil)) :
  ∀ (f a:Nat) (acc:List V) (x:Option V) (m:Nat),s.length-a<=f->f<m->a<=s.length->acc.length+f<2000->
   (∃ toks x',wa f (s.drop a)=some toks/\zZ (cT G_ (Ev (n+3)) C) (evS G_ (Ev (n+3)) 2000 B) m [some (.str s),some (.ref G.length),some (.int (a:Int)),x] (G++[.lst acc])=.next [some (.str s),some (.ref G.length),some (.int (s.length:Int)),x'] (G++[.lst (acc++yI a toks)])) \/
   (wa f (s.drop a)=none/\RaisesO (zZ (cT G_ (Ev (n+3)) C) (evS G_ (Ev (n+3)) 2000 B) m [some (.str s),some (.ref G.length),some (.int (a:Int)),x] (G++[.lst acc])) G):=by
 subst hC hB
 intro f
 induction f with
 | zero=>
  intro a acc x m h1 h2 h3 h4
  obtain rfl:a=s.length:=Nat.le_antisymm h3 (Nat.sub_eq_zero_iff_le.mp (Nat.le_zero.mp h1))
  obtain⟨m,rfl⟩:=Nat.exists_eq_succ_of_ne_zero (Nat.ne_zero_of_lt h2)
  refine .inl ⟨[],x,by rw[List.drop_length];rfl,?_⟩
  rw[ZB (H':=G++[.lst acc]) (by simp! only[nlt (Nat.le_refl s.length)])]
  exact congrArg (λ l=>Out.next _ (G++[O.lst l])) (List.append_nil acc).symm
 | succ f ih=>
  intro a acc x m h1 h2 h3 h4
  obtain⟨m,rfl⟩:=Nat.exists_eq_succ_of_ne_zero (Nat.ne_zero_of_lt h2)
  by_cases hal:a=s.length
  ·subst hal
   refine .inl ⟨[],x,by rw[List.drop_length];rfl,?_⟩
   rw[ZB (H':=G++[.lst acc]) (by simp! only[nlt (Nat.le_refl s.length)])]
   exact congrArg (λ l=>Out.next _ (G++[O.lst l])) (List.append_nil acc).symm
  ·have halt:a<s.length:=Nat.lt_of_le_of_ne h3 hal
   have ha:s[a]?=some s[a]:=List.getElem?_eq_getElem halt
   have ht:Ev (n+3) 34 [.str s,.int (a:Int)] (G++[.lst acc])=_:=X7 hn hs ha
   have hne:s.drop a≠[]:=by rw[List.drop_eq_getElem_cons halt];exact List.cons_ne_nil _ _
   have hlex:wa (f+1) (s.drop a)=match yM (s.drop a) with | none=>none | some (t,k)=>(wa f ((s.drop a).drop k)).map (t::·):=by
    cases hd:s.drop a with
    | nil=>exact absurd hd hne
    | cons c r=>rfl
   rw[Yl (H':=G++[.lst acc]) (by simp! only[ylt halt])]
   cases h1t:yM (s.drop a) with
   | none=>
    rw[h1t] at ht hlex
    dsimp only at ht hlex
    refine .inr ⟨hlex,?_⟩
    simp! only[g48,ht]
    exact⟨2,[O.lst acc,z0U a],(G++[O.lst acc]).length,[(txt,.str msgN),(@"at",.int (a:Int))],msgN,by simp,.inl rfl,by simp [z0U],rfl⟩
   | some p=>
    obtain⟨t,k⟩:=p
    rw[h1t] at ht hlex
    dsimp only at ht hlex
    obtain⟨rfl,hk1,hk2⟩:=vU h1t
    have hkle:t.2.length<=s.length-a:=Nat.le_trans (Nat.le_of_eq (congrArg List.length hk2).symm) (Nat.le_trans (List.length_take_le' _ _) (Nat.le_of_eq List.length_drop))
    have hlen:decide (acc.length<2 ^ 20)=true:=decide_eq_true (Nat.lt_of_le_of_lt (Nat.le_add_right _ _) (Nat.lt_trans h4 (by decide)))
    have step:evS G_ (Ev (n+3)) 2000 (.cons (.asgT [3,2] (.call (.glb 48) (.cons (.loc 0) (.cons (.loc 2) .nil)))) (.cons (.app (.loc 1) (.loc 3)) .nil)) [some (.str s),some (.ref G.length),some (.int (a:Int)),x] (G++[.lst acc])=.next [some (.str s),some (.ref G.length),some (.int ((a+t.2.length:Nat):Int)),some (vc t a)] (G++[.lst (acc++[vc t a])]):=by
     simp! only[g48,ht,xg,ym,hlen,vz]
    rw[step,turn_next]
    have hdd:(s.drop a).drop t.2.length=s.drop (a+t.2.length):=by rw[List.drop_drop]
    rw[hdd] at hlex
    rcases ih (a+t.2.length) (acc++[vc t a]) (some (vc t a)) m (lx1 h1 hk1) (Nat.lt_of_succ_lt_succ h2) (Nat.add_le_of_le_sub' h3 hkle) (lx2 h4) with ⟨toks,x',q1,q2⟩ | ⟨q1,q2⟩
    ·refine .inl ⟨t::toks,x',by rw[hlex,q1];rfl,?_⟩
     rw[q2,yI,List.append_assoc]
     rfl
    ·exact .inr ⟨by rw[hlex,q1];rfl,q2⟩
theorem Y5{n:Nat}(hn:s.length<600)(hs:∀ c∈s,tkC c=true) :
  (∃ toks,wa s.length s=some toks/\Ev (n+4) 35 [.str s] H=.ok (.ref H.length) (H++[.lst (yI 0 toks)]))\/(wa s.length s=none/\RaisesR (Ev (n+4) 35 [.str s] H) H):=by
 rw[za (k:=35) (b:=wq) (L:=[some (.str s),none,none,none]) rfl rfl rfl rfl rfl rfl]
 have h:=VV (n:=n) hn hs H _ _ rfl rfl s.length 0 [] none 2000 (Nat.sub_le _ _) (Nat.lt_trans hn (by decide)) (Nat.zero_le _) (by rw[List.length_nil,Nat.zero_add];exact Nat.lt_trans hn (by decide))
 unfold wq
 simp! only[]
 rcases h with ⟨toks,x',q1,q2⟩ | ⟨q1,k,J,d,l,t,q2,q3,q4,q5⟩
 ·refine .inl ⟨toks,q1,?_⟩
  have q2':zZ _ _ 2000 [some (.str s),some (.ref H.length),some (.int 0),none] (H++[.lst []])=_:=q2
  rw[q2']
  simp! only[List.nil_append]
  rfl
 ·refine .inr ⟨q1,k,J,d,l,t,?_,q3,q4,q5⟩
  have q2':zZ _ _ 2000 [some (.str s),some (.ref H.length),some (.int 0),none] (H++[.lst []])=_:=q2
  rw[q2']
  simp! only[]
  rfl
noncomputable def okTk(t:Tk):Prop:=t.1=0\/t.1=1\/t.1=2
structure IsToks(tv:List V)(toks:List Tk):Prop where
 len:tv.length=toks.length
 at_:∀ (i:Nat) (t:Tk),toks[i]?=some t->∃ p:Nat,tv[i]?=some (vc t p)
 ok:∀ t∈toks,okTk t
theorem Jz{t:Tk}(h:yM s=some (t,k)):okTk t:=by
 cases s with
 | nil=>exact n1 h
 | cons c r=>
  revert h
  show(if upC c=true then(if 6<((c::r).takeWhile nmC).length then none else some ((0,(c::r).takeWhile nmC),((c::r).takeWhile nmC).length)) else if dgC c=true then some ((1,(c::r).takeWhile dgC),((c::r).takeWhile dgC).length) else if (c==42&&r.head?==some 42)=true then some ((2,@"**"),2) else some ((2,[c]),1))=some (t,k)->_
  by_cases hu:upC c=true
  ·rw[if_pos hu]
   by_cases h6:6<((c::r).takeWhile nmC).length
   ·rw[if_pos h6];exact λ h=>n1 h
   ·rw[if_neg h6];exact λ h=>.inl (congrArg (λ p=>p.1.1) (Option.some.inj h).symm)
  ·rw[if_neg hu]
   by_cases hd:dgC c=true
   ·rw[if_pos hd];exact λ h=>.inr (.inl (congrArg (λ p=>p.1.1) (Option.some.inj h).symm))
   ·rw[if_neg hd]
    by_cases h42:(c==42&&r.head?==some 42)=true
    ·rw[if_pos h42];exact λ h=>.inr (.inr (congrArg (λ p=>p.1.1) (Option.some.inj h).symm))
    ·rw[if_neg h42];exact λ h=>.inr (.inr (congrArg (λ p=>p.1.1) (Option.some.inj h).symm))
theorem QG(n c:Nat)(r:List Nat)(toks:List Tk)(h:wa (n+1) (c::r)=some toks):∃ t k q,yM (c::r)=some (t,k)/\wa n ((c::r).drop k)=some q/\t::q=toks:=by
 revert h
 show(match yM (c::r) with | none=>none | some (t,k)=>(wa n ((c::r).drop k)).map (t::·))=some toks->_
 cases yM (c::r) with
 | none=>exact λ h=>n1 h
 | some p=>exact λ h=>(om_ h).elim λ q e=>⟨p.1,p.2,q,rfl,e.1,e.2⟩
theorem Za(n:Nat){toks:List Tk}(h:wa n []=some toks):toks=[]:=by
 cases n<;>exact(Option.some.inj h).symm
theorem z36{n:Nat}:∀ {s:List Nat} {toks:List Tk},wa n s=some toks->∀ t∈toks,okTk t:=by
 induction n with
 | zero=>
  intro s toks h
  cases s with
  | nil=>rw[Za _ h];exact λ _ h=>nomatch h
  | cons c r=>exact n1 h
 | succ n ih=>
  intro s toks h
  cases s with
  | nil=>rw[Za _ h];exact λ _ h=>nomatch h
  | cons c r=>
   obtain⟨t,k,q,h1,h2,rfl⟩:=QG n c r toks h
   exact λ u hu=>(mc_ hu).elim (λ e=>e ▸ Jz h1) (ih h2 u)
theorem Qj(a:Nat)(toks:List Tk):(yI a toks).length=toks.length:=by
 induction toks generalizing a with
 | nil=>rfl
 | cons t r ih=>exact congrArg Nat.succ (ih _)
theorem JY{toks:List Tk}:∀ {a i:Nat} {t:Tk},toks[i]?=some t->∃ p,(yI a toks)[i]?=some (vc t p):=by
 induction toks with
 | nil=>exact λ h=>n1 h
 | cons u r ih=>
  intro a i t h
  cases i with
  | zero=>rw[←Option.some.inj h];exact⟨a,rfl⟩
  | succ i=>exact ih (a:=a+u.2.length) (i:=i) h
theorem V3{a n:Nat}{toks:List Tk}(h:wa n s=some toks):IsToks (yI a toks) toks:=⟨Qj a toks,λ i t=>JY,z36 h⟩
noncomputable def zr(t:Tk)(w:List Nat):Bool:=(ku t.1==@"OP")&&t.2==w
noncomputable def zB(toks:List Tk)(i:Nat)(w:List Nat):Bool:=match toks[i]? with | some t=>zr t w | none=>false
theorem XV(t:Tk)(p:Nat)(H:Hp):zC H (vc t p) (.int 0)=some (.str (ku t.1)):=rfl
theorem Qb(t:Tk)(p:Nat)(H:Hp):zC H (vc t p) (.int 1)=some (if t.1=1 then .int ((NumText.digitsVal t.2:Nat):Int) else .str t.2):=rfl
section
variable {n j:Nat}{H:Hp}{tv:List V}{toks:List Tk}(hj:H[j]?=some (.lst tv))(hT:IsToks tv toks)
theorem QQ{f:XFn}(hp:f.pure_=true):yt f H (.next L H)=.ok .none H:=by
 show(if f.pure_ then(if wj H H then _ else _) else _)=_
 rw[hp,kI];rfl
include hj hT
theorem we{w:List Nat}:Ev (n+1) 15 [.ref j,.int (i:Int),.str w] H=.ok (.bool (zB toks i w)) H:=by
 rw[za (k:=15) (b:=Zh) (L:=[some (.ref j),some (.int (i:Int)),some (.str w)]) rfl rfl rfl rfl rfl rfl]
 unfold Zh zB
 cases hx:toks[i]? with
 | none=>
  simp! only[hj,nlt (hT.len ▸ gn_ hx:tv.length<=i)]
  exact y9 rfl rfl
 | some t=>
  have hlt:i<tv.length:=hT.len ▸ (gs_ hx).1
  obtain⟨p,hp⟩:=hT.at_ i t hx
  have hix:zC H (.ref j) (.int (i:Int))=some (vc t p):=by rw[vm hj,hp]
  cases hk:(ku t.1==@"OP") with
  | false=>
   have e:zr t w=false:=by unfold zr;rw[hk];rfl
   dsimp only
   rw[e]
   simp! only[hj,ylt hlt,hix,XV,hk]
   exact y9 rfl rfl
  | true=>
   have h1:t.1≠1:=λ q=>by rw[q] at hk;cases hk
   have e:zr t w=(t.2==w):=by unfold zr;rw[hk,Bool.true_and]
   dsimp only
   rw[e]
   simp! only[hj,ylt hlt,hix,XV,hk,Qb,if_neg h1]
   exact y9 rfl rfl
theorem XH:Ev (n+1) 14 [.ref j,.int (i:Int)] H=.ok (.str (match toks[i]? with | some t=>ku t.1 | none=>[])) H:=by
 rw[za (k:=14) (b:=qe) (L:=[some (.ref j),some (.int (i:Int))]) rfl rfl rfl rfl rfl rfl]
 unfold qe
 cases hx:toks[i]? with
 | none=>
  simp! only[hj,nlt (hT.len ▸ gn_ hx:tv.length<=i)]
  exact y9 rfl rfl
 | some t=>
  have hlt:i<tv.length:=hT.len ▸ (gs_ hx).1
  obtain⟨p,hp⟩:=hT.at_ i t hx
  have hix:zC H (.ref j) (.int (i:Int))=some (vc t p):=by rw[vm hj,hp]
  simp! only[hj,ylt hlt,hix,XV]
  exact y9 rfl rfl
omit hj hT in
theorem wK(t:List Nat)(H:Hp):RaisesR (R.exc 3 H.length (H++[.att [(txt,.str t)]]):R V) H:=⟨3,[.att [(txt,.str t)]],H.length,[(txt,.str t)],t,rfl,.inr rfl,ym _ _,rfl⟩
theorem Xp{w:List Nat}(hw:w.length<100):Ev (n+2) 16 [.ref j,.int (i:Int),.str w] H=(if zB toks i w then .ok (.int ((i+1:Nat):Int)) H else Ev (n+2) 16 [.ref j,.int (i:Int),.str w] H)/\(zB toks i w=false->RaisesR (Ev (n+2) 16 [.ref j,.int (i:Int),.str w] H) H):=by
 have hop:Ev (n+1) 15 [.ref j,.int (i:Int),.str w] H=.ok (.bool (zB toks i w)) H:=we hj hT
 have hg19:G_ 19=some (.fn 15):=rfl
 rw[za (k:=16) (b:=qw) (L:=[some (.ref j),some (.int (i:Int)),some (.str w)]) rfl rfl rfl rfl rfl rfl]
 unfold qw
 refine⟨?_,λ hf=>?_⟩
 ·cases hb:zB toks i w with
  | false=>rfl
  | true=>
   simp! only[hg19,hop,hb,Bool.not_true]
   exact y9 rfl rfl
 ·have hl:decide (19+w.length<2 ^ 20)=true:=decide_eq_true (Nat.lt_trans (Nat.add_lt_add_left hw 19) (by decide))
  simp! only[hg19,hop,hf,Bool.not_false,hl,xN,xW,xV]
  exact wK _ H
theorem vK:(∀ w,toks[i]?=some (0,w)->Ev (n+2) 17 [.ref j,.int (i:Int)] H=.ok (.tup [.str w,.int ((i+1:Nat):Int)]) H)/\((∀ w,toks[i]?≠some (0,w))->RaisesR (Ev (n+2) 17 [.ref j,.int (i:Int)] H) H):=by
 have hk:Ev (n+1) 14 [.ref j,.int (i:Int)] H=_:=XH hj hT
 have hg20:G_ 20=some (.fn 14):=rfl
 rw[za (k:=17) (b:=wp) (L:=[some (.ref j),some (.int (i:Int))]) rfl rfl rfl rfl rfl rfl]
 unfold wp
 refine⟨λ w hw=>?_,λ hw=>?_⟩
 ·rw[hw] at hk
  obtain⟨p,hp⟩:=hT.at_ i _ hw
  have hix:zC H (.ref j) (.int (i:Int))=some (vc (0,w) p):=by rw[vm hj,hp]
  have e:(ku 0==@"NAME")=true:=rfl
  have e2:(if ((0:Nat),w).1=1 then V.int ((NumText.digitsVal ((0:Nat),w).2:Nat):Int) else .str ((0:Nat),w).2)=.str w:=rfl
  simp! only[hg20,hk,e,Bool.not_true,hix,Qb,e2]
  exact y9 rfl rfl
 ·have e:((match toks[i]? with | some t=>ku t.1 | none=>[])==@"NAME")=false:=by
   cases hx:toks[i]? with
   | none=>rfl
   | some t=>
    obtain⟨k,w⟩:=t
    rcases hT.ok _ (List.mem_of_getElem? hx) with h | h | h
    ·simp only at h
     subst h
     exact absurd hx (hw w)
    ·simp only at h;subst h;rfl
    ·simp only at h;subst h;rfl
  simp! only[hg20,hk,e,Bool.not_false,xN,xW,xV]
  exact wK _ H
theorem Yx:(toks.length<=i->Ev (n+1) 18 [.ref j,.int (i:Int)] H=.ok .none H)/\(i<toks.length->RaisesR (Ev (n+1) 18 [.ref j,.int (i:Int)] H) H):=by
 rw[za (k:=18) (b:=vf) (L:=[some (.ref j),some (.int (i:Int))]) rfl rfl rfl rfl rfl rfl]
 unfold vf
 refine⟨λ h=>?_,λ h=>?_⟩
 ·simp! only[hj,nlt (hT.len ▸ h:tv.length<=i)]
  exact QQ rfl
 ·have hlt:i<tv.length:=hT.len ▸ h
  simp! only[hj,ylt hlt,xN,xW,xV]
  exact wK _ H
end
theorem wO(n:Nat)(H:Hp)(ds:List (List Nat)):jp n H (ds.map .str)=some (ds.map λ s=>PyData.str (z0 s)):=by
 induction ds with
 | nil=>rfl
 | cons a r ih=>
  show vq (toD n H (.str a)) (jp n H (r.map .str))=_
  rw[ye,ih];rfl
theorem Qr(x y:List Nat):(z0 x==z0 y)=(x==y):=by
 rw[Bool.eq_iff_iff,beq_iff_eq,beq_iff_eq]
 constructor
 ·intro h
  have:=congrArg (λ z:Str=>z.cps.toList) h
  simpa [z0] using this
 ·intro h;rw[h]
theorem vQ(x:List Nat):∀ ds:List (List Nat),((ds.map λ s=>PyData.str (z0 s)).any λ e=>PyData.eqv e (.str (z0 x)))=ds.contains x
 | []=>rfl
 | a::r=>by
  have h1:PyData.eqv (.str (z0 a)) (.str (z0 x))=(x==a):=by
   show(z0 a==z0 x)=_
   rw[Qr,Bool.eq_iff_iff,beq_iff_eq,beq_iff_eq]
   exact⟨Eq.symm,Eq.symm⟩
  rw[List.map_cons,List.any_cons,h1,vQ x r,List.contains_cons]
theorem kq{x:List Nat}(h:H[i]?=some (.lst (ds.map .str))):zd .in_ (.str x) (.ref i) H=some (ds.contains x):=by
 show inO H (.str x) H[i]?=_
 rw[←vQ,h]
 show inG _ _ _=_
 unfold inG
 rw[ye,wO];rfl
noncomputable def yf(t:Tk)(acc:List (List Nat)):Option (List Nat):=if zr t [42] then some [42] else if t.1==0 then(if acc.contains t.2 then none else some t.2) else none
theorem Xn(t:Tk)(acc:List (List Nat)):(zr t [42]=true/\yf t acc=some [42])\/(A4 (zr t [42]=false) (t.1=0) (acc.contains t.2=false) (yf t acc=some t.2))\/(A4 (zr t [42]=false) (t.1=0) (acc.contains t.2=true) (yf t acc=none))\/(A3 (zr t [42]=false) (t.1≠0) (yf t acc=none)):=by
 unfold yf
 cases zr t [42] with
 | true=>exact .inl ⟨rfl,rfl⟩
 | false=>
  by_cases h:t.1=0
  ·rw[h]
   cases acc.contains t.2 with
   | false=>exact .inr (.inl ⟨rfl,rfl,rfl,rfl⟩)
   | true=>exact .inr (.inr (.inl ⟨rfl,rfl,rfl,rfl⟩))
  ·exact .inr (.inr (.inr ⟨rfl,h,if_neg λ e=>h (be_ e)⟩))
noncomputable def pdF:Nat->List Tk->List (List Nat)->Option (List (List Nat)×List Tk)
 | 0,_,_=>none
 | _+1,[],_=>none
 | n+1,t::r,acc=>match yf t acc with
  | none=>none
  | some w=>match r with
   | []=>none
   | u::r'=>if zr u [44] then pdF n r' (acc++[w]) else if zr u [41] then some (acc++[w],r') else none
theorem g19:G_ 19=some (.fn 15):=rfl
theorem g34:G_ 34=some (.fn 16):=rfl
theorem g38:G_ 38=some (.fn 17):=rfl
theorem g49:G_ 49=some (.fn 18):=rfl
theorem g50:G_ 50=some (.fn 36):=rfl
theorem xc{toks:List Tk}{t:Tk}{r:List Tk}(h:toks.drop i=t::r)(w:List Nat):zB toks i w=zr t w:=by
 unfold zB
 rw[(xm h).1]
theorem qa{toks:List Tk}(h:toks.drop i=[])(w:List Nat):zB toks i w=false:=by
 unfold zB
 have:toks.length<=i:=List.drop_eq_nil_iff.mp h
 rw[List.getElem?_eq_none this]
theorem vJ{G:Hp}{o o':O}(h:G[j]?=some o):(G++[o'])[j]?=some o:=by
 rw[List.getElem?_append_left (gs_ h).1];exact h
theorem RaisesR.up{r:R α}{G:Hp}{o:O}(h:RaisesR r (G++[o])):RaisesR r G:=by
 obtain⟨k,J,d,l,t,h1,h2,h3,h4⟩:=h
 exact⟨k,o::J,d,l,t,h1.trans (congrArg (R.exc k d) (List.append_assoc G [o] J)),h2,(congrArg (λ x:Hp=>x[d]?) (List.append_assoc G [o] J)).symm.trans h3,h4⟩
theorem QX{f:Nat}{t:Tk}{r:List Tk}(hi:yf t acc=none):pdF (f+1) (t::r) acc=none:=by
 show(match yf t acc with | none=>none | some w=>match r with
  | []=>none
  | u::r'=>if zr u [44] then pdF f r' (acc++[w]) else if zr u [41] then some (acc++[w],r') else none)=_
 rw[hi]
theorem vM{f:Nat}{t:Tk}{r:List Tk}{w:List Nat}(hi:yf t acc=some w):pdF (f+1) (t::r) acc=match r with
  | []=>none
  | u::r'=>if zr u [44] then pdF f r' (acc++[w]) else if zr u [41] then some (acc++[w],r') else none:=by
 show(match yf t acc with | none=>none | some w=>match r with
  | []=>none
  | u::r'=>if zr u [44] then pdF f r' (acc++[w]) else if zr u [41] then some (acc++[w],r') else none)=_
 rw[hi]
noncomputable def msgD:List Nat:=@"a dummy argument stands twice"
section
variable {n j:Nat}{G:Hp}{tv:List V}{toks:List Tk}(hj:G[j]?=some (.lst tv))(hT:IsToks tv toks)
include hj hT
theorem Jy{w:List Nat}(hl:acc.length<2000) :
  (∀ u r',toks.drop i=u::r'->zr u [44]=true->evS G_ (Ev (n+3)) 2000 xl [some (.ref j),some (.int (i:Int)),some (.ref G.length),some (.str w)] (G++[.lst (acc.map .str)])=.next [some (.ref j),some (.int ((i+1:Nat):Int)),some (.ref G.length),some (.str w)] (G++[.lst ((acc++[w]).map .str)])) /\
  (∀ u r',toks.drop i=u::r'->zr u [44]=false->zr u [41]=true->evS G_ (Ev (n+3)) 2000 xl [some (.ref j),some (.int (i:Int)),some (.ref G.length),some (.str w)] (G++[.lst (acc.map .str)])=.ret (.tup [.ref G.length,.int ((i+1:Nat):Int)]) (G++[.lst ((acc++[w]).map .str)])) /\
  (zB toks i [44]=false->zB toks i [41]=false->RaisesO (evS G_ (Ev (n+3)) 2000 xl [some (.ref j),some (.int (i:Int)),some (.ref G.length),some (.str w)] (G++[.lst (acc.map .str)])) G):=by
 have hlen:decide ((acc.map V.str).length<2 ^ 20)=true:=by
  rw[List.length_map];exact decide_eq_true (Nat.lt_trans hl (by decide))
 have hj':(G++[O.lst ((acc++[w]).map .str)])[j]?=some (.lst tv):=vJ hj
 have hc:Ev (n+3) 15 [.ref j,.int (i:Int),.str [44]] (G++[O.lst ((acc++[w]).map .str)])=.ok (.bool (zB toks i [44])) _:=we hj' hT
 obtain⟨hn1,hn2⟩:=Xp (n:=n+1) hj' hT (i:=i) (w:=[41]) (by decide)
 have hmap:acc.map V.str++[V.str w]=(acc++[w]).map .str:=by rw[List.map_append];rfl
 refine⟨λ u r' h1 h2=>?_,λ u r' h1 h2 h3=>?_,λ h2 h3=>?_⟩
 ·have h4:=xc h1 [44]
  rw[h2] at h4
  rw[h4] at hc
  unfold xl
  simp! only[xg,ym,hlen,vz,hmap,g19,hc,Bool.not_true]
  rfl
 ·have h4:=xc h1 [44]
  rw[h2] at h4
  rw[h4] at hc
  have h5:=xc h1 [41]
  rw[h3] at h5
  rw[h5,if_pos rfl] at hn1
  unfold xl
  simp! only[xg,ym,hlen,vz,hmap,g19,hc,Bool.not_false,g34,hn1]
 ·rw[h2] at hc
  obtain⟨k,J,d,l,t,q1,q2,q3,q4⟩:=(hn2 h3).up
  refine⟨k,J,d,l,t,?_,q2,q3,q4⟩
  unfold xl
  simp! only[xg,ym,hlen,vz,hmap,g19,hc,Bool.not_false,g34,q1]
theorem JL{x:Option V}(hl:acc.length<2000) :
  (∀ t r w,toks.drop i=t::r->yf t acc=some w->evS G_ (Ev (n+3)) 2000 y8 [some (.ref j),some (.int (i:Int)),some (.ref G.length),x] (G++[.lst (acc.map .str)])=evS G_ (Ev (n+3)) 2000 xl [some (.ref j),some (.int ((i+1:Nat):Int)),some (.ref G.length),some (.str w)] (G++[.lst (acc.map .str)])) /\
  ((∀ t r,toks.drop i=t::r->yf t acc=none)->RaisesO (evS G_ (Ev (n+3)) 2000 y8 [some (.ref j),some (.int (i:Int)),some (.ref G.length),x] (G++[.lst (acc.map .str)])) G):=by
 have hj':(G++[O.lst (acc.map .str)])[j]?=some (.lst tv):=vJ hj
 have hc:Ev (n+3) 15 [.ref j,.int (i:Int),.str [42]] (G++[O.lst (acc.map .str)])=.ok (.bool (zB toks i [42])) _:=we hj' hT
 obtain⟨hn1,hn2⟩:=vK (n:=n+1) hj' hT (i:=i)
 refine⟨λ t r w h1 h2=>?_,λ h1=>?_⟩
 ·rw[xc h1 [42]] at hc
  rcases Xn t acc with ⟨h4,h5⟩ | ⟨h4,h5,h6,h7⟩ | ⟨h4,h5,h6,h7⟩ | ⟨h4,h5,h7⟩
  ·rw[h4] at hc
   rw[←Option.some.inj (h5.symm.trans h2)]
   unfold y8
   simp! only[g19,hc]
   rfl
  ·rw[h4] at hc
   rw[←Option.some.inj (h7.symm.trans h2)]
   obtain⟨tk,tw⟩:=t
   dsimp only at h5
   subst h5
   have hnn:=hn1 tw (xm h1).1
   have hin':zd .in_ (.str tw) (.ref G.length) (G++[O.lst (acc.map .str)])=some false:=(kq (ym G _)).trans (congrArg some h6)
   unfold y8
   simp! only[g19,hc,g38,hnn,hin']
  ·exact n1 (h7.symm.trans h2)
  ·exact n1 (h7.symm.trans h2)
 ·cases hd:toks.drop i with
  | nil=>
   rw[qa hd] at hc
   obtain⟨k,J,d,l,t,q1,q2,q3,q4⟩:=(hn2 (λ w hw=>n1 ((List.getElem?_eq_none (List.drop_eq_nil_iff.mp hd)).symm.trans hw))).up
   refine⟨k,J,d,l,t,?_,q2,q3,q4⟩
   unfold y8
   simp! only[g19,hc,g38,q1]
  | cons t r=>
   have h2:=h1 t r hd
   rw[xc hd [42]] at hc
   rcases Xn t acc with ⟨h4,h5⟩ | ⟨h4,h5,h6,h7⟩ | ⟨h4,h5,h6,h7⟩ | ⟨h4,h5,h7⟩
   ·exact n2 (h5.symm.trans h2)
   ·exact n2 (h7.symm.trans h2)
   ·rw[h4] at hc
    obtain⟨tk,tw⟩:=t
    dsimp only at h5
    subst h5
    have hnn:=hn1 tw (xm hd).1
    have hin':zd .in_ (.str tw) (.ref G.length) (G++[O.lst (acc.map .str)])=some true:=(kq (ym G _)).trans (congrArg some h6)
    refine⟨3,[O.lst (acc.map .str),.att [(txt,.str msgD)]],(G++[O.lst (acc.map .str)]).length,[(txt,.str msgD)],msgD,?_,.inr rfl,?_,rfl⟩
    ·unfold y8
     simp! only[g19,hc,g38,hnn,hin',xN,xW,xV]
     rw[List.append_assoc]
     rfl
    ·exact(List.append_assoc G [O.lst (acc.map .str)] [_]) ▸ ym _ _
   ·rw[h4] at hc
    obtain⟨k,J,d,l,t',q1,q2,q3,q4⟩:=(hn2 (λ w hw=>h5 (congrArg Prod.fst (Option.some.inj ((xm hd).1.symm.trans hw))))).up
    refine⟨k,J,d,l,t',?_,q2,q3,q4⟩
    unfold y8
    simp! only[g19,hc,g38,q1]
theorem z0m(B:S)(hB:B=y8):∀ (f i:Nat) (acc:List (List Nat)) (x:Option V) (m:Nat),(toks.drop i).length<f->f<=m->acc.length+f<2000->
  ((Ex2 λ ds r=>A4 (pdF f (toks.drop i) acc=some (ds,r)) (r.length<=toks.length) (toks.drop (toks.length-r.length)=r) (zZ (cT G_ (Ev (n+3)) (.cst (.bool true))) (evS G_ (Ev (n+3)) 2000 B) m [some (.ref j),some (.int (i:Int)),some (.ref G.length),x] (G++[.lst (acc.map .str)])=.ret (.tup [.ref G.length,.int ((toks.length-r.length:Nat):Int)]) (G++[.lst (ds.map .str)])))) \/
  (pdF f (toks.drop i) acc=none/\RaisesO (zZ (cT G_ (Ev (n+3)) (.cst (.bool true))) (evS G_ (Ev (n+3)) 2000 B) m [some (.ref j),some (.int (i:Int)),some (.ref G.length),x] (G++[.lst (acc.map .str)])) G):=by
 subst hB
 intro f
 induction f with
 | zero=>exact λ _ _ _ _ h1=>absurd h1 (Nat.not_lt_zero _)
 | succ f ih=>
  intro i acc x m h1 h2 h3
  obtain⟨m,rfl⟩:=Nat.exists_eq_succ_of_ne_zero (Nat.ne_zero_of_lt h2)
  have hl:=Nat.lt_of_le_of_lt (Nat.le_add_right _ _) h3
  rw[Yl (H':=G++[.lst (acc.map .str)]) (by simp! only[])]
  obtain⟨b1,b2⟩:=JL (n:=n) hj hT (i:=i) (acc:=acc) (x:=x) hl
  have bad:(∀ t r,toks.drop i=t::r->yf t acc=none)->pdF (f+1) (toks.drop i) acc=none/\RaisesO ((evS G_ (Ev (n+3)) 2000 y8 [some (.ref j),some (.int (i:Int)),some (.ref G.length),x] (G++[.lst (acc.map .str)])).turn (zZ (cT G_ (Ev (n+3)) (.cst (.bool true))) (evS G_ (Ev (n+3)) 2000 y8) m)) G:=λ h=>by
   refine⟨?_,?_⟩
   ·cases hd:toks.drop i with
    | nil=>rfl
    | cons t r=>exact QX (h t r hd)
   ·obtain⟨k,J,d,l,t,q1,q2,q3,q4⟩:=b2 h
    exact⟨k,J,d,l,t,by rw[q1];rfl,q2,q3,q4⟩
  cases hd:toks.drop i with
  | nil=>exact .inr (hd ▸ bad (λ t r h=>by rw[hd] at h;cases h))
  | cons t r=>
   cases hi:yf t acc with
   | none=>
    refine .inr (hd ▸ bad (λ t' r' h=>?_))
    rw[hd] at h
    cases h
    exact hi
   | some w=>
    rw[b1 t r w hd hi]
    obtain⟨_,hr⟩:=xm hd
    obtain⟨c1,c2,c3⟩:=Jy (n:=n) hj hT (i:=i+1) (acc:=acc) (w:=w) hl
    rw[hr] at c1 c2
    rw[vM hi]
    cases r with
    | nil=>
     refine .inr ⟨rfl,?_⟩
     obtain⟨k,J,d,l,t,q1,q2,q3,q4⟩:=c3 (qa hr _) (qa hr _)
     exact⟨k,J,d,l,t,by rw[q1];rfl,q2,q3,q4⟩
    | cons u r'=>
     dsimp only
     obtain⟨_,hr'⟩:=xm hr
     have hlen:(toks.drop i).length=r'.length+2:=by rw[hd];rfl
     cases h44:zr u [44] with
     | true=>
      rw[c1 u r' rfl h44,turn_next]
      have:=ih (i+1+1) (acc++[w]) (some (.str w)) m (by rw[hr'];exact Nat.lt_of_succ_lt_succ (Nat.lt_of_succ_lt (Nat.lt_of_le_of_lt (Nat.le_of_eq hlen.symm) h1))) (Nat.le_of_succ_le_succ h2) (lx2 h3)
      rw[hr'] at this
      exact this
     | false=>
      cases h41:zr u [41] with
      | true=>
       rw[c2 u r' rfl h44 h41]
       have hi2:i+1+1+r'.length=toks.length:=by
        rw[←hr',List.length_drop];exact Nat.add_sub_cancel' (gs_ (xm hr).1).1
       have hi3:toks.length-r'.length=i+1+1:=by rw[←hi2,Nat.add_sub_cancel]
       exact .inl ⟨acc++[w],r',rfl,hi2 ▸ Nat.le_add_left _ _,by rw[hi3];exact hr',by rw[hi3];rfl⟩
      | false=>
       refine .inr ⟨rfl,?_⟩
       obtain⟨k,J,d,l,t,q1,q2,q3,q4⟩:=c3 ((xc hr _).trans h44) ((xc hr _).trans h41)
       exact⟨k,J,d,l,t,by rw[q1];rfl,q2,q3,q4⟩
end
noncomputable def dlF(toks:List Tk)(i:Nat):Option (List (List Nat)×Nat):=
 if zB toks i [40] then(if zB toks (i+1) [41] then some ([],i+2) else(pdF 1500 (toks.drop (i+1)) []).map λ p=>(p.1,toks.length-p.2.length)) else some ([],i)
theorem jl{n:Nat}{G:Hp}{tv:List V}{toks:List Tk}(hj:G[j]?=some (.lst tv))(hT:IsToks tv toks)(hn:toks.length<1000) :
  (∃ ds e,dlF toks i=some (ds,e)/\Ev (n+4) 36 [.ref j,.int (i:Int)] G=.ok (.tup [.ref G.length,.int ((e:Nat):Int)]) (G++[.lst (ds.map .str)]))\/(dlF toks i=none/\RaisesR (Ev (n+4) 36 [.ref j,.int (i:Int)] G) G):=by
 have hj':(G++[O.lst []])[j]?=some (.lst tv):=vJ hj
 have h40:Ev (n+3) 15 [.ref j,.int (i:Int),.str [40]] (G++[O.lst []])=.ok (.bool (zB toks i [40])) _:=we hj' hT
 have h41:Ev (n+3) 15 [.ref j,.int ((i+1:Nat):Int),.str [41]] (G++[O.lst []])=.ok (.bool (zB toks (i+1) [41])) _:=we hj' hT
 have hcast:((i:Int)+1)=((i+1:Nat):Int):=rfl
 rw[za (k:=36) (b:=yl) (L:=[some (.ref j),some (.int (i:Int)),none,none]) rfl rfl rfl rfl rfl rfl]
 have hloop:=z0m (n:=n) hj hT y8 rfl 1500 (i+1) [] none 2000 (Nat.lt_trans (dlt hn) (by decide)) (by decide) (by decide)
 unfold dlF
 cases b40:zB toks i [40] with
 | false=>
  rw[b40] at h40
  refine .inl ⟨[],i,rfl,?_⟩
  unfold yl
  simp! only[g19,h40,Bool.not_false]
  rfl
 | true=>
  rw[b40] at h40
  cases b41:zB toks (i+1) [41] with
  | true=>
   rw[b41] at h41
   refine .inl ⟨[],i+2,rfl,?_⟩
   unfold yl
   simp! only[g19,h40,Bool.not_true,hcast,h41]
   rfl
  | false=>
   rw[b41] at h41
   unfold yl
   simp! only[g19,h40,Bool.not_true,hcast,h41]
   rcases hloop with ⟨ds,r,q1,q2,q3,q4⟩ | ⟨q1,k,J,d,l,t,q2,q3,q4,q5⟩
   ·refine .inl ⟨ds,toks.length-r.length,by rw[q1];rfl,?_⟩
    have q4':zZ _ _ 2000 [some (.ref j),some (.int ((i+1:Nat):Int)),some (.ref G.length),none] (G++[O.lst []])=_:=q4
    rw[q4']
    rfl
   ·refine .inr ⟨by rw[q1];rfl,k,J,d,l,t,?_,q3,q4,q5⟩
    have q2':zZ _ _ 2000 [some (.ref j),some (.int ((i+1:Nat):Int)),some (.ref G.length),none] (G++[O.lst []])=_:=q2
    rw[q2']
    rfl
noncomputable def nlT(toks:List Tk):Option (List Nat×List (List Nat)):=match toks with
 | (0,w)::r=>(match dlF ((0,w)::r) 1 with
  | some (ds,e)=>if e<r.length+1 then none else some (w,ds)
  | none=>none)
 | _=>none
noncomputable def nlF(s:List Nat):Option (List Nat×List (List Nat)):=(wa s.length s).bind nlT
theorem j8(w:List Nat)(r:List Tk):nlT ((0,w)::r)=match dlF ((0,w)::r) 1 with
  | some (ds,e)=>if e<r.length+1 then none else some (w,ds)
  | none=>none:=rfl
theorem Q4{w:List Nat}{r:List Tk}(h:k≠0):nlT ((k,w)::r)=none:=by
 cases k with
 | zero=>exact absurd rfl h
 | succ k=>rfl
theorem z0C{n:Nat}:∀ {s:List Nat} {toks:List Tk},wa n s=some toks->toks.length<=s.length:=by
 induction n with
 | zero=>
  intro s toks h
  cases s with
  | nil=>rw[Za _ h];exact Nat.le_refl _
  | cons c r=>exact n1 h
 | succ n ih=>
  intro s toks h
  cases s with
  | nil=>rw[Za _ h];exact Nat.le_refl _
  | cons c r=>
   obtain⟨t,k,q,h1,h2,rfl⟩:=QG n c r toks h
   exact Nat.succ_le_succ (Nat.le_trans (ih h2) (List.length_drop ▸ Nat.sub_le_sub_left (vU h1).2.1 _))
theorem RaisesR.upJ{r:R α}{G J:Hp}(h:RaisesR r (G++J)):RaisesR r G:=by
 obtain⟨k,J',d,l,t,h1,h2,h3,h4⟩:=h
 exact⟨k,J++J',d,l,t,h1.trans (congrArg (R.exc k d) (List.append_assoc G J J')),h2,(congrArg (λ x:Hp=>x[d]?) (List.append_assoc G J J')).symm.trans h3,h4⟩
theorem yE{n:Nat}(hn:s.length<600)(hs:∀ c∈s,tkC c=true) :
  (∃ w ds tv,nlF s=some (w,ds)/\Ev (n+5) 37 [.str s] H=.ok (.tup [.str w,.ref (H.length+1)]) (H++[.lst tv,.lst (ds.map .str)]))\/(nlF s=none/\RaisesR (Ev (n+5) 37 [.str s] H) H):=by
 rw[za (k:=37) (b:=zW) (L:=[some (.str s),none,none,none,none]) rfl rfl rfl rfl rfl rfl]
 unfold nlF zW
 rcases Y5 (n:=n) (H:=H) hn hs with ⟨toks,q1,q2⟩ | ⟨q1,k,J,d,l,t,q2,q3,q4,q5⟩
 ·rw[q1,Option.bind_some]
  have hT:IsToks (yI 0 toks) toks:=V3 q1
  have hj:(H++[O.lst (yI 0 toks)])[H.length]?=some (.lst (yI 0 toks)):=ym _ _
  have hlen:=z0C q1
  obtain⟨n1,n2⟩:=vK (n:=n+2) hj hT (i:=0)
  have bad:(∀ w,toks[0]?≠some (0,w))->RaisesR (yt (⟨"named_list",1,["row","tokens","name","at","dummies"],false,zW⟩:XFn) H (evS G_ (Ev (n+4)) 2000 zW [some (.str s),none,none,none,none] H)) H:=λ h=>by
   obtain⟨k,J,d,l,t,r1,r2,r3,r4⟩:=(n2 h).up
   have r1':Ev (n+4) 17 [.ref H.length,.int 0] (H++[O.lst (yI 0 toks)])=_:=r1
   refine⟨k,J,d,l,t,?_,r2,r3,r4⟩
   unfold zW
   simp! only[g51,q2,g38,r1']
   rfl
  cases toks with
  | nil=>exact .inr ⟨rfl,bad λ _ h=>Mine.n1 h⟩
  | cons t r=>
   obtain⟨tk,w⟩:=t
   by_cases htk:tk=0
   ·subst htk
    have n1':Ev (n+4) 17 [.ref H.length,.int 0] (H++[O.lst (yI 0 ((0,w)::r))])=.ok (.tup [.str w,.int 1]) _:=n1 w rfl
    rw[j8]
    rcases jl (n:=n) (i:=1) hj hT (Nat.lt_of_le_of_lt hlen (Nat.lt_trans hn (by decide))) with ⟨ds,e,d1,d2⟩ | ⟨d1,d2⟩
    ·rw[d1]
     dsimp only
     have d2':Ev (n+4) 36 [.ref H.length,.int 1] (H++[O.lst (yI 0 ((0,w)::r))])=_:=d2
     have hj2:((H++[O.lst (yI 0 ((0,w)::r))])++[O.lst (ds.map .str)])[H.length]?=some (.lst (yI 0 ((0,w)::r))):=vJ hj
     obtain⟨e1,e2⟩:=Yx (n:=n+3) hj2 hT (i:=e)
     by_cases hlt:e<r.length+1
     ·refine .inr ⟨by rw[if_pos hlt],?_⟩
      obtain⟨k,J,d,l,t,r1,r2,r3,r4⟩:=((e2 hlt).up).up
      refine⟨k,J,d,l,t,?_,r2,r3,r4⟩
      simp! only[g51,q2,g38,n1',g50,d2',g49,r1]
      rfl
     ·refine .inl ⟨w,ds,yI 0 ((0,w)::r),by rw[if_neg hlt],?_⟩
      have e3:=e1 (Nat.le_of_not_lt hlt)
      simp! only[g51,q2,g38,n1',g50,d2',g49,e3]
      show R.ok (V.tup [.str w,.ref (H++[_]).length]) ((H++[_])++[_])=_
      rw[List.length_append,List.append_assoc];rfl
    ·rw[d1]
     refine .inr ⟨rfl,?_⟩
     obtain⟨k,J,d,l,t,r1,r2,r3,r4⟩:=d2.up
     have r1':Ev (n+4) 36 [.ref H.length,.int 1] (H++[O.lst (yI 0 ((0,w)::r))])=_:=r1
     refine⟨k,J,d,l,t,?_,r2,r3,r4⟩
     simp! only[g51,q2,g38,n1',g50,r1']
     rfl
   ·refine .inr ⟨Q4 htk,bad (λ w' h=>?_)⟩
    ·exact htk (congrArg Prod.fst (Option.some.inj h))
 ·rw[q1,Option.bind_none]
  refine .inr ⟨rfl,k,J,d,l,t,?_,q3,q4,q5⟩
  simp! only[g51,q2]
  rfl
theorem zX(H l:Hp)(k:Nat):(H++l)[H.length+k]?=l[k]?:=by
 rw[List.getElem?_append_right (Nat.le_add_right _ _),Nat.add_sub_cancel_left]
theorem zg(H l:Hp):(H++l)[H.length]?=l[0]?:=zX H l 0
theorem Ye(H l:Hp)(k:Nat)(o:O):(H++l).set (H.length+k) o=H++l.set k o:=by
 rw[List.set_append_right _ _ (Nat.le_add_right _ _),Nat.add_sub_cancel_left]
theorem Ys(H l:Hp)(o:O):(H++l).set H.length o=H++l.set 0 o:=Ye H l 0 o
theorem Kz{G:Nat->Option V}{F:Fn}{W:Nat}(o:E)(n:List Nat)(e:E)(L:Lc)(H:Hp):evS G F W (.asgA o n e) L H=(evE G F e L H).out λ v H=>(evE G F o L H).out λ x H=>match x with
  | .ref a=>match H[a]? with
   | some (.inst _ d)=>match H[d]? with
    | some (.att l)=>if decide (l.length<100) then .next L (H.set d (.att (jr n v l))) else .bad
    | _=>.bad
   | _=>.bad
  | _=>.bad:=rfl
noncomputable def RAW(N:Nat)(k nm:List Nat)(dl res:V)(body:List V):Hp:=[.att [(@"kind",.str k),(@"name",.str nm),(@"dummies",dl),(@"result",res),(@"specs",.ref (N+2)),(@"stfuncs",.ref (N+3)),(@"body",.ref (N+4)),(@"formats",.ref (N+5)),(@"labels",.ref (N+6)),(@"entries",.ref (N+7))],.inst 38 N,.lst [],.lst [],.lst body,.dct [],.dct [],.dct []]
section
variable {G:Nat->Option V}{F:Fn}{W:Nat}{L:Lc}{H T T':Hp}{c:Nat}{l:List (List Nat×V)}{nm:List Nat}{e:E}{r:S}{v:V}{o:Out}
theorem as_(h:evE G F e L (H++.att l::.inst c H.length::T)=.ok v (H++.att l::.inst c H.length::T'))(hl:L[0]?=some (some (.ref (H.length+1))))(hn:decide (l.length<100)=true)(k:evS G F W r L (H++.att (jr nm v l)::.inst c H.length::T')=o):evS G F W (.cons (.asgA (.loc 0) nm e) r) L (H++.att l::.inst c H.length::T)=o:=by
 rw[x_cons,Kz,h,out_ok,e_loc,hl,locR_s,out_ok]
 dsimp only
 rw[zX,List.getElem?_cons_succ,List.getElem?_cons_zero]
 dsimp only
 rw[zg,List.getElem?_cons_zero]
 dsimp only
 rw[hn,Ys]
 exact k
theorem z1e{p:Nat}{s:String}{q:List String}{b:S}(h:evS G F W b L H=.next L H'):yt ⟨s,p,q,false,b⟩ H (evS G F W b L H)=.ok .none H':=by rw[h];rfl
theorem as_l:evE G F (.lst .nil) L (H++T)=R.ok (V.ref (H.length+T.length)) (H++(T++[.lst []])):=by
 show R.ok (V.ref (H++T).length) ((H++T)++[.lst []])=_
 rw[List.length_append,List.append_assoc]
theorem as_d:evE G F (.dct .nil .nil) L (H++T)=R.ok (V.ref (H.length+T.length)) (H++(T++[.dct []])):=by
 show R.ok (V.ref (H++T).length) ((H++T)++[.dct []])=_
 rw[List.length_append,List.append_assoc]
end
theorem XX{n:Nat}{k:List Nat}{dl res:V}:Ev (n+1) 38 [.ref (H.length+1),.str k,.str nm,dl,res] (H++[.att [],.inst 38 H.length])=.ok .none (H++RAW H.length k nm dl res []):=by
 rw[za (k:=38) (b:=jE) (L:=[some (.ref (H.length+1)),some (.str k),some (.str nm),some dl,some res]) rfl rfl rfl rfl rfl rfl]
 refine z1e ?_
 iterate 4 refine as_ rfl rfl rfl ?_
 iterate 3 refine as_ as_l rfl rfl ?_
 iterate 3 refine as_ as_d rfl rfl ?_
 rfl
noncomputable def MAK(N:Nat)(un pv sv:V)(st:Int):Hp:=[.att [(@"unit",un),(@"parsers",pv),(@"specs",sv),(@"stage",.int st),(@"nest",.ref (N+2)),(@"labels",.ref (N+3)),(@"arrays",.ref (N+4))],.inst 39 N,.lst [],.dct [],.dct []]
theorem ZR{n:Nat}{un pv sv:V}:Ev (n+1) 39 [.ref (H.length+1),un,pv,sv] (H++[.att [],.inst 39 H.length])=.ok .none (H++MAK H.length un pv sv 0):=by
 rw[za (k:=39) (b:=qF) (L:=[some (.ref (H.length+1)),some un,some pv,some sv]) rfl rfl rfl rfl rfl rfl]
 refine z1e ?_
 iterate 4 refine as_ rfl rfl rfl ?_
 refine as_ as_l rfl rfl ?_
 iterate 2 refine as_ as_d rfl rfl ?_
 rfl
theorem xE{n:Nat}{k:List Nat}{dl res:V}:wv (Ev (n+1)) (.cls 38) [.str k,.str nm,dl,res] H=.ok (.ref (H.length+1)) (H++RAW H.length k nm dl res []):=by
 show R.bind (Ev (n+1) 38 _ _) _=_
 rw[XX];rfl
theorem VG{n:Nat}{un pv sv:V}:wv (Ev (n+1)) (.cls 39) [un,pv,sv] H=.ok (.ref (H.length+1)) (H++MAK H.length un pv sv 0):=by
 show R.bind (Ev (n+1) 39 _ _) _=_
 rw[ZR];rfl
theorem xh(t:List Nat)(H J:Hp):RaisesR (R.exc 3 (H++J).length ((H++J)++[.att [(txt,.str t)]]):R V) H:=(wK t (H++J)).upJ
noncomputable def KPR:List Nat:=@"program"
noncomputable def KSU:List Nat:=@"subroutine"
noncomputable def KBD:List Nat:=@"blockdata"
noncomputable def KBL:List Nat:=@"block"
noncomputable def BLK:List Nat:=@"$BLOCK"
theorem g55:G_ 55=some (.cls 38):=rfl
theorem g56:G_ 56=some (.fn 40):=rfl
theorem g57:G_ 57=some (.fn 37):=rfl
theorem g58:G_ 58=some (.str BLK):=rfl
noncomputable def W8(H:Hp)(r:R V)(k nm:List Nat)(ds:List (List Nat))(res:V):Prop:=∃ J d,r=.ok (.ref ((H++J).length+1)) ((H++J)++RAW (H++J).length k nm (.ref d) res [])/\(H++J)[d]?=some (.lst (ds.map .str))/\H.length<=d
section
variable {n:Nat}{s:List Nat}{H:Hp}
theorem ZT(hn:s.length<600)(hs:∀ c∈s.drop 7,tkC c=true)(hl:7<=s.length) :
  (∃ w ds,nlF (s.drop 7)=some (w,ds)/\s.length=7+w.length/\W8 H (Ev (n+6) 41 [.str KPR,.str s] H) KPR w [] .none)\/((∀ w ds,nlF (s.drop 7)=some (w,ds)->s.length≠7+w.length)/\RaisesR (Ev (n+6) 41 [.str KPR,.str s] H) H):=by
 rw[za (k:=41) (b:=zq) (L:=[some (.str KPR),some (.str s),none,none,none]) rfl rfl rfl rfl rfl rfl]
 have hd:s.drop (adj s.length 7)=s.drop 7:=zL s 7
 have hnl:=yE (n:=n) (s:=s.drop 7) (H:=H) (dlt hn) hs
 unfold zq KPR
 rcases hnl with ⟨w,ds,tv,q1,q2⟩ | ⟨q1,k,J,d,l,t,q2,q3,q4,q5⟩
 ·by_cases hw:s.length=7+w.length
  ·refine .inl ⟨w,ds,q1,hw,[.lst tv,.lst (ds.map .str),.lst []],H.length+2,?_,by rw[zX];rfl,Nat.le_add_right _ _⟩
   have e:(((s.length:Nat):Int)==(7:Int)+((w.length:Nat):Int))=true:=(ieq _ (7+w.length)).trans (beq_iff_eq.mpr hw)
   simp! only[beq_self_eq_true,g57,hd,q2,e,Bool.not_true,g55,xE,List.append_assoc,List.cons_append,List.nil_append,List.length_append]
   rfl
  ·refine .inr ⟨λ w' ds' h=>by cases Option.some.inj (q1.symm.trans h);exact hw,?_⟩
   have e:(((s.length:Nat):Int)==(7:Int)+((w.length:Nat):Int))=false:=(ieq _ (7+w.length)).trans (bn_ hw)
   simp! only[beq_self_eq_true,g57,hd,q2,e,Bool.not_false,xN,xW,xV]
   exact xh _ H _
 ·refine .inr ⟨λ w ds h=>n1 (q1.symm.trans h),k,J,d,l,t,?_,q3,q4,q5⟩
  simp! only[beq_self_eq_true,g57,hd,q2]
  rfl
theorem Kl(hn:s.length<600)(hs:∀ c∈s.drop 10,tkC c=true) :
  (∃ w ds,nlF (s.drop 10)=some (w,ds)/\W8 H (Ev (n+6) 41 [.str KSU,.str s] H) KSU w ds .none)\/(nlF (s.drop 10)=none/\RaisesR (Ev (n+6) 41 [.str KSU,.str s] H) H):=by
 rw[za (k:=41) (b:=zq) (L:=[some (.str KSU),some (.str s),none,none,none]) rfl rfl rfl rfl rfl rfl]
 have hd:s.drop (adj s.length 10)=s.drop 10:=zL s 10
 have hnl:=yE (n:=n) (s:=s.drop 10) (H:=H) (dlt hn) hs
 have e1:(@"subroutine"==(@"program":List Nat))=false:=rfl
 unfold zq KSU
 rcases hnl with ⟨w,ds,tv,q1,q2⟩ | ⟨q1,k,J,d,l,t,q2,q3,q4,q5⟩
 ·refine .inl ⟨w,ds,q1,[.lst tv,.lst (ds.map .str)],H.length+1,?_,by rw[zX];rfl,Nat.le_add_right _ _⟩
  simp! only[e1,beq_self_eq_true,g57,hd,q2,g55,xE]
  rfl
 ·refine .inr ⟨q1,k,J,d,l,t,?_,q3,q4,q5⟩
  simp! only[e1,beq_self_eq_true,g57,hd,q2]
  rfl
theorem X4(hl:s.length=9):W8 H (Ev (n+6) 41 [.str KBD,.str s] H) KBL BLK [] .none:=by
 rw[za (k:=41) (b:=zq) (L:=[some (.str KBD),some (.str s),none,none,none]) rfl rfl rfl rfl rfl rfl]
 have e1:(@"blockdata"==(@"program":List Nat))=false:=rfl
 have e2:(@"blockdata"==(@"subroutine":List Nat))=false:=rfl
 have e3:decide ((9:Int)<((s.length:Nat):Int))=false:=nlt (Nat.le_of_eq hl)
 unfold zq KBD
 refine⟨[.lst []],H.length,?_,by rw[zg];rfl,Nat.le_refl _⟩
 simp! only[e1,e2,e3,beq_self_eq_true,g58,g55,xE]
 rfl
theorem W2(hn:s.length<600)(hs:∀ c∈s.drop 9,tkC c=true)(hl:9<s.length) :
  (∃ w ds,nlF (s.drop 9)=some (w,ds)/\s.length=9+w.length/\W8 H (Ev (n+6) 41 [.str KBD,.str s] H) KBL w [] .none)\/((∀ w ds,nlF (s.drop 9)=some (w,ds)->s.length≠9+w.length)/\RaisesR (Ev (n+6) 41 [.str KBD,.str s] H) H):=by
 rw[za (k:=41) (b:=zq) (L:=[some (.str KBD),some (.str s),none,none,none]) rfl rfl rfl rfl rfl rfl]
 have hd:s.drop (adj s.length 9)=s.drop 9:=zL s 9
 have hnl:=yE (n:=n) (s:=s.drop 9) (H:=H) (dlt hn) hs
 have e1:(@"blockdata"==(@"program":List Nat))=false:=rfl
 have e2:(@"blockdata"==(@"subroutine":List Nat))=false:=rfl
 have e3:decide ((9:Int)<((s.length:Nat):Int))=true:=ylt hl
 unfold zq KBD
 rcases hnl with ⟨w,ds,tv,q1,q2⟩ | ⟨q1,k,J,d,l,t,q2,q3,q4,q5⟩
 ·by_cases hw:s.length=9+w.length
  ·refine .inl ⟨w,ds,q1,hw,[.lst tv,.lst (ds.map .str),.lst []],H.length+2,?_,by rw[zX];rfl,Nat.le_add_right _ _⟩
   have e:(((s.length:Nat):Int)==(9:Int)+((w.length:Nat):Int))=true:=(ieq _ (9+w.length)).trans (beq_iff_eq.mpr hw)
   simp! only[e1,e2,e3,beq_self_eq_true,g58,g57,hd,q2,e,Bool.not_true,g55,xE,List.append_assoc,List.cons_append,List.nil_append,List.length_append]
   rfl
  ·refine .inr ⟨λ w' ds' h=>by cases Option.some.inj (q1.symm.trans h);exact hw,?_⟩
   have e:(((s.length:Nat):Int)==(9:Int)+((w.length:Nat):Int))=false:=(ieq _ (9+w.length)).trans (bn_ hw)
   simp! only[e1,e2,e3,beq_self_eq_true,g58,g57,hd,q2,e,Bool.not_false,xN,xW,xV]
   exact xh _ H _
 ·refine .inr ⟨λ w ds h=>n1 (q1.symm.trans h),k,J,d,l,t,?_,q3,q4,q5⟩
  simp! only[e1,e2,e3,beq_self_eq_true,g58,g57,hd,q2]
  rfl
theorem QU{a:Nat}(hn:s.length<600)(ha:z8 FUN s 0=(a:Int))(hs:∀ c∈s.drop (a+8),tkC c=true){res:Option V}(hr:∀ G,match res with | some r=>Ev (n+5) 40 [.str (s.take a)] G=.ok r G | none=>∃ t,Ev (n+5) 40 [.str (s.take a)] G=.exc 3 G.length (G++[.att [(txt,.str t)]])\/Ev (n+5) 40 [.str (s.take a)] G=.exc 2 G.length (G++[.att [(txt,.str t),(@"at",.int 0)]])) :
  ((Ex3 λ w ds r=>A5 (nlF (s.drop (a+8))=some (w,ds)) (s.length≠a+8+w.length) (ds.contains [42]=false) (res=some r) (W8 H (Ev (n+6) 41 [.str yg,.str s] H) yg w ds r))) \/
  ((∀ w ds,nlF (s.drop (a+8))=some (w,ds)->s.length=a+8+w.length\/ds.contains [42]=true\/res=none)/\RaisesR (Ev (n+6) 41 [.str yg,.str s] H) H):=by
 rw[za (k:=41) (b:=zq) (L:=[some (.str yg),some (.str s),none,none,none]) rfl rfl rfl rfl rfl rfl]
 have hd:s.drop (adj s.length (((a:Nat):Int)+8))=s.drop (a+8):=zL s (a+8)
 have ht:s.take (adj s.length ((a:Nat):Int))=s.take a:=zp s a
 have hnl:=yE (n:=n) (s:=s.drop (a+8)) (H:=H) (dlt hn) hs
 have e1:(@"function"==(@"program":List Nat))=false:=rfl
 have e2:(@"function"==(@"subroutine":List Nat))=false:=rfl
 have e3:(@"function"==(@"blockdata":List Nat))=false:=rfl
 have ha':z8 @"FUNCTION" s 0=(a:Int):=ha
 unfold zq yg
 rcases hnl with ⟨w,ds,tv,q1,q2⟩ | ⟨q1,k,J,d,l,t,q2,q3,q4,q5⟩
 ·by_cases hw:s.length=a+8+w.length
  ·refine .inr ⟨λ w' ds' h=>by rw[q1] at h;cases h;exact .inl hw,?_⟩
   have e:(((s.length:Nat):Int)==((a:Nat):Int)+(8:Int)+((w.length:Nat):Int))=true:=(ieq _ (a+8+w.length)).trans (beq_iff_eq.mpr hw)
   simp! only[e1,e2,e3,ha',g57,hd,q2,e,xN,xW,xV]
   exact xh _ H _
  ·have e:(((s.length:Nat):Int)==((a:Nat):Int)+(8:Int)+((w.length:Nat):Int))=false:=(ieq _ (a+8+w.length)).trans (bn_ hw)
   have hin:zd .in_ (.str [42]) (.ref (H.length+1)) (H++[.lst tv,.lst (ds.map .str)])=some (ds.contains [42]):=kq (by rw[zX];rfl)
   cases hst:ds.contains [42] with
   | true=>
    rw[hst] at hin
    refine .inr ⟨λ w' ds' h=>by rw[q1] at h;cases h;exact .inr (.inl hst),?_⟩
    simp! only[e1,e2,e3,ha',g57,hd,q2,e,hin,xN,xW,xV]
    exact xh _ H _
   | false=>
    rw[hst] at hin
    have hr':=hr (H++[.lst tv,.lst (ds.map .str)])
    cases res with
    | some r=>
     dsimp only at hr'
     refine .inl ⟨w,ds,r,q1,hw,hst,rfl,[.lst tv,.lst (ds.map .str)],H.length+1,?_,by rw[zX];rfl,Nat.le_add_right _ _⟩
     simp! only[e1,e2,e3,ha',g57,hd,q2,e,hin,g55,g56,ht,hr',xE]
     rfl
    | none=>
     dsimp only at hr'
     refine .inr ⟨λ w' ds' h=>.inr (.inr rfl),?_⟩
     obtain⟨t,hr' | hr'⟩:=hr'
     ·simp! only[e1,e2,e3,ha',g57,hd,q2,e,hin,g55,g56,ht,hr']
      exact xh _ H _
     ·simp! only[e1,e2,e3,ha',g57,hd,q2,e,hin,g55,g56,ht,hr']
      exact⟨2,[.lst tv,.lst (ds.map .str),.att [(txt,.str t),(@"at",.int 0)]],H.length+2,_,t,by show R.exc 2 (H++[_,_]).length ((H++[_,_])++[_])=_;rw[List.length_append,List.append_assoc];rfl,.inl rfl,by rw[zX];rfl,rfl⟩
 ·refine .inr ⟨λ w ds h=>n1 (q1.symm.trans h),k,J,d,l,t,?_,q3,q4,q5⟩
  simp! only[e1,e2,e3,ha',g57,hd,q2]
  rfl
end
theorem zV{ws:List (List Nat)}{x:List Nat}:zd .in_ (.str x) (.tup (ws.map .str)) H=some (ws.contains x):=by
 show inV H (.str x) (.tup (ws.map .str))=_
 rw[←vQ]
 show inG _ _ _=_
 unfold inG
 rw[ye,wO];rfl
theorem VC{ws:List (List Nat)}{x:List Nat}:zd .notin (.str x) (.tup (ws.map .str)) H=some (!ws.contains x):=by
 have:=zV (H:=H) (ws:=ws) (x:=x)
 show(inV H (.str x) (.tup (ws.map .str))).map (!·)=_
 have h2:inV H (.str x) (.tup (ws.map .str))=some (ws.contains x):=this
 rw[h2];rfl
theorem qm{x:List Nat}(h:H[i]?=some (.dct l)):zd .notin (.str x) (.ref i) H=some (!(l.any λ p=>p.1==x)):=by
 show(inO H (.str x) H[i]?).map (!·)=_
 rw[h];rfl
noncomputable def HWS:List (List Nat):=[KPR,KSU,yg,KBD]
noncomputable def ze:List Nat:=@"end"
theorem g71:G_ 71=some (.tup (HWS.map .str)):=rfl
theorem g70:G_ 70=some (.fn 42):=rfl
theorem g73:G_ 73=some (.fn 49):=rfl
theorem g74:G_ 74=some (.cls 39):=rfl
theorem g75:G_ 75=some (.str @"$MAIN"):=rfl
theorem g76:G_ 76=some (.fn 41):=rfl
theorem g77:G_ 77=some (.fn 50):=rfl
theorem g78:G_ 78=some (.fn 13):=rfl
theorem g79:G_ 79=some (.fn 51):=rfl
theorem g80:G_ 80=some (.fn 4):=rfl
theorem g66:G_ 66=some (.fn 45):=rfl
theorem g68:G_ 68=some (.fn 44):=rfl
theorem g69:G_ 69=some (.fn 48):=rfl
theorem g62:G_ 62=some (.int 2):=rfl
theorem g59:G_ 59=some (.int 1):=rfl
theorem g61:G_ 61=some (.int 3):=rfl
theorem g60:G_ 60=some (.int 4):=rfl
theorem g65:G_ 65=some (.fn 46):=rfl
theorem g64:G_ 64=some (.fn 43):=rfl
theorem g63:G_ 63=some (.fn 47):=rfl
noncomputable def TYW:List (List Nat):=[@"integer",@"real",@"doubleprecision",@"complex",@"logical",@"character"]
noncomputable def SPW:List (List Nat):=TYW++[@"dimension",@"common",@"equivalence",@"external",@"intrinsic",@"save"]
noncomputable def BLW:List (List Nat):=TYW++[@"dimension",@"common",@"equivalence",@"save",@"implicit",@"parameter",@"data",ze]
theorem g67:G_ 67=some (.tup (SPW.map .str)):=rfl
theorem g72:G_ 72=some (.tup (BLW.map .str)):=rfl
noncomputable def UM(b:Nat)(k nm:List Nat)(dl res:V)(body:List V)(pv sv:V)(st:Int):Hp:=RAW b k nm dl res body++MAK (b+8) (.ref (b+1)) pv sv st
theorem J7(b:Nat)(k nm:List Nat)(dl res:V)(body:List V):(RAW b k nm dl res body).length=8:=rfl
theorem Z6{n:Nat}{B:Hp}{k:List Nat}{dl res:V}{pv sv:V}:wv (Ev (n+1)) (.cls 39) [.ref (B.length+1),pv,sv] (B++RAW B.length k nm dl res [])=.ok (.ref (B.length+9)) (B++UM B.length k nm dl res [] pv sv 0):=by
 rw[VG,List.length_append,J7,List.append_assoc]
 rfl
theorem zz{n:Nat}{m l:V}:Ev (n+1) 42 [m,.int 0,l] H=.ok .none H:=by
 rw[za (k:=42) (b:=xO) (L:=[some m,some (.int 0),some l]) rfl rfl rfl rfl rfl rfl]
 unfold xO
 simp! only[beq_self_eq_true]
 rfl
theorem K8{n:Nat}{w:List Nat}{res:V}{k:List Nat}{pv sv:V}(hw:HWS.contains w=true)(h:W8 H (Ev (n+6) 41 [.str w,.str s] H) k nm ds res) :
  ∃ J d,Ev (n+7) 50 [.int 1,.int 0,.str w,.str s,pv,sv] H=.ok (.ref ((H++J).length+9)) ((H++J)++UM (H++J).length k nm (.ref d) res [] pv sv 0)/\(H++J)[d]?=some (.lst (ds.map .str))/\H.length<=d:=by
 obtain⟨J,d,h1,h2,h3⟩:=h
 refine⟨J,d,?_,h2,h3⟩
 rw[za (k:=50) (b:=zK) (L:=[some (.int 1),some (.int 0),some (.str w),some (.str s),some pv,some sv,none]) rfl rfl rfl rfl rfl rfl]
 unfold zK
 simp! only[g71,zV,hw,g74,g76,h1,Z6,g70,zz]
 rfl
theorem Kw{n:Nat}{w:List Nat}{pv sv:V}(hw:HWS.contains w=true)(h:RaisesR (Ev (n+6) 41 [.str w,.str s] H) H):RaisesR (Ev (n+7) 50 [.int 1,.int 0,.str w,.str s,pv,sv] H) H:=by
 obtain⟨k,J,d,l,t,q2,q3,q4,q5⟩:=h
 refine⟨k,J,d,l,t,?_,q3,q4,q5⟩
 rw[za (k:=50) (b:=zK) (L:=[some (.int 1),some (.int 0),some (.str w),some (.str s),some pv,some sv,none]) rfl rfl rfl rfl rfl rfl]
 unfold zK
 simp! only[g71,zV,hw,g74,g76,q2]
 rfl
theorem yy{a:Nat}(h1:H[a]?=some (.inst k d))(h2:H[d]?=some (.att l)):zN H nm (.ref a)=l.lookup nm:=by
 show(match H[a]? with | some (.inst _ d)=>(match H[d]? with | some (.att l)=>l.lookup nm | _=>none) | _=>none)=_
 rw[h1]
 dsimp only
 rw[h2]
section
variable {n:Nat}{B:Hp}{k nm:List Nat}{dl res:V}{body:List V}{pv sv:V}{st:Int}{J:Hp}
noncomputable abbrev ZZ(B:Hp)(k nm:List Nat)(dl res:V)(body:List V)(pv sv:V)(st:Int)(J:Hp):Hp:=B++(UM B.length k nm dl res body pv sv st++J)
theorem yh(i:Nat):(ZZ B k nm dl res body pv sv st J)[B.length+i]?=(UM B.length k nm dl res body pv sv st++J)[i]?:=zX _ _ i
theorem yO:zN (ZZ B k nm dl res body pv sv st J) @"unit" (.ref (B.length+9))=some (.ref (B.length+1)):=yy ((yh 9).trans rfl) ((yh 8).trans rfl)
theorem z1z:zN (ZZ B k nm dl res body pv sv st J) @"parsers" (.ref (B.length+9))=some pv:=yy ((yh 9).trans rfl) ((yh 8).trans rfl)
theorem Ym:zN (ZZ B k nm dl res body pv sv st J) @"specs" (.ref (B.length+9))=some sv:=yy ((yh 9).trans rfl) ((yh 8).trans rfl)
theorem wM:zN (ZZ B k nm dl res body pv sv st J) @"stage" (.ref (B.length+9))=some (.int st):=yy ((yh 9).trans rfl) ((yh 8).trans rfl)
theorem z1U:zN (ZZ B k nm dl res body pv sv st J) @"nest" (.ref (B.length+9))=some (.ref (B.length+10)):=yy ((yh 9).trans rfl) ((yh 8).trans rfl)
theorem x8:zN (ZZ B k nm dl res body pv sv st J) @"kind" (.ref (B.length+1))=some (.str k):=yy ((yh 1).trans rfl) ((yh 0).trans rfl)
theorem KB:zN (ZZ B k nm dl res body pv sv st J) @"body" (.ref (B.length+1))=some (.ref (B.length+4)):=yy ((yh 1).trans rfl) ((yh 0).trans rfl)
theorem WY{F:Fn}{e:E}{v:Int}(he:evE G_ F e L (ZZ B k nm dl res body pv sv st J)=.ok (.int v) (ZZ B k nm dl res body pv sv st J))(hL:L[0]?=some (some (.ref (B.length+9)))):evS G_ F 2000 (.asgA (.loc 0) @"stage" e) L (ZZ B k nm dl res body pv sv st J)=.next L (ZZ B k nm dl res body pv sv v J):=by
 have h9:(ZZ B k nm dl res body pv sv st J)[B.length+9]?=some (.inst 39 (B.length+8)):=(yh 9).trans rfl
 have h8:(ZZ B k nm dl res body pv sv st J)[B.length+8]?=some (.att [(@"unit",.ref (B.length+1)),(@"parsers",pv),(@"specs",sv),(@"stage",.int st),(@"nest",.ref (B.length+8+2)),(@"labels",.ref (B.length+8+3)),(@"arrays",.ref (B.length+8+4))]):=(yh 8).trans rfl
 rw[Kz,he,out_ok]
 simp only[e_loc,locR_s,hL,out_ok,h9,h8,List.length_cons,List.length_nil,Nat.reduceAdd,Nat.reduceLT,decide_true,if_true,Ye]
 rfl
end
theorem YL{B:Hp}{k:List Nat}{dl res:V}{body:List V}{pv sv:V}{st:Int}{J:Hp}{t:List Nat}:RaisesR (R.exc 3 (ZZ B k nm dl res body pv sv st J).length (ZZ B k nm dl res body pv sv st J++[.att [(txt,.str t)]]):R V) B:=(wK t _).upJ
theorem Wa{n r2:Nat}{B:Hp}{k:List Nat}{dl res:V}{pv:V}{w:List Nat}(h2:B[r2]?=some (.dct [])):RaisesR (Ev (n+1) 44 [.ref (B.length+9),.int 1,.str w,.str s] (ZZ B k nm dl res [] pv (.ref r2) 0 [])) B:=by
 rw[za (k:=44) (b:=vk) (L:=[some (.ref (B.length+9)),some (.int 1),some (.str w),some (.str s),none,none,none]) rfl rfl rfl rfl rfl rfl]
 have hz:∀ st,(ZZ B k nm dl res [] pv (.ref r2) st [])[r2]?=some (.dct []):=λ st=>by
  rw[List.getElem?_append_left (gs_ h2).1];exact h2
 have hst:=λ(a b:Int)=>WY (B:=B) (k:=k) (nm:=nm) (dl:=dl) (res:=res) (body:=[]) (pv:=pv) (sv:=.ref r2) (st:=0) (J:=[]) (F:=Ev n) (e:=.bi .max (.cons (.attr (.loc 0) @"stage") (.cons (.loc 4) .nil))) (L:=[some (.ref (B.length+9)),some (.int 1),some (.str w),some (.str s),some (.int a),some (.int b),none]) (v:=if (0:Int)<a then a else 0) (by simp! only[wM]) rfl
 have b1:decide ((1:Int)<0)=false:=rfl
 have b2:decide ((2:Int)<0)=false:=rfl
 have b3:decide ((4:Int)<0)=false:=rfl
 unfold vk
 by_cases c1:w=@"implicit"
 ·subst c1
  simp! only[g62,beq_self_eq_true,g59,wM,b1,hst,Ym,qm (hz _),List.any_nil,Bool.not_false,xN,xW,xV]
  exact YL
 ·have d1:(w==@"implicit")=false:=by simpa using c1
  by_cases c2:w=@"parameter"
  ·subst c2
   simp! only[g62,d1,beq_self_eq_true,wM,b2,hst,Ym,qm (hz _),List.any_nil,Bool.not_false,xN,xW,xV]
   exact YL
  ·have d2:(w==@"parameter")=false:=by simpa using c2
   by_cases c3:w=@"data"
   ·subst c3
    simp! only[g62,d1,d2,beq_self_eq_true,g61,g60,wM,b3,hst,Ym,qm (hz _),List.any_nil,Bool.not_false,xN,xW,xV]
    exact YL
   ·have d3:(w==@"data")=false:=by simpa using c3
    simp! only[g62,d1,d2,d3,wM,b2,hst,Ym,qm (hz _),List.any_nil,Bool.not_false,xN,xW,xV]
    exact YL
section
variable {n r1 r2:Nat}{B:Hp}{k nm:List Nat}{dl res:V}{pv sv x:V}{w s:List Nat}
theorem z_lt{st:Int}{body:List V}{J:Hp}{r:Nat}{o:O}(h:B[r]?=some o):(ZZ B k nm dl res body pv sv st J)[r]?=some o:=by
 rw[List.getElem?_append_left (gs_ h).1];exact h
theorem z0T(h1:B[r1]?=some (.dct [(ze,x)]))(hw:w≠ze):RaisesR (Ev (n+1) 48 [.ref (B.length+9),.int 1,.int 0,.str w,.str s] (ZZ B KPR nm dl res [] (.ref r1) sv 0 [])) B:=by
 rw[za (k:=48) (b:=zD) (L:=[some (.ref (B.length+9)),some (.int 1),some (.int 0),some (.str w),some (.str s),none]) rfl rfl rfl rfl rfl rfl]
 have hn:zd .notin (.str w) (.ref r1) (ZZ B KPR nm dl res [] (.ref r1) sv 0 [])=some true:=by
  rw[qm (z_lt h1)]
  have:(ze==w)=false:=by simpa using λ h=>hw h.symm
  simp [this]
 have e0:(KPR==(@"program":List Nat))=true:=rfl
 unfold zD
 cases c1:w==@"entry" with
 | true=>
  simp! only[c1,yO,x8,e0,xN,xW,xV]
  exact YL
 | false=>
  cases c2:w==@"return" with
  | true=>
   simp! only[c1,c2,yO,x8,e0,xN,xW,xV]
   exact YL
  | false=>
   simp! only[c1,c2,yO,x8,e0,xN,xW,xV,z1z,hn]
   exact YL
theorem ju{m l:V}:RaisesR (Ev (n+1) 45 [m,.int 0,l] H) H:=by
 rw[za (k:=45) (b:=xX) (L:=[some m,some (.int 0),some l]) rfl rfl rfl rfl rfl rfl]
 unfold xX
 simp! only[beq_self_eq_true,xN,xW,xV]
 exact wK _ _
theorem z1O(h1:B[r1]?=some (.dct [(ze,x)]))(h2:B[r2]?=some (.dct []))(hw:w≠ze)(hh:HWS.contains w=false):RaisesR (Ev (n+2) 49 [.ref (B.length+9),.int 1,.int 0,.str w,.str s] (ZZ B KPR nm dl res [] (.ref r1) (.ref r2) 0 [])) B:=by
 rw[za (k:=49) (b:=xG) (L:=[some (.ref (B.length+9)),some (.int 1),some (.int 0),some (.str w),some (.str s),none]) rfl rfl rfl rfl rfl rfl]
 have e0:(KPR==(@"block":List Nat))=false:=rfl
 unfold xG
 cases c1:w==([]:List Nat) with
 | true=>
  simp! only[yO,x8,e0,c1,xN,xW,xV]
  exact YL
 | false=>
  cases c2:w==@"format" with
  | true=>
   obtain⟨k,J,d,l,t,q2,q3,q4,q5⟩:=(ju (n:=n) (H:=ZZ B KPR nm dl res [] (.ref r1) (.ref r2) 0 []) (m:=.ref (B.length+9)) (l:=.str s)).upJ (G:=B)
   refine⟨k,J,d,l,t,?_,q3,q4,q5⟩
   simp! only[yO,x8,e0,c1,g71,zV,hh,g70,zz,c2,g66,q2]
   rfl
  | false=>
   cases c3:SPW.contains w with
   | true=>
    obtain⟨k,J,d,l,t,q2,q3,q4,q5⟩:=Wa (n:=n) (r2:=r2) (B:=B) (k:=KPR) (nm:=nm) (dl:=dl) (res:=res) (pv:=.ref r1) (w:=w) (s:=s) h2
    refine⟨k,J,d,l,t,?_,q3,q4,q5⟩
    simp! only[yO,x8,e0,c1,g71,zV,hh,g70,zz,c2,g67,c3,g68,q2]
    rfl
   | false=>
    cases c4:([@"implicit",@"parameter",@"data"]:List (List Nat)).contains w with
    | true=>
     obtain⟨k,J,d,l,t,q2,q3,q4,q5⟩:=Wa (n:=n) (r2:=r2) (B:=B) (k:=KPR) (nm:=nm) (dl:=dl) (res:=res) (pv:=.ref r1) (w:=w) (s:=s) h2
     have c5:zd .in_ (.str w) (.tup [.str @"implicit",.str @"parameter",.str @"data"]) (ZZ B KPR nm dl res [] (.ref r1) (.ref r2) 0 [])=some true:=(zV (ws:=[@"implicit",@"parameter",@"data"])).trans (congrArg some c4)
     refine⟨k,J,d,l,t,?_,q3,q4,q5⟩
     simp! only[yO,x8,e0,c1,g71,zV,hh,g70,zz,c2,g67,c3,c5,g68,q2]
     rfl
    | false=>
     obtain⟨k,J,d,l,t,q2,q3,q4,q5⟩:=z0T (n:=n) (r1:=r1) (B:=B) (nm:=nm) (dl:=dl) (res:=res) (sv:=.ref r2) (w:=w) (s:=s) h1 hw
     have c5:zd .in_ (.str w) (.tup [.str @"implicit",.str @"parameter",.str @"data"]) (ZZ B KPR nm dl res [] (.ref r1) (.ref r2) 0 [])=some false:=(zV (ws:=[@"implicit",@"parameter",@"data"])).trans (congrArg some c4)
     refine⟨k,J,d,l,t,?_,q3,q4,q5⟩
     simp! only[yO,x8,e0,c1,g71,zV,hh,g70,zz,c2,g67,c3,c5,g69,q2]
     rfl
end
theorem Xr{n r1 r2:Nat}{w:List Nat}{x:V}(h1:H[r1]?=some (.dct [(ze,x)]))(h2:H[r2]?=some (.dct []))(hw:w≠ze)(hh:HWS.contains w=false):RaisesR (Ev (n+3) 50 [.int 1,.int 0,.str w,.str s,.ref r1,.ref r2] H) H:=by
 have up:∀ {r o},H[r]?=some o->(H++[.lst []])[r]?=some o:=λ h=>by
  rw[List.getElem?_append_left (gs_ h).1];exact h
 obtain⟨k,J,d,l,t,q2,q3,q4,q5⟩:=z1O (n:=n) (nm:=@"$MAIN") (dl:=.ref H.length) (res:=.none) (s:=s) (up h1) (up h2) hw hh
 rw[List.append_assoc] at q2 q4
 refine⟨k,[.lst []]++J,d,l,t,?_,q3,q4,q5⟩
 rw[za (k:=50) (b:=zK) (L:=[some (.int 1),some (.int 0),some (.str w),some (.str s),some (.ref r1),some (.ref r2),none]) rfl rfl rfl rfl rfl rfl]
 unfold zK
 unfold ZZ at q2
 rw[List.append_nil] at q2
 have hc:=Z6 (n:=n+1) (B:=H++[.lst []]) (k:=KPR) (nm:=@"$MAIN") (dl:=.ref H.length) (res:=.none) (pv:=.ref r1) (sv:=.ref r2)
 have hr:=xE (n:=n+1) (H:=H++[.lst []]) (k:=@"program") (nm:=@"$MAIN") (dl:=.ref H.length) (res:=.none)
 simp! only[g71,zV,hh,g74,g55,g75,hr]
 unfold KPR at hc q2
 simp! only[hc,g73,q2]
 rfl
noncomputable def Ve:List Nat:=@"END"
noncomputable def zw:V:=.tup [.int 0,.tup [.str ze],.int 4]
theorem W3{n:Nat}{l:V}:Ev (n+1) 63 [.ref i,l] H=.ok (.tup [.str ze]) H:=by
 rw[za (k:=63) (b:=vW) (L:=[some (.ref i),some l]) rfl rfl rfl rfl rfl rfl]
 unfold vW
 simp! only[]
 exact y9 rfl rfl
section
variable {n r1 r2:Nat}{B:Hp}{k nm s:List Nat}{dl res:V}{pv sv x:V}
theorem ZA:Ev (n+1) 46 [.ref (B.length+9),.tup [.str ze]] (ZZ B k nm dl res [] pv sv 0 [])=.ok (.bool false) (ZZ B k nm dl res [] pv sv 0 []):=by
 rw[za (k:=46) (b:=wd) (L:=[some (.ref (B.length+9)),some (.tup [.str ze]),none]) rfl rfl rfl rfl rfl rfl]
 have e1:((0:Int)==4)=false:=rfl
 have e2:(!(ze==(@"assign":List Nat)))=true:=rfl
 have e3:zC (ZZ B k nm dl res [] pv sv 0 []) (.tup [.str ze]) (.int 0)=some (.str ze):=rfl
 unfold wd
 simp! only[wM,g60,e1,e2,e3]
 exact y9 rfl rfl
theorem z0R:zd .ne (.ref (B.length+10)) (.ref (ZZ B k nm dl res [] pv sv 0 []).length) (ZZ B k nm dl res [] pv sv 0 []++[.lst []])=some false:=by
 have h1:(ZZ B k nm dl res [] pv sv 0 []++[.lst []])[B.length+10]?=some (.lst []):=by
  rw[List.append_assoc,zX];rfl
 have h2:(ZZ B k nm dl res [] pv sv 0 []++[.lst []])[(ZZ B k nm dl res [] pv sv 0 []).length]?=some (.lst []):=by rw[zg];rfl
 have t:∀ {X:Hp} {i:Nat},X[i]?=some (.lst [])->toD 4 X (.ref i)=some (.list []):=λ {X i} h=>by
  show YJ _ X[i]?=_
  rw[h];rfl
 show(match toD 4 _ _ with | some x=>(match toD 4 _ _ with | some y=>some (PyData.eqv x y) | none=>none) | none=>none).map (!·)=_
 rw[t h1]
 dsimp only
 rw[t h2];rfl
theorem VU:Ev (n+1) 43 [.ref (B.length+9),.tup [.str ze]] (ZZ B k nm dl res [] pv sv 0 [])=.ok .none (ZZ B k nm dl res [] pv sv 0 [.lst []]):=by
 rw[za (k:=43) (b:=Zp) (L:=[some (.ref (B.length+9)),some (.tup [.str ze]),none,none]) rfl rfl rfl rfl rfl rfl]
 have e3:zC (ZZ B k nm dl res [] pv sv 0 []) (.tup [.str ze]) (.int 0)=some (.str ze):=rfl
 have c1:(ze==(@"do":List Nat))=false:=rfl
 have c2:(ze==(@"if":List Nat))=false:=rfl
 have c3:(ze==(@"elseif":List Nat))=false:=rfl
 have c4:(ze==(@"else":List Nat))=false:=rfl
 have c5:(ze==(@"endif":List Nat))=false:=rfl
 have c6:(ze==(@"entry":List Nat))=false:=rfl
 have c7:(ze==(@"end":List Nat))=true:=rfl
 have hz:ZZ B k nm dl res [] pv sv 0 []++[.lst []]=ZZ B k nm dl res [] pv sv 0 [.lst []]:=by
  unfold ZZ;rw[List.append_nil,List.append_assoc]
 have hq:zd .ne (.ref (B.length+10)) (.ref (ZZ B k nm dl res [] pv sv 0 []).length) (ZZ B k nm dl res [] pv sv 0 [.lst []])=some false:=by rw[←hz];exact z0R
 unfold Zp
 simp! only[z1U,e3,c1,c2,c3,c4,c5,c6,c7,hz,hq]
 rfl
theorem Yt:Ev (n+1) 47 [.ref (B.length+9),.int 4,.int 0,.tup [.str ze]] (ZZ B k nm dl res [] pv sv 0 [.lst []])=.ok .none (ZZ B k nm dl res [zw] pv sv 0 [.lst []]):=by
 rw[za (k:=47) (b:=va) (L:=[some (.ref (B.length+9)),some (.int 4),some (.int 0),some (.tup [.str ze]),none]) rfl rfl rfl rfl rfl rfl]
 have e1:decide ((0:Int)<0)=false:=rfl
 have e3:zC (ZZ B k nm dl res [] pv sv 0 [.lst []]) (.tup [.str ze]) (.int 0)=some (.str ze):=rfl
 have c6:(ze==(@"entry":List Nat))=false:=rfl
 have h4:(ZZ B k nm dl res [] pv sv 0 [.lst []])[B.length+4]?=some (.lst []):=(yh 4).trans rfl
 have h5:kQ (ZZ B k nm dl res [] pv sv 0 [.lst []]) (.ref (B.length+4))=true:=by rw[xg,h4];rfl
 unfold va
 simp! only[yO,e1,e3,c6,KB,h5,h4,List.nil_append,Ye]
 rfl
theorem xk(h1:B[r1]?=some (.dct [(ze,.fn 63)])):Ev (n+2) 48 [.ref (B.length+9),.int 4,.int 0,.str ze,.str s] (ZZ B k nm dl res [] (.ref r1) sv 0 [])=.ok .none (ZZ B k nm dl res [zw] (.ref r1) sv 0 [.lst []]):=by
 rw[za (k:=48) (b:=zD) (L:=[some (.ref (B.length+9)),some (.int 4),some (.int 0),some (.str ze),some (.str s),none]) rfl rfl rfl rfl rfl rfl]
 have hz:=z_lt (k:=k) (nm:=nm) (dl:=dl) (res:=res) (body:=[]) (pv:=.ref r1) (sv:=sv) (st:=0) (J:=[]) h1
 have hn:zd .notin (.str ze) (.ref r1) (ZZ B k nm dl res [] (.ref r1) sv 0 [])=some false:=by rw[qm hz];rfl
 have hi:zC (ZZ B k nm dl res [] (.ref r1) sv 0 []) (.ref r1) (.str ze)=some (.fn 63):=by
  show(match (_:Hp)[r1]? with | some (.dct l)=>l.lookup ze | _=>none)=_
  rw[hz];rfl
 have e3:zC (ZZ B k nm dl res [] (.ref r1) sv 0 []) (.tup [.str ze]) (.int 0)=some (.str ze):=rfl
 have c1:(ze==(@"entry":List Nat))=false:=rfl
 have c2:(ze==(@"return":List Nat))=false:=rfl
 have c3:(ze==(@"end":List Nat))=true:=rfl
 unfold zD
 simp! only[c1,c2,c3,z1z,hn,hi,W3,g65,ZA,e3,Bool.not_false,Bool.not_true,g64,VU,g63,Yt]
 rfl
theorem XM(h1:B[r1]?=some (.dct [(ze,.fn 63)])):Ev (n+3) 49 [.ref (B.length+9),.int 4,.int 0,.str ze,.str s] (ZZ B k nm dl res [] (.ref r1) sv 0 [])=.ok .none (ZZ B k nm dl res [zw] (.ref r1) sv 0 [.lst []]):=by
 rw[za (k:=49) (b:=xG) (L:=[some (.ref (B.length+9)),some (.int 4),some (.int 0),some (.str ze),some (.str s),none]) rfl rfl rfl rfl rfl rfl]
 have b1:zd .notin (.str ze) (.tup (BLW.map .str)) (ZZ B k nm dl res [] (.ref r1) sv 0 [])=some false:=VC
 have b2:zd .in_ (.str ze) (.tup (HWS.map .str)) (ZZ B k nm dl res [] (.ref r1) sv 0 [])=some false:=zV
 have b3:zd .in_ (.str ze) (.tup (SPW.map .str)) (ZZ B k nm dl res [] (.ref r1) sv 0 [])=some false:=zV
 have b4:zd .in_ (.str ze) (.tup [.str @"implicit",.str @"parameter",.str @"data"]) (ZZ B k nm dl res [] (.ref r1) sv 0 [])=some false:=zV (ws:=[@"implicit",@"parameter",@"data"])
 have c1:(ze==([]:List Nat))=false:=rfl
 have c2:(ze==(@"format":List Nat))=false:=rfl
 have c3:decide ((0:Int)<0)=false:=rfl
 unfold xG
 cases c0:k==(@"block":List Nat) with
 | true=>
  simp! only[yO,x8,c0,g72,b1,c1,g71,b2,g70,zz,c2,g67,b3,b4,g69,xk h1,c3]
  rfl
 | false=>
  simp! only[yO,x8,c0,g72,b1,c1,g71,b2,g70,zz,c2,g67,b3,b4,g69,xk h1,c3]
  rfl
theorem QM(h1:B[r1]?=some (.dct [(ze,.fn 63)])):Ev (n+6) 51 [.ref (B.length+9),.int 4,.int 0,.str Ve,.ref r1,sv] (ZZ B k nm dl res [] (.ref r1) sv 0 [])=.ok (.tup [.ref (B.length+9),.str ze]) (ZZ B k nm dl res [zw] (.ref r1) sv 0 [.lst []]):=by
 rw[za (k:=51) (b:=yb) (L:=[some (.ref (B.length+9)),some (.int 4),some (.int 0),some (.str Ve),some (.ref r1),some sv,none]) rfl rfl rfl rfl (by simp) rfl]
 have hc:∀ H,Ev (n+5) 13 [.str Ve] H=.ok (.str ze) H:=λ H=>qI (s:=Ve) (by decide) (by decide) (by unfold ZU;decide) (λ _ h=>absurd h (by decide))
 have hr:∀ H,zd .is_ (.ref (B.length+9)) .none H=some false:=λ H=>rfl
 unfold yb
 simp! only[g78,hc,hr,g73,XM h1]
 rfl
end
theorem Yk{n:Nat}:Ev (n+5) 4 [.str @"E N D"] H=.ok (.str Ve) H:=by
 refine qN (s:=@"E N D") (by decide) ⟨by decide,λ i c h hd=>?_⟩
 have hm:=List.mem_of_getElem? h
 simp only[List.mem_cons,List.not_mem_nil,or_false] at hm
 rcases hm with rfl | rfl | rfl | rfl | rfl<;>cases hd
theorem z31(v:V)(H:Hp):YG (.ret v H)=.ret v H:=rfl
theorem z28(k d:Nat)(H:Hp):YG (.exc k d H)=.exc k d H:=rfl
theorem X5{G:Nat->Option V}{F:Fn}{W x:Nat}{e:E}{h:S}{a b:V}(he:evE G F e L H=.ok (.tup [a,b]) H'):evS G F W (.try_ [i,j] e k x h) L H=.next ((L.set i (some a)).set j (some b)) H':=by
 rw[jM,he];rfl
theorem VA{G:Nat->Option V}{F:Fn}{W x c:Nat}{e:E}{h:S}(he:evE G F e L H=.exc c d H')(hc:c=2\/c=3):evS G F W (.try_ is e 0 x h) L H=YG (evS G F W h (L.set x (some (.exc c d))) H'):=by
 rcases hc with rfl | rfl<;>(rw[jM,he];rfl)
noncomputable def KO(H:Hp)(r:R V)(k nm:List Nat)(ds:List (List Nat))(res:V)(r1 r2:Nat):Prop:=(Ex3 λ J d w=>A4 (r=.ok (.tup [.ref ((H++J).length+9),.str w]) ((H++J)++UM (H++J).length k nm (.ref d) res [] (.ref r1) (.ref r2) 0)) ((H++J)[d]?=some (.lst (ds.map .str))) (H.length<=d) (w≠ze))
noncomputable def qR(t:List Nat):V:=.tup [.int 1,.int 0,.str t]
noncomputable def qP:V:=.tup [.int 4,.int 0,.str @"E N D"]
noncomputable def JC:List Nat:=@"line"
section
variable {n r0 r1 r2:Nat}{H:Hp}{t s:List Nat}
theorem KR{k:List Nat}{res:V}(h0:H[r0]?=some (.lst [qR t,qP]))(h1:H[r1]?=some (.dct [(ze,.fn 63)]))(hs:Ev (n+10) 4 [.str t] (H++[.lst []])=.ok (.str s) (H++[.lst []]))(ht:KO (H++[.lst []]) (Ev (n+10) 51 [.none,.int 1,.int 0,.str s,.ref r1,.ref r2] (H++[.lst []])) k nm ds res r1 r2) :
  (Ex3 λ B J2 d=>Ev (n+11) 52 [.ref r0,.ref r1,.ref r2] H=.ok (.ref H.length) (B++(UM B.length k nm (.ref d) res [zw] (.ref r1) (.ref r2) 0++J2))/\B[H.length]?=some (.lst [.ref (B.length+1)])/\B[d]?=some (.lst (ds.map .str))/\∃ K,B=H++K):=by
 obtain⟨J,d,w,q1,q2,q3,q4⟩:=ht
 have eB:∀ v,(H++O.lst [v]::J).length=((H++[O.lst []])++J).length:=λ v=>by rw[List.append_assoc,List.length_append,List.length_append];rfl
 generalize hB:(H++[O.lst []])++J=B at q1 q2 eB
 have hB':B=H++.lst []::J:=by rw[←hB,List.append_assoc];rfl
 have hw:(w==@"end")=false:=bn_ q4
 have hup:∀ {r o K},H[r]?=some o->(B++K)[r]?=some o:=λ h=>by
  rw[hB',List.append_assoc,List.getElem?_append_left (gs_ h).1];exact h
 have hup1:∀ {r o},H[r]?=some o->(H++[.lst []])[r]?=some o:=λ h=>by
  rw[List.getElem?_append_left (gs_ h).1];exact h
 have hB1:B[r1]?=some (.dct [(ze,.fn 63)]):=by have:=hup (K:=[]) h1;rwa [List.append_nil] at this
 have hz:B++UM B.length k nm (.ref d) res [] (.ref r1) (.ref r2) 0=ZZ B k nm (.ref d) res [] (.ref r1) (.ref r2) 0 []:=by unfold ZZ;rw[List.append_nil]
 refine⟨H++.lst [.ref (B.length+1)]::J,[.lst []],d,?_,?_,?_,_,rfl⟩
 ·rw[za (k:=52) (b:=xf) (L:=[some (.ref r0),some (.ref r1),some (.ref r2),none,none,none,none,none,none,none]) rfl rfl rfl rfl rfl rfl]
  have hloop:yR [5,6,7] (evS G_ (Ev (n+10)) 2000 xr) r0 [qR t,qP] [qR t,qP] [some (.ref r0),some (.ref r1),some (.ref r2),some (.ref H.length),some .none,some (.int 0),none,none,none,none] (H++[.lst []])=.next [some (.ref r0),some (.ref r1),some (.ref r2),some (.ref H.length),some .none,some (.int 4),some (.int 0),some (.str @"E N D"),some (.str ze),none] ((H++.lst [.ref (B.length+1)]::J)++(UM B.length k nm (.ref d) res [zw] (.ref r1) (.ref r2) 0++[.lst []])):=by
   rw[vP (hup1 h0) rfl]
   have b1:evS G_ (Ev (n+10)) 2000 xr [some (.ref r0),some (.ref r1),some (.ref r2),some (.ref H.length),some .none,some (.int 1),some (.int 0),some (.str t),none,none] (H++[.lst []])=.next [some (.ref r0),some (.ref r1),some (.ref r2),some (.ref H.length),some (.ref (B.length+9)),some (.int 1),some (.int 0),some (.str t),some (.str w),none] (ZZ B k nm (.ref d) res [] (.ref r1) (.ref r2) 0 []):=by
    unfold xr
    rw[x_cons,X5 (a:=.ref (B.length+9)) (b:=.str w) (H':=ZZ B k nm (.ref d) res [] (.ref r1) (.ref r2) 0 []) (by simp! only[g79,g80,hs,q1,hz])]
    simp! only[hw]
   refine(congrArg (λ o=>Out.turn o _) b1).trans ?_
   show yR _ _ _ _ _ _ _=_
   rw[vP (hup h0) rfl]
   have hu:(ZZ B k nm (.ref d) res [zw] (.ref r1) (.ref r2) 0 [.lst []])[H.length]?=some (.lst []):=by
    unfold ZZ;rw[hB',List.append_assoc,zg];rfl
   have hu2:kQ (ZZ B k nm (.ref d) res [zw] (.ref r1) (.ref r2) 0 [.lst []]) (.ref H.length)=true:=by rw[xg,hu];rfl
   have hset:(ZZ B k nm (.ref d) res [zw] (.ref r1) (.ref r2) 0 [.lst []]).set H.length (.lst ([]++[.ref (B.length+1)]))=(H++.lst [.ref (B.length+1)]::J)++(UM B.length k nm (.ref d) res [zw] (.ref r1) (.ref r2) 0++[.lst []]):=by
    unfold ZZ;rw[hB',List.append_assoc,List.append_assoc,Ys];rfl
   have b2:evS G_ (Ev (n+10)) 2000 xr [some (.ref r0),some (.ref r1),some (.ref r2),some (.ref H.length),some (.ref (B.length+9)),some (.int 4),some (.int 0),some (.str @"E N D"),some (.str w),none] (ZZ B k nm (.ref d) res [] (.ref r1) (.ref r2) 0 [])=.next [some (.ref r0),some (.ref r1),some (.ref r2),some (.ref H.length),some .none,some (.int 4),some (.int 0),some (.str @"E N D"),some (.str ze),none] ((H++.lst [.ref (B.length+1)]::J)++(UM B.length k nm (.ref d) res [zw] (.ref r1) (.ref r2) 0++[.lst []])):=by
    unfold xr
    have hse:∀ G,Ev (n+10) 4 [.str @"E N D"] G=.ok (.str Ve) G:=λ G=>Yk (n:=n+5)
    have hte:=QM (n:=n+4) (r1:=r1) (B:=B) (k:=k) (nm:=nm) (dl:=.ref d) (res:=res) (sv:=.ref r2) hB1
    have e2:(ze==(@"end":List Nat))=true:=rfl
    rw[x_cons,X5 (a:=.ref (B.length+9)) (b:=.str ze) (H':=ZZ B k nm (.ref d) res [zw] (.ref r1) (.ref r2) 0 [.lst []]) (by simp! only[g79,g80,hse,hte])]
    simp! only[e2,hu2,hu,yO,hset]
    rfl
   refine(congrArg (λ o=>Out.turn o _) b2).trans ?_
   show yR _ _ _ _ _ _ _=_
   exact XD (by
    rw[List.append_assoc,List.getElem?_append_left (gs_ h0).1];exact h0)
  unfold xf
  simp! only[]
  rw[Xm (i:=r0) (H':=H++[.lst []]) (l:=[qR t,qP]) (by simp! only[]) (hup1 h0)]
  refine(congrArg (λ o=>yt _ _ (Out.thn o _)) hloop).trans ?_
  have hr:∀ H,zd .isnot .none .none H=some false:=λ H=>rfl
  simp! only[hr]
  rw[eB]
  rfl
 ·rw[zg,eB];rfl
 ·obtain⟨i,rfl⟩:=Nat.exists_eq_add_of_le q3
  rw[←hB,zX] at q2
  rw[show(H++[O.lst []]).length=(H++[O.lst [.ref (B.length+1)]]).length by rw[List.length_append,List.length_append];rfl,show H++.lst [.ref (B.length+1)]::J=(H++[O.lst [.ref (B.length+1)]])++J by rw[List.append_assoc];rfl,zX]
  exact q2
theorem Qo(h0:H[r0]?=some (.lst [qR t,qP]))(hs:Ev (n+10) 4 [.str t] (H++[.lst []])=.ok (.str s) (H++[.lst []]))(ht:RaisesR (Ev (n+10) 51 [.none,.int 1,.int 0,.str s,.ref r1,.ref r2] (H++[.lst []])) (H++[.lst []])) :
  (Ex3 λ J d l=>A3 (Ev (n+11) 52 [.ref r0,.ref r1,.ref r2] H=.exc 1 d (H++J)) ((H++J)[d]?=some (.att l)) (l.lookup JC=some (.int 1))):=by
 obtain⟨k,J,d,l,tx,q2,q3,q4,q5⟩:=ht
 have hup1:∀ {r o},H[r]?=some o->(H++[.lst []])[r]?=some o:=λ h=>by
  rw[List.getElem?_append_left (gs_ h).1];exact h
 refine⟨[O.lst []]++J++[.att [(txt,.str tx),(JC,.int 1)]],(H++[O.lst []]++J).length,[(txt,.str tx),(JC,.int 1)],?_,?_,rfl⟩
 ·rw[za (k:=52) (b:=xf) (L:=[some (.ref r0),some (.ref r1),some (.ref r2),none,none,none,none,none,none,none]) rfl rfl rfl rfl rfl rfl]
  have b1:evS G_ (Ev (n+10)) 2000 xr [some (.ref r0),some (.ref r1),some (.ref r2),some (.ref H.length),some .none,some (.int 1),some (.int 0),some (.str t),none,none] (H++[.lst []])=.exc 1 (H++[O.lst []]++J).length (H++[.lst []]++J++[.att [(txt,.str tx),(JC,.int 1)]]):=by
   unfold xr
   have ha:zN (H++[.lst []]++J) @"text" (.exc k d)=some (.str tx):=by
    show(match (_:Hp)[d]? with | some (.att l)=>l.lookup _ | _=>none)=_
    rw[q4];exact q5
   rw[x_cons,VA (by simp! only[g79,g80,hs,q2];rfl) q3]
   simp! only[ha,xN,xW,xV,z28]
   rfl
  unfold xf
  simp! only[]
  rw[Xm (i:=r0) (H':=H++[.lst []]) (l:=[qR t,qP]) (by simp! only[]) (hup1 h0),vP (hup1 h0) rfl]
  refine(congrArg (λ o=>yt _ _ (Out.thn (Out.turn o _) _)) b1).trans ?_
  rw[←List.append_assoc,←List.append_assoc]
  rfl
 ·rw[←List.append_assoc,←List.append_assoc,zg];rfl
end
section
variable {n r1 r2:Nat}{H:Hp}{s w:List Nat}
theorem vC{k:List Nat}{res:V}(hc:Ev (n+8) 13 [.str s] H=.ok (.str w) H)(hw:HWS.contains w=true)(h:W8 H (Ev (n+7) 41 [.str w,.str s] H) k nm ds res):KO H (Ev (n+9) 51 [.none,.int 1,.int 0,.str s,.ref r1,.ref r2] H) k nm ds res r1 r2:=by
 obtain⟨J,d,q1,q2,q3⟩:=K8 (n:=n+1) (pv:=.ref r1) (sv:=.ref r2) hw h
 refine⟨J,d,w,?_,q2,q3,λ e=>?_⟩
 ·rw[za (k:=51) (b:=yb) (L:=[some .none,some (.int 1),some (.int 0),some (.str s),some (.ref r1),some (.ref r2),none]) rfl rfl rfl rfl (by simp) rfl]
  have hr:∀ H,zd .is_ .none .none H=some true:=λ H=>rfl
  unfold yb
  simp! only[g78,hc,hr,g77,q1]
  rfl
 ·rw[e] at hw;cases hw
theorem wm(hc:Ev (n+8) 13 [.str s] H=.ok (.str w) H)(h:RaisesR (Ev (n+8) 50 [.int 1,.int 0,.str w,.str s,.ref r1,.ref r2] H) H):RaisesR (Ev (n+9) 51 [.none,.int 1,.int 0,.str s,.ref r1,.ref r2] H) H:=by
 obtain⟨k,J,d,l,t,q2,q3,q4,q5⟩:=h
 refine⟨k,J,d,l,t,?_,q3,q4,q5⟩
 rw[za (k:=51) (b:=yb) (L:=[some .none,some (.int 1),some (.int 0),some (.str s),some (.ref r1),some (.ref r2),none]) rfl rfl rfl rfl (by simp) rfl]
 have hr:∀ H,zd .is_ .none .none H=some true:=λ H=>rfl
 unfold yb
 simp! only[g78,hc,hr,g77,q2]
 rfl
theorem kl(hc:Ev (n+8) 13 [.str s] H=.ok (.str w) H)(hw:HWS.contains w=true)(h:RaisesR (Ev (n+7) 41 [.str w,.str s] H) H):RaisesR (Ev (n+9) 51 [.none,.int 1,.int 0,.str s,.ref r1,.ref r2] H) H:=
 wm hc (Kw (n:=n+1) hw h)
theorem V0{x:V}(hc:Ev (n+8) 13 [.str s] H=.ok (.str w) H)(h1:H[r1]?=some (.dct [(ze,x)]))(h2:H[r2]?=some (.dct []))(hw:w≠ze)(hh:HWS.contains w=false):RaisesR (Ev (n+9) 51 [.none,.int 1,.int 0,.str s,.ref r1,.ref r2] H) H:=
 wm hc (Xr (n:=n+5) h1 h2 hw hh)
end
noncomputable def isN(s:List Nat):Bool:=lenV.isNameB s
theorem zl{n:Nat}:Ev (n+1) 58 [.str s] H=.ok (.bool (isN s)) H:=by
 show evN _ _ _ _ _ _ _ _=_
 simp only[evN,xK]
 rfl
theorem Vd{n:Nat}:Ev (n+1) 60 [.str s] H=lift H (lenV [.str s]):=by
 show evN _ _ _ _ _ _ _ _=_
 simp only[evN,xK]
theorem g81:G_ 81=some (.fn 58):=rfl
theorem g82:G_ 82=some (.fn 53):=rfl
theorem g83:G_ 83=some (.fn 60):=rfl
theorem g84:G_ 84=some (.fn 59):=rfl
theorem g85:G_ 85=some (.fn 61):=rfl
theorem g86:G_ 86=some (.fn 52):=rfl
theorem g87:G_ 87=some (.fn 63):=rfl
theorem g88:G_ 88=some (.fn 62):=rfl
theorem g89:G_ 89=some (.fn 57):=rfl
theorem g90:G_ 90=some (.fn 56):=rfl
theorem g91:G_ 91=some (.fn 54):=rfl
theorem g92:G_ 92=some (.fn 55):=rfl
theorem kX(c:Nat)(s:List Nat):(z7 c s)[0]?=some (s.takeWhile (· !=c)):=by
 obtain⟨x,q,h1,h2,_⟩:=so_c c s
 rw[h1,h2];rfl
theorem split_len(c:Nat)(s:List Nat):(z7 c s).length<=s.length+1:=by
 obtain⟨x,q,h1,_,h3⟩:=so_c c s
 rw[h1];exact Nat.succ_le_succ h3
noncomputable def wy(acc:List (List Nat)):List (List Nat)->Bool
 | []=>true
 | p::r=>(p==[42]||isN p&&!acc.contains p)&&wy (acc++[p]) r
noncomputable def lnF(s:List Nat):Option (List Nat×Option (List (List Nat))):=
 if isN (s.takeWhile (· !=40)) then(if s.takeWhile (· !=40)==s then some (s.takeWhile (· !=40),none) else
  if s[s.length-1]?==some 41&&(s.count 40==1&&s.count 41==1) then
   (if wy [] (if (s.take (s.length-1)).drop ((s.takeWhile (· !=40)).length+1)==[] then[] else z7 44 ((s.take (s.length-1)).drop ((s.takeWhile (· !=40)).length+1)))
    then some (s.takeWhile (· !=40),some (if (s.take (s.length-1)).drop ((s.takeWhile (· !=40)).length+1)==[] then[] else z7 44 ((s.take (s.length-1)).drop ((s.takeWhile (· !=40)).length+1)))) else none)
  else none) else none
theorem ZN{l:List V}(h:H[i]?=some (.lst l)):zC H (.ref i) (.int (k:Int))=l[k]?:=by
 show(match H[i]? with | some (.lst l)=>at? l (k:Int) | _=>none)=_
 rw[h]
 rfl
theorem z3v{x:List Nat}(h:H[i]?=some (.lst (ds.map .str))):xp (.str x) (.ref i) (.int (k:Int)) H=some ((ds.take k).contains x):=by
 have hk:(0:Int)<=(k:Int):=Int.natCast_nonneg k
 rw[←vQ]
 show(match H[i]? with | some (.lst xs)=>if 0<=(k:Int) then(match toD 4 H (.str x),jp 3 H (xs.take k) with | some d,some ds=>some (ds.any λ e=>PyData.eqv e d) | _,_=>none) else none | _=>none)=_
 rw[h]
 dsimp only
 rw[if_pos hk,ye,←List.map_take,wO]
theorem z0H{n:Nat}{w inner:List Nat}(h:H[d]?=some (.lst (ds.map .str)))(ps:List (List Nat)):∀ (acc:List (List Nat)) (x:Option V),acc++ps=ds->
  (wy acc ps=true/\∃ x',zh [4] (evS G_ (Ev (n+1)) 2000 xq) (zb (acc.length:Nat) ps.length) [some (.str s),some (.str w),some (.str inner),some (.ref d),x] H=.next [some (.str s),some (.str w),some (.str inner),some (.ref d),x'] H) \/
  (wy acc ps=false/\zh [4] (evS G_ (Ev (n+1)) 2000 xq) (zb (acc.length:Nat) ps.length) [some (.str s),some (.str w),some (.str inner),some (.ref d),x] H=.ret .none H):=by
 induction ps with
 | nil=>exact λ acc x _=>.inl ⟨rfl,x,rfl⟩
 | cons p r ih=>
  intro acc x e
  have hp:ds[acc.length]?=some p:=by rw[←e,List.getElem?_append_right (Nat.le_refl _),Nat.sub_self];rfl
  have hi:zC H (.ref d) (.int ((acc.length:Nat):Int))=some (.str p):=by rw[ZN h,List.getElem?_map,hp];rfl
  have hin:xp (.str p) (.ref d) (.int ((acc.length:Nat):Int)) H=some (acc.contains p):=by
   rw[z3v h,←e,List.take_left']
   rfl
  have ih:=ih (acc++[p]) (some (.int ((acc.length:Nat):Int))) (by rw[List.append_assoc];exact e)
  have e2:(((acc++[p]).length:Nat):Int)=((acc.length:Nat):Int)+1:=congrArg (λ k:Nat=>(k:Int)) List.length_append
  have hb:evS G_ (Ev (n+1)) 2000 xq [some (.str s),some (.str w),some (.str inner),some (.ref d),some (.int ((acc.length:Nat):Int))] H=if (p==[42]||isN p&&!acc.contains p) then .next [some (.str s),some (.str w),some (.str inner),some (.ref d),some (.int ((acc.length:Nat):Int))] H else .ret .none H:=by
   unfold xq
   cases c1:p==[42] with
   | true=>
    simp! only[hi,c1,Bool.not_true]
    rfl
   | false=>
    cases c2:isN p with
    | false=>
     simp! only[hi,c1,Bool.not_false,g81,zl,c2]
     rfl
    | true=>
     cases c3:acc.contains p with
     | true=>
      simp! only[hi,c1,Bool.not_false,g81,zl,c2,Bool.not_true,hin,c3]
      rfl
     | false=>
      simp! only[hi,c1,Bool.not_false,g81,zl,c2,Bool.not_true,hin,c3]
      rfl
  show(_/\∃ x',Out.turn _ _=_)\/(_/\Out.turn _ _=_)
  rw[show wy acc (p::r)=((p==[42]||isN p&&!acc.contains p)&&wy (acc++[p]) r) from rfl]
  cases hc:(p==[42]||isN p&&!acc.contains p) with
  | false=>
   rw[hc,if_neg (by decide)] at hb
   refine .inr ⟨rfl,?_⟩
   exact(congrArg (λ o=>Out.turn o _) hb).trans rfl
  | true=>
   rw[hc,if_pos rfl] at hb
   rw[e2] at ih
   rcases ih with ⟨h1,x',h2⟩ | ⟨h1,h2⟩
   ·exact .inl ⟨by rw[h1];rfl,x',(congrArg (λ o=>Out.turn o _) hb).trans h2⟩
   ·exact .inr ⟨by rw[h1];rfl,(congrArg (λ o=>Out.turn o _) hb).trans h2⟩
theorem z0s{n:Nat}{G:Hp}{w inner:List Nat}(hdl:ds.length<1000):evS G_ (Ev (n+1)) 2000 ZY [some (.str s),some (.str w),some (.str inner),some (.ref G.length),none] (G++[.lst (ds.map .str)])=if wy [] ds then .ret (.tup [.str w,.ref G.length]) (G++[.lst (ds.map .str)]) else .ret .none (G++[.lst (ds.map .str)]):=by
 have hloop:=z0H (n:=n) (d:=G.length) (H:=G++[.lst (ds.map .str)]) (s:=s) (w:=w) (inner:=inner) (ds:=ds) (by rw[zg];rfl) ds [] none rfl
 have hg:(G++[.lst (ds.map .str)])[G.length]?=some (.lst (ds.map .str)):=by rw[zg];rfl
 have hfr:evS G_ (Ev (n+1)) 2000 (.forR 4 (.cons (.bi .len (.cons (.loc 3) .nil)) .nil) xq) [some (.str s),some (.str w),some (.str inner),some (.ref G.length),none] (G++[.lst (ds.map .str)])=zh [4] (evS G_ (Ev (n+1)) 2000 xq) (zb 0 ds.length) [some (.str s),some (.str w),some (.str inner),some (.ref G.length),none] (G++[.lst (ds.map .str)]):=by
  simp! -implicitDefEqProofs only[Zl,v_lenr,hg,List.length_map]
  exact XU hdl
 have e0:ZY=.cons (.forR 4 (.cons (.bi .len (.cons (.loc 3) .nil)) .nil) xq) (.cons (.ret (.tup (.cons (.loc 1) (.cons (.loc 3) .nil)))) .nil):=rfl
 rw[e0,x_cons,hfr]
 rcases hloop with ⟨h2,x',h3⟩ | ⟨h2,h3⟩
 ·refine(congrArg (λ o=>Out.thn o _) h3).trans ?_
  rw[h2]
  simp! only[]
 ·refine(congrArg (λ o=>Out.thn o _) h3).trans ?_
  rw[h2]
  rfl
noncomputable def Ww(H:Hp)(r:R V):Option (List Nat×Option (List (List Nat)))->Prop
 | none=>∃ J,r=.ok .none (H++J)
 | some (w,none)=>∃ J,r=.ok (.tup [.str w,.none]) (H++J)
 | some (w,some ds)=>∃ J d,r=.ok (.tup [.str w,.ref d]) (H++J)/\(H++J)[d]?=some (.lst (ds.map .str))/\H.length<=d
theorem Jx(h:s≠[]):zC H (.str s) (.int (-1))=(s[s.length-1]?).map λ c=>.str [c]:=by
 have hp:0<s.length:=List.length_pos_iff.mpr h
 show(if 0<s.length then s[s.length-(0+1)]? else none).map _=_
 rw[if_pos hp]
theorem jc{n:Nat}(hn:s.length<900):Ww H (Ev (n+2) 59 [.str s] H) (lnF s):=by
 have hE:=za (n:=n+1) (k:=59) (b:=wf) (args:=[.str s]) (H:=H) (L:=[some (.str s),none,none,none,none]) rfl rfl rfl rfl rfl rfl
 rw[hE]
 generalize hL:([some (.str s),none,none,none,none]:Lc)=L
 unfold lnF
 generalize hw:s.takeWhile (· !=40)=w
 have h1:zC (H++[.lst ((z7 40 s).map .str)]) (.ref H.length) (.int 0)=some (.str w):=by
  have:=ZN (H:=H++[.lst ((z7 40 s).map .str)]) (i:=H.length) (k:=0) (l:=(z7 40 s).map .str) (by rw[zg];rfl)
  rw[List.getElem?_map,kX,hw] at this
  exact this
 have hm:meV .split (.str s) [.str [40]] H=.ok (.ref H.length) (H++[.lst ((z7 40 s).map .str)]):=rfl
 subst hL
 unfold wf
 cases c1:isN w with
 | false=>
  refine⟨[.lst ((z7 40 s).map .str)],?_⟩
  simp! only[hm,h1,g81,zl,c1,Bool.not_false]
  rfl
 | true=>
  cases c2:w==s with
  | true=>
   refine⟨[.lst ((z7 40 s).map .str)],?_⟩
   simp! only[hm,h1,g81,zl,c1,Bool.not_true,c2]
   rfl
  | false=>
   have hpre:w <+: s:=hw ▸ List.takeWhile_prefix _
   have hlt:w.length<s.length:=by
    rcases Nat.lt_or_ge w.length s.length with h | h
    ·exact h
    ·have:=hpre.eq_of_length (Nat.le_antisymm hpre.length_le h)
     rw[this] at c2
     simp at c2
   have hne:s≠[]:=λ e=>by rw[e] at hlt;cases hlt
   obtain⟨c,hc⟩:∃ c,s[s.length-1]?=some c:=last hne
   have hlast:∀ G,zC G (.str s) (.int (-1))=some (.str [c]):=λ G=>by rw[Jx hne,hc];rfl
   have ecc:(some c==some 41)=(c==41):=rfl
   have hk1:((((s.count 40:Nat):Int))==1)=(s.count 40==1):=ieq _ 1
   have hk2:((((s.count 41:Nat):Int))==1)=(s.count 41==1):=ieq _ 1
   have hct:∀ c G,meV .count (.str s) [.str [c]] G=.ok (.int ((s.count c:Nat):Int)) G:=λ c G=>rfl
   have ec1:([c]==[41])=(c==41):=Bool.and_true _
   rw[hc,ecc]
   have hslc:wY (.str s) (.int ((w.length:Int)+1)) (.int (-1))=some (.str ((s.take (s.length-1)).drop (w.length+1))):=by
    rw[v_slc,z1i,Wk hlt]
   generalize hin:(s.take (s.length-1)).drop (w.length+1)=inner at hslc
   cases c3:c==41 with
   | false=>
    refine⟨[.lst ((z7 40 s).map .str)],?_⟩
    simp! only[hm,h1,g81,zl,c1,Bool.not_true,Bool.not_false,c2,hlast,ec1,c3]
    rfl
   | true=>
    cases c4:s.count 40==1 with
    | false=>
     refine⟨[.lst ((z7 40 s).map .str)],?_⟩
     simp! only[hm,h1,g81,zl,c1,Bool.not_true,Bool.not_false,c2,hlast,ec1,c3,hct,hk1,c4]
     rfl
    | true=>
     cases c5:s.count 41==1 with
     | false=>
      refine⟨[.lst ((z7 40 s).map .str)],?_⟩
      simp! only[hm,h1,g81,zl,c1,Bool.not_true,Bool.not_false,c2,hlast,ec1,c3,hct,hk1,c4,hk2,c5]
      rfl
     | true=>
      have hil:inner.length<1000:=by
       rw[←hin];exact dlt (tlt (Nat.lt_trans hn (by decide)))
      generalize hds:(if inner==[] then[] else z7 44 inner)=ds
      have hdl:ds.length<1000:=by
       rw[←hds]
       cases inner==[] with
       | true=>exact(by decide:0<1000)
       | false=>exact Nat.lt_of_le_of_lt (split_len 44 inner) (Nat.lt_trans (Nat.succ_lt_succ (hin ▸ dlt (tlt hn):inner.length<900)) (by decide))
      generalize hG:(H++[.lst ((z7 40 s).map .str)]:Hp)=G
      have hm':∀ K,meV .split (.str inner) [.str [44]] K=.ok (.ref K.length) (K++[.lst ((z7 44 inner).map .str)]):=λ K=>rfl
      have hG1:∀ J,G++J=H++(O.lst ((z7 40 s).map .str)::J):=λ J=>by rw[←hG,List.append_assoc];rfl
      have hGH:H.length<=G.length:=by rw[←hG,List.length_append];exact Nat.le_add_right _ _
      have htl:=z0s (n:=n) (G:=G) (s:=s) (w:=w) (inner:=inner) hdl
      skip
      have h1':zC G (.ref H.length) (.int 0)=some (.str w):=by rw[←hG];exact h1
      have hend:∀ b,Ww H (yt (⟨"_law_named",1,["text","name","inner","dummies","k"],false,b⟩:XFn) H (if wy [] ds then .ret (.tup [.str w,.ref G.length]) (G++[.lst (ds.map .str)]) else .ret .none (G++[.lst (ds.map .str)]))) (if wy [] ds then some (w,some ds) else none):=by
       intro b
       cases wy [] ds with
       | true=>exact⟨_,G.length,by rw[hG1];rfl,by rw[←hG1,zg];rfl,hGH⟩
       | false=>exact⟨_,by rw[hG1];rfl⟩
      show Ww H _ (if wy [] ds=true then some (w,some ds) else none)
      refine(congrArg (λ o=>Ww H (yt _ H o) (if wy [] ds=true then some (w,some ds) else none)) ?_).mpr (hend _)
      cases c6:inner==[] with
      | true=>
       rw[c6] at hds
       have hds':ds=[]:=hds.symm
       subst hds'
       simp! only[hm,hG,h1',g81,zl,c1,Bool.not_true,Bool.not_false,c2,hlast,ec1,c3,hct,hk1,c4,hk2,c5,hslc,c6]
       exact htl
      | false=>
       rw[c6] at hds
       have hds':z7 44 inner=ds:=hds
       subst hds'
       simp! only[hm,hG,h1',g81,zl,c1,Bool.not_true,Bool.not_false,c2,hlast,ec1,c3,hct,hk1,c4,hk2,c5,hslc,c6,hm']
       exact htl
noncomputable def KND:List (List Nat×V):=[(@"INTEGER",.int 0),(@"REAL",.int 1),(@"DOUBLEPRECISION",.int 2),(@"COMPLEX",.int 3),(@"LOGICAL",.int 4),(@"CHARACTER",.int 5)]
theorem Yr{n:Nat}:Ev (n+1) 53 [] H=.ok (.ref H.length) (H++[.dct KND]):=by
 rw[za (k:=53) (b:=wg) (L:=[]) rfl rfl rfl rfl rfl rfl]
 unfold wg
 have h:(decide ((KND.map (·.1)).Nodup)&&decide (KND.length<=15))=true:=by decide
 unfold KND at h ⊢
 simp! only[Ql,WN,Kc,QT,Qg,h]
 rfl
noncomputable def wZ(p:List Nat):Option V:=match lenV [.str p] with
 | some (.bool _)=>none
 | x=>x
noncomputable def xU(p:List Nat):Option V:=if p.take 9==CHN then(wZ (p.drop 9)).map λ v=>.tup [.int 5,v] else(KND.find? λ q=>p==q.1).map λ q=>.tup [q.2,.none]
theorem Wb:zd .ne .none (.bool false) H=some true:=by
 rfl
theorem KD:zd .ne (.bool false) (.bool false) H=some false:=by
 rfl
theorem z2z{x:List Nat}:zd .ne (.str x) (.bool false) H=some true:=by
 rfl
theorem z0u{x y:List Nat}:zd .ne (.tup [.str x,.str y]) (.bool false) H=some true:=by
 rfl
theorem z0S{x:List Nat}{y:Int}:zd .ne (.tup [.str x,.int y]) (.bool false) H=some true:=by
 rfl
noncomputable def JJ(o:Option V):Option V:=match o with
 | some (.bool _)=>none
 | x=>x
inductive LnOk(H:Hp)(o:Option V):Prop where
 | no:o=some (.bool false)->LnOk H o
 | yes (v:V):o=some v->zd .ne v (.bool false) H=some true->JJ o=o->LnOk H o
theorem z0W(H:Hp)(p:List Nat):LnOk H (lenV [.str p]):=by
 cases p with
 | nil=>exact .yes .none rfl Wb rfl
 | cons c q=>exact i_ (.no rfl) (i_ (.yes _ rfl z2z rfl) (i_ (.yes _ rfl z0u rfl) (i_ (.no rfl) (.yes _ rfl z0S rfl))))
theorem z0j(p:List Nat):∃ v,lenV [.str p]=some v/\zd .ne v (.bool false) H=some (wZ p).isSome/\(∀ v',wZ p=some v'->v'=v):=by
 show ∃ v,lenV [.str p]=some v/\zd .ne v (.bool false) H=some (JJ (lenV [.str p])).isSome/\(∀ v',JJ (lenV [.str p])=some v'->v'=v)
 cases z0W H p with
 | no h=>rw[h];exact⟨_,rfl,KD,λ _ h=>n1 h⟩
 | yes v h h2 h3=>rw[h3,h];exact⟨v,rfl,h2,λ _ h=>(Option.some.inj h).symm⟩
noncomputable def Headed(H:Hp)(r:R V):Option (List Nat×List Nat×List (List Nat)×V)->Prop
 | none=>∃ J,r=.ok .none (H++J)
 | some (k,w,ds,res)=>∃ J d,r=.ok (.tup [.str k,.str w,.ref d,res]) (H++J)/\(H++J)[d]?=some (.lst (ds.map .str))/\H.length<=d
noncomputable def Zb(H:Hp)(o:Out)(w:List Nat)(d:Nat):Option V->Prop
 | none=>∃ J,o=.ret .none (H++J)
 | some res=>∃ J,o=.ret (.tup [.str yg,.str w,.ref d,res]) (H++J)
section
variable {n d a i:Nat}{H:Hp}{s p w:List Nat}
theorem z0E{q:List Nat×V}(hq:KND.lookup q.1=some q.2){x y:Option V} :
  let L:Lc:=[some (.str s),some (.int (a:Int)),some (.tup [.str w,.ref d]),some (.str p),some (.str q.1),y]
  ((q.1==CHN&&p.take 9==CHN)=true/\Zb H (evS G_ (Ev (n+1)) 2000 yF L H) w d ((wZ (p.drop 9)).map λ v=>.tup [q.2,v])) \/
  ((q.1==CHN&&p.take 9==CHN)=false/\(p==q.1)=true/\Zb H (evS G_ (Ev (n+1)) 2000 yF L H) w d (some (.tup [q.2,.none]))) \/
  ((q.1==CHN&&p.take 9==CHN)=false/\(p==q.1)=false/\∃ y',evS G_ (Ev (n+1)) 2000 yF L H=.cont [some (.str s),some (.int (a:Int)),some (.tup [.str w,.ref d]),some (.str p),some (.str q.1),y'] H):=by
 have hk:zC (H++[.dct KND]) (.ref H.length) (.str q.1)=some q.2:=by
  have:(H++[.dct KND])[H.length]?=some (.dct KND):=by rw[zg];rfl
  show(match (_:Hp)[H.length]? with | some (.dct l)=>l.lookup q.1 | _=>none)=_
  rw[this];exact hq
 have i0:∀ G,zC G (.tup [.str w,.ref d]) (.int 0)=some (.str w):=λ G=>rfl
 have i1:∀ G,zC G (.tup [.str w,.ref d]) (.int 1)=some (.ref d):=λ G=>rfl
 have ht:wY (.str p) .none (.int 9)=some (.str (p.take 9)):=(v_slc0 p 9).trans (by rw[show(9:Int)=((9:Nat):Int) from rfl,zp])
 have hd:wY (.str p) (.int 9) .none=some (.str (p.drop 9)):=(v_slcE p 9).trans (by rw[show(9:Int)=((9:Nat):Int) from rfl,zL])
 have hnn:∀ G,zd .ne .none (.bool false) G=some true:=λ G=>Wb
 intro L
 have hfin:∀ v:V,zd .ne v (.bool false) H=some true->evS G_ (Ev (n+1)) 2000 jF [some (.str s),some (.int (a:Int)),some (.tup [.str w,.ref d]),some (.str p),some (.str q.1),some v] H=.ret (.tup [.str yg,.str w,.ref d,.tup [q.2,v]]) (H++[.dct KND]):=λ v hv=>by
  unfold jF
  simp! only[hv,i0,i1,g82,Yr,hk]
  rfl
 have hfin0:∀ v:V,zd .ne v (.bool false) H=some false->evS G_ (Ev (n+1)) 2000 jF [some (.str s),some (.int (a:Int)),some (.tup [.str w,.ref d]),some (.str p),some (.str q.1),some v] H=.ret .none H:=λ v hv=>by
  unfold jF
  simp! only[hv]
 obtain⟨v,l1,l2,l3⟩:=z0j (H:=H) (p.drop 9)
 have hlen:Ev (n+1) 60 [.str (p.drop 9)] H=.ok v H:=by rw[Vd,l1];rfl
 cases c1:q.1==CHN with
 | true=>
  unfold CHN at c1
  cases c2:p.take 9==CHN with
  | true=>
   refine .inl ⟨rfl,?_⟩
   have hq1:q.1=CHN:=by unfold CHN;exact be_ c1
   have c2':(p.take 9==q.1)=true:=by rw[hq1];exact c2
   have hrun:evS G_ (Ev (n+1)) 2000 yF L H=evS G_ (Ev (n+1)) 2000 jF [some (.str s),some (.int (a:Int)),some (.tup [.str w,.ref d]),some (.str p),some (.str q.1),some v] H:=by
    unfold yF
    simp! only[L,c1,ht,c2',g83,hd,hlen]
   rw[hrun]
   cases hl:wZ (p.drop 9) with
   | none=>
    rw[hl] at l2
    exact⟨[],by rw[List.append_nil];exact hfin0 v l2⟩
   | some v'=>
    rw[hl] at l2
    rw[l3 v' hl]
    exact⟨_,hfin v l2⟩
  | false=>
   have hq1:q.1=CHN:=by unfold CHN;exact be_ c1
   have c2':(p.take 9==q.1)=false:=by rw[hq1];exact c2
   have hpq:(p==q.1)=false:=by
    rw[beq_eq_false_iff_ne];intro e;rw[e,hq1] at c2;cases c2
   refine .inr (.inr ⟨rfl,hpq,some .none,?_⟩)
   unfold yF
   simp! only[L,c1,ht,c2',hpq,Bool.not_false]
 | false=>
  unfold CHN at c1
  cases c3:p==q.1 with
  | true=>
   refine .inr (.inl ⟨rfl,rfl,?_⟩)
   refine⟨_,Eq.trans ?_ (hfin .none (hnn _))⟩
   unfold yF
   simp! only[L,c1,c3,Bool.not_true]
  | false=>
   refine .inr (.inr ⟨rfl,rfl,some .none,?_⟩)
   unfold yF
   simp! only[L,c1,c3,Bool.not_false]
theorem Je{n a:Nat}{w:List Nat}(hj:H[j]?=some (.dct KND))(l:List (List Nat×V)):∀ (x y:Option V),(∀ q∈l,KND.lookup q.1=some q.2)->
  (∃ q,l.find? (λ q=>(q.1==CHN&&p.take 9==CHN)||p==q.1)=some q/\Zb H (yu 4 (evS G_ (Ev (n+1)) 2000 yF) j KND l [some (.str s),some (.int (a:Int)),some (.tup [.str w,.ref d]),some (.str p),x,y] H) w d (if (q.1==CHN&&p.take 9==CHN) then(wZ (p.drop 9)).map λ v=>.tup [q.2,v] else some (.tup [q.2,.none]))) \/
  (l.find? (λ q=>(q.1==CHN&&p.take 9==CHN)||p==q.1)=none/\∃ x' y',yu 4 (evS G_ (Ev (n+1)) 2000 yF) j KND l [some (.str s),some (.int (a:Int)),some (.tup [.str w,.ref d]),some (.str p),x,y] H=.next [some (.str s),some (.int (a:Int)),some (.tup [.str w,.ref d]),some (.str p),x',y'] H):=by
 induction l with
 | nil=>exact λ x y _=>.inr ⟨rfl,x,y,KH hj⟩
 | cons q r ih=>
  intro x y hq
  have hb:=z0E (n:=n) (d:=d) (a:=a) (H:=H) (s:=s) (p:=p) (w:=w) (hq q (.head _)) (x:=x) (y:=y)
  dsimp only at hb
  have hst:yu 4 (evS G_ (Ev (n+1)) 2000 yF) j KND (q::r) [some (.str s),some (.int (a:Int)),some (.tup [.str w,.ref d]),some (.str p),x,y] H=(evS G_ (Ev (n+1)) 2000 yF [some (.str s),some (.int (a:Int)),some (.tup [.str w,.ref d]),some (.str p),some (.str q.1),y] H).turn (yu 4 (evS G_ (Ev (n+1)) 2000 yF) j KND r):=WI hj
  rw[hst,List.find?_cons]
  have hturn:∀ {o:Out} {res:Option V} (f:Lc->Hp->Out),Zb H o w d res->Zb H (o.turn f) w d res:=by
   intro o res f h
   cases res with
   | none=>obtain⟨J,rfl⟩:=h;exact⟨J,rfl⟩
   | some v=>obtain⟨J,rfl⟩:=h;exact⟨J,rfl⟩
  rcases hb with ⟨h1,h2⟩ | ⟨h1,h1',h2⟩ | ⟨h1,h1',y',h2⟩
  ·refine .inl ⟨q,by rw[h1];rfl,?_⟩
   rw[if_pos h1]
   exact hturn _ h2
  ·refine .inl ⟨q,by rw[h1,h1'];rfl,?_⟩
   rw[if_neg (by rw[h1];decide)]
   exact hturn _ h2
  ·rw[h2,h1,h1']
   exact ih (some (.str q.1)) y' (λ q' hq'=>hq q' (.tail _ hq'))
theorem Vz(p:List Nat):xU p=match KND.find? (λ q=>(q.1==CHN&&p.take 9==CHN)||p==q.1) with
  | some q=>if (q.1==CHN&&p.take 9==CHN) then(wZ (p.drop 9)).map λ v=>.tup [q.2,v] else some (.tup [q.2,.none])
  | none=>none:=by
 unfold xU
 cases c:p.take 9==CHN with
 | true=>
  have hp:∀ q∈KND.take 5,(p==q.1)=false:=by
   intro q hq
   rw[beq_eq_false_iff_ne]
   intro e
   rw[e] at c
   have:∀ q∈KND.take 5,(q.1.take 9==CHN)=false:=by decide
   rw[this q hq] at c
   cases c
  have h1:=hp _ (.head _)
  have h2:=hp _ (.tail _ (.head _))
  have h3:=hp _ (.tail _ (.tail _ (.head _)))
  have h4:=hp _ (.tail _ (.tail _ (.tail _ (.head _))))
  have h5:=hp _ (.tail _ (.tail _ (.tail _ (.tail _ (.head _)))))
  simp only[KND] at *
  simp only[List.find?_cons,h1,h2,h3,h4,h5,Bool.and_true,Bool.or_false]
  rfl
 | false=>
  simp only[Bool.and_false,Bool.false_or]
  cases KND.find? λ q=>p==q.1<;>rfl
noncomputable def lfF(s:List Nat):Option (List Nat×List Nat×List (List Nat)×V):=
 if z8 FUN s 0<0 then none else match lnF (s.drop ((z8 FUN s 0).toNat+8)) with
  | some (w,some ds)=>if ds.contains [42] then none else if s.take (z8 FUN s 0).toNat==[] then some (yg,w,ds,.none) else
    (xU (s.take (z8 FUN s 0).toNat)).map λ r=>(yg,w,ds,r)
  | _=>none
end
theorem kB(p s:List Nat):∀ k:Nat,z8 p s k = -1\/∃ a,z8 p s k=((a:Nat):Int):=by
 induction s with
 | nil=>
   intro k
   show(if p=[] then(k:Int) else -1) = -1\/_
   by_cases h:p=[]
   ·exact .inr ⟨k,if_pos h⟩
   ·exact .inl (if_neg h)
 | cons c r ih=>
   intro k
   show(if p.isPrefixOf (c::r) then(k:Int) else z8 p r (k+1)) = -1\/∃ a,(if p.isPrefixOf (c::r) then(k:Int) else z8 p r (k+1))=((a:Nat):Int)
   cases p.isPrefixOf (c::r) with
   | true=>exact .inr ⟨k,rfl⟩
   | false=>exact ih (k+1)
theorem KJ{f:XFn}{v:V}(hf:f.pure_=false):yt f H (.ret v H')=.ok v H':=by
 show(if f.pure_ then _ else _)=_
 rw[hf];rfl
theorem Headed.up{J:Hp}{r:R V}{o:Option (List Nat×List Nat×List (List Nat)×V)}(h:Headed (H++J) r o):Headed H r o:=by
 cases o with
 | none=>obtain⟨K,h⟩:=h;exact⟨J++K,by rw[h,List.append_assoc]⟩
 | some q=>
  obtain⟨k,w,ds,res⟩:=q
  obtain⟨K,d,h1,h2,h3⟩:=h
  rw[List.append_assoc] at h1 h2
  rw[List.length_append] at h3
  exact⟨J++K,d,h1,h2,Nat.le_trans (Nat.le_add_right _ _) h3⟩
theorem Z3{f:XFn}{o:Out}{w:List Nat}{J:Hp}{res:Option V}(hf:f.pure_=false)(h:Zb (H++J) o w d res)(hd:(H++J)[d]?=some (.lst (ds.map .str)))(hl:H.length<=d):Headed H (yt f H o) (res.map λ r=>(yg,w,ds,r)):=by
 cases res with
 | none=>
  obtain⟨K,rfl⟩:=h
  exact⟨J++K,(KJ hf).trans (congrArg (R.ok _) (List.append_assoc H J K))⟩
 | some r=>
  obtain⟨K,rfl⟩:=h
  refine⟨J++K,d,(KJ hf).trans (congrArg (R.ok _) (List.append_assoc H J K)),?_,hl⟩
  rw[←List.append_assoc,List.getElem?_append_left (gs_ hd).1]
  exact hd
section
variable {n:Nat}{H:Hp}{s:List Nat}
theorem X1(hn:s.length<800):Headed H (Ev (n+3) 61 [.str s] H) (lfF s):=by
 rw[za (k:=61) (b:=zQ) (L:=[some (.str s),none,none,none,none,none]) rfl rfl rfl rfl rfl rfl]
 unfold lfF
 rcases kB FUN s 0 with hf | ⟨a,hf⟩
 ·rw[hf,if_pos (by decide)]
  have hf':z8 @"FUNCTION" s 0 = -1:=hf
  have hd:s.drop (adj s.length (-1+8))=s.drop 7:=zL s 7
  have hN:=jc (n:=n) (s:=s.drop 7) (H:=H) (dlt (Nat.lt_trans hn (by decide)))
  have hlt:decide ((-1:Int)<0)=true:=rfl
  obtain⟨v,J,hv⟩:∃ v J,Ev (n+2) 59 [.str (s.drop 7)] H=.ok v (H++J):=by
   cases hq:lnF (s.drop 7) with
   | none=>rw[hq] at hN;obtain⟨J,h⟩:=hN;exact⟨_,J,h⟩
   | some q=>
    obtain⟨w,od⟩:=q
    rw[hq] at hN
    cases od with
    | none=>obtain⟨J,h⟩:=hN;exact⟨_,J,h⟩
    | some ds=>obtain⟨J,d,h,_⟩:=hN;exact⟨_,J,h⟩
  refine⟨J,?_⟩
  unfold zQ Kn wt
  simp! only[hf',g84,hd,hv,hlt]
  rfl
 ·rw[hf,if_neg (Int.not_lt.mpr (Int.natCast_nonneg a)),Int.toNat_natCast]
  have hf':z8 @"FUNCTION" s 0=(a:Int):=hf
  have hd:s.drop (adj s.length ((a:Int)+8))=s.drop (a+8):=zL s (a+8)
  have ht:s.take (adj s.length (a:Int))=s.take a:=zp s a
  have hlt:decide ((a:Int)<0)=false:=decide_eq_false (Int.not_lt.mpr (Int.natCast_nonneg a))
  have hN:=jc (n:=n) (s:=s.drop (a+8)) (H:=H) (dlt (Nat.lt_trans hn (by decide)))
  have r3:∀ {v J},Ev (n+2) 59 [.str (s.drop (a+8))] H=.ok v (H++J)->evS G_ (Ev (n+2)) 2000 zQ [some (.str s),none,none,none,none,none] H=evS G_ (Ev (n+2)) 2000 wt [some (.str s),some (.int (a:Int)),some v,some (.str (s.take a)),none,none] (H++J):=λ h=>by
   unfold zQ Kn
   simp! only[hf',g84,hd,h,ht]
  have hnone:∀ G,zd .is_ .none .none G=some true:=λ G=>rfl
  have htup:∀ G l,zd .is_ (.tup l) .none G=some false:=λ G l=>rfl
  have href:∀ G i,zd .is_ (.ref i) .none G=some false:=λ G l=>rfl
  have i0:∀ G w (x:V),zC G (.tup [.str w,x]) (.int 0)=some (.str w):=λ G w x=>rfl
  have i1:∀ G w (x:V),zC G (.tup [.str w,x]) (.int 1)=some x:=λ G w x=>rfl
  cases hq:lnF (s.drop (a+8)) with
  | none=>
   rw[hq] at hN
   obtain⟨J,h⟩:=hN
   refine⟨J,?_⟩
   rw[r3 h]
   unfold wt
   simp! only[hlt,hnone]
   rfl
  | some q=>
   obtain⟨w,od⟩:=q
   rw[hq] at hN
   cases od with
   | none=>
    obtain⟨J,h⟩:=hN
    refine⟨J,?_⟩
    rw[r3 h]
    unfold wt
    simp! only[hlt,hnone,htup,i1]
    rfl
   | some ds=>
    obtain⟨J,d,h,h2,h3⟩:=hN
    have hin:=kq (x:=[42]) h2
    dsimp only
    rw[r3 h]
    cases c1:ds.contains [42] with
    | true=>
     rw[c1] at hin
     rw[if_pos rfl]
     refine⟨J,?_⟩
     unfold wt
     simp! only[hlt,htup,i1,href,hin]
     rfl
    | false=>
     rw[c1] at hin
     rw[if_neg (by decide)]
     have r4:evS G_ (Ev (n+2)) 2000 wt [some (.str s),some (.int (a:Int)),some (.tup [.str w,.ref d]),some (.str (s.take a)),none,none] (H++J)=evS G_ (Ev (n+2)) 2000 kR [some (.str s),some (.int (a:Int)),some (.tup [.str w,.ref d]),some (.str (s.take a)),none,none] (H++J):=by
      unfold wt
      simp! only[hlt,htup,i1,href,hin]
     rw[r4]
     cases c2:s.take a==([]:List Nat) with
     | true=>
      rw[if_pos rfl]
      refine⟨J,d,?_,h2,h3⟩
      unfold kR
      simp! only[i0,i1,c2]
      rfl
     | false=>
      rw[if_neg (by decide),Vz]
      have hj:(H++J++[O.dct KND])[(H++J).length]?=some (.dct KND):=by rw[zg];rfl
      have hkl:∀ q∈KND,KND.lookup q.1=some q.2:=by
       intro q hq
       simp only[KND,List.mem_cons,List.not_mem_nil,or_false] at hq
       rcases hq with rfl | rfl | rfl | rfl | rfl | rfl<;>rfl
      have hloop:=Je (n:=n+1) (d:=d) (a:=a) (s:=s) (p:=s.take a) (w:=w) hj KND none none hkl
      have hfor:evS G_ (Ev (n+2)) 2000 (.forE [4] (.call (.glb 82) .nil) yF) [some (.str s),some (.int (a:Int)),some (.tup [.str w,.ref d]),some (.str (s.take a)),none,none] (H++J)=yu 4 (evS G_ (Ev (n+2)) 2000 yF) (H++J).length KND KND [some (.str s),some (.int (a:Int)),some (.tup [.str w,.ref d]),some (.str (s.take a)),none,none] (H++J++[.dct KND]):=z2t (by simp! only[g82,Yr]) hj
      have hrun:evS G_ (Ev (n+2)) 2000 kR [some (.str s),some (.int (a:Int)),some (.tup [.str w,.ref d]),some (.str (s.take a)),none,none] (H++J)=Out.thn (yu 4 (evS G_ (Ev (n+2)) 2000 yF) (H++J).length KND KND [some (.str s),some (.int (a:Int)),some (.tup [.str w,.ref d]),some (.str (s.take a)),none,none] (H++J++[.dct KND])) (evS G_ (Ev (n+2)) 2000 (.cons (.ret (.cst .none)) .nil)):=by
       rw[←hfor]
       unfold kR
       simp! only[c2]
      rw[hrun]
      have hd':(H++(J++[O.dct KND]))[d]?=some (.lst (ds.map .str)):=by
       rw[←List.append_assoc,List.getElem?_append_left (gs_ h2).1];exact h2
      rw[List.append_assoc] at hloop ⊢
      rcases hloop with ⟨q,q1,q2⟩ | ⟨q1,x',y',q2⟩
      ·rw[q1]
       refine Z3 (J:=J++[.dct KND]) rfl ?_ hd' h3
       revert q2
       dsimp only
       generalize (if (q.1==CHN&&(s.take a).take 9==CHN)=true then(wZ ((s.take a).drop 9)).map λ v=>V.tup [q.2,v] else some (V.tup [q.2,V.none]))=res
       intro q2
       cases res with
       | none=>obtain⟨K,hK⟩:=q2;exact⟨K,by rw[hK];rfl⟩
       | some v=>obtain⟨K,hK⟩:=q2;exact⟨K,by rw[hK];rfl⟩
      ·rw[q1]
       refine Z3 (J:=J++[.dct KND]) rfl ⟨[],?_⟩ hd' h3
       rw[q2,List.append_nil]
       simp! only[]
noncomputable def lhF(s:List Nat):Option (List Nat×List Nat×List (List Nat)×V):=
 if s.take 7==@"PROGRAM" then(if isN (s.drop 7) then some (KPR,s.drop 7,[],.none) else none) else
 if s.take 9==@"BLOCKDATA" then(if s==@"BLOCKDATA" then some (KBL,BLK,[],.none) else if isN (s.drop 9) then some (KBL,s.drop 9,[],.none) else none) else
 if s.take 10==@"SUBROUTINE" then(lnF (s.drop 10)).map (λ q=>(KSU,q.1,q.2.getD [],.none)) else lfF s
theorem Jn(hn:s.length<800):Headed H (Ev (n+4) 62 [.str s] H) (lhF s):=by
 rw[za (k:=62) (b:=yz) (L:=[some (.str s),none]) rfl rfl rfl rfl rfl rfl]
 unfold lhF
 have t7:s.take (adj s.length 7)=s.take 7:=zp s 7
 have t9:s.take (adj s.length 9)=s.take 9:=zp s 9
 have t10:s.take (adj s.length 10)=s.take 10:=zp s 10
 have d7:s.drop (adj s.length 7)=s.drop 7:=zL s 7
 have d9:s.drop (adj s.length 9)=s.drop 9:=zL s 9
 have d10:s.drop (adj s.length 10)=s.drop 10:=zL s 10
 cases c1:s.take 7==@"PROGRAM" with
 | true=>
  rw[if_pos rfl]
  cases c2:isN (s.drop 7) with
  | true=>
   refine⟨[.lst []],H.length,?_,by rw[zg];rfl,Nat.le_refl _⟩
   unfold yz
   simp! only[t7,c1,d7,g81,zl,c2]
   rfl
  | false=>
   refine⟨[],?_⟩
   unfold yz
   simp! only[t7,c1,d7,g81,zl,c2,List.append_nil]
   rfl
 | false=>
  rw[if_neg (by decide),show evS G_ (Ev (n+3)) 2000 yz [some (.str s),none] H=evS G_ (Ev (n+3)) 2000 wC [some (.str s),none] H by unfold yz;simp! only[t7,c1]]
  cases c2:s.take 9==@"BLOCKDATA" with
  | true=>
   rw[if_pos rfl,show evS G_ (Ev (n+3)) 2000 wC [some (.str s),none] H=(evS G_ (Ev (n+3)) 2000 KS [some (.str s),none] H).thn (evS G_ (Ev (n+3)) 2000 xQ) by unfold wC;simp! only[t9,c2]]
   unfold KS
   cases c3:s==@"BLOCKDATA" with
   | true=>
    refine⟨[.lst []],H.length,?_,by rw[zg];rfl,Nat.le_refl _⟩
    simp! only[c3]
    rfl
   | false=>
    rw[if_neg (by decide)]
    cases c4:isN (s.drop 9) with
    | true=>
     refine⟨[.lst []],H.length,?_,by rw[zg];rfl,Nat.le_refl _⟩
     simp! only[c3,d9,g81,zl,c4]
     rfl
    | false=>
     refine⟨[],?_⟩
     simp! only[c3,d9,g81,zl,c4,List.append_nil]
     rfl
  | false=>
   rw[if_neg (by decide),show evS G_ (Ev (n+3)) 2000 wC [some (.str s),none] H=evS G_ (Ev (n+3)) 2000 xQ [some (.str s),none] H by unfold wC;simp! only[t9,c2]]
   cases c3:s.take 10==@"SUBROUTINE" with
   | true=>
    rw[if_pos rfl,show evS G_ (Ev (n+3)) 2000 xQ [some (.str s),none] H=(evS G_ (Ev (n+3)) 2000 Kq [some (.str s),none] H).thn (evS G_ (Ev (n+3)) 2000 k8) by unfold xQ;simp! only[t10,c3]]
    unfold Kq
    have hN:=jc (n:=n+1) (s:=s.drop 10) (H:=H) (dlt (Nat.lt_trans hn (by decide)))
    have hnone:∀ G,zd .is_ .none .none G=some true:=λ G=>rfl
    have htup:∀ G l,zd .is_ (.tup l) .none G=some false:=λ G l=>rfl
    have i0:∀ G w (x:V),zC G (.tup [.str w,x]) (.int 0)=some (.str w):=λ G w x=>rfl
    have i1:∀ G w (x:V),zC G (.tup [.str w,x]) (.int 1)=some x:=λ G w x=>rfl
    have tn:∀ G,w9 G .none=some false:=λ G=>rfl
    cases hq:lnF (s.drop 10) with
    | none=>
     rw[hq] at hN
     obtain⟨J,h⟩:=hN
     refine⟨J,?_⟩
     simp! only[d10,g84,h,hnone]
     rfl
    | some q=>
     obtain⟨w,od⟩:=q
     rw[hq] at hN
     cases od with
     | none=>
      obtain⟨J,h⟩:=hN
      refine⟨J++[.lst []],(H++J).length,?_,by rw[←List.append_assoc,zg];rfl,by rw[List.length_append];exact Nat.le_add_right _ _⟩
      simp! only[d10,g84,h,htup,i0,i1,tn,List.append_assoc]
      rfl
     | some ds=>
      obtain⟨J,d,h,h2,h3⟩:=hN
      cases ds with
      | nil=>
       have tr:w9 (H++J) (.ref d)=some false:=by
        show(match (H++J)[d]? with | some (.lst l)=>some (!l.isEmpty) | _=>none)=_
        rw[h2];rfl
       refine⟨J++[.lst []],(H++J).length,?_,by rw[←List.append_assoc,zg];rfl,by rw[List.length_append];exact Nat.le_add_right _ _⟩
       simp! only[d10,g84,h,htup,i0,i1,tr,List.append_assoc]
       rfl
      | cons x r=>
       have tr:w9 (H++J) (.ref d)=some true:=by
        show(match (H++J)[d]? with | some (.lst l)=>some (!l.isEmpty) | _=>none)=_
        rw[h2];rfl
       refine⟨J,d,?_,h2,h3⟩
       simp! only[d10,g84,h,htup,i0,i1,tr]
       rfl
   | false=>
    rw[if_neg (by decide),show evS G_ (Ev (n+3)) 2000 xQ [some (.str s),none] H=evS G_ (Ev (n+3)) 2000 k8 [some (.str s),none] H by unfold xQ;simp! only[t10,c3]]
    unfold k8
    have hF:=X1 (n:=n) (s:=s) (H:=H) hn
    cases hq:lfF s with
    | none=>
     rw[hq] at hF
     obtain⟨J,h⟩:=hF
     refine⟨J,?_⟩
     simp! only[g85,h]
     rfl
    | some q=>
     obtain⟨k,w,ds,res⟩:=q
     rw[hq] at hF
     obtain⟨J,d,h,h2,h3⟩:=hF
     refine⟨J,d,?_,h2,h3⟩
     simp! only[g85,h]
     rfl
end
noncomputable def z9(ns:List Int)(i m:Nat):Nat:=((if i<ns.length then ns[i]?.getD 0 else 3*(i:Int)+1) % (m:Int)).toNat
theorem y4{m:Nat}(hm:0<m):z9 ns i m<m:=(Int.toNat_lt (Int.emod_nonneg _ (Int.ne_of_gt (Int.ofNat_lt.mpr hm)))).mpr (Int.emod_lt_of_pos _ (Int.ofNat_lt.mpr hm))
theorem V5(ns:List Int):V.flatIn.flatL (ns.map .int)=true:=by
 induction ns with
 | nil=>rfl
 | cons a r ih=>exact ih
theorem Q0(a b:Int)(H:Hp):xT .mod (.int a) (.int b) H=if decide (0<b) then .ok (.int (a % b)) H else .bad:=rfl
theorem xo{n:Nat}{m:Nat}(hl:ns.length<=63)(hm:0<m)(hi:i<100):Ev (n+1) 57 [.clst (ns.map .int),.int (i:Int),.int (m:Int)] H=.ok (.int (z9 ns i m:Nat)) H:=by
 rw[zv (k:=57) (b:=v9) (L:=[some (.clst (ns.map .int)),some (.int (i:Int)),some (.int (m:Int))]) rfl rfl rfl rfl rfl rfl (by show(V.flatIn.flatL (ns.map .int)&&_)=_;rw[V5];rfl)]
 unfold v9 z9
 have hd:decide ((0:Int)<(m:Int))=true:=decide_eq_true (Int.ofNat_lt.mpr hm)
 have hlen:∀ G,biV .len [.clst (ns.map .int)] G=some (.int (ns.length:Nat)):=λ G=>by
  show(if decide ((ns.map V.int).length<2 ^ 20)=true then some (V.int ((ns.map V.int).length:Nat)) else none)=_
  rw[List.length_map,if_pos (decide_eq_true (Nat.lt_of_le_of_lt hl (by decide)))]
 have hnn:∀ x:Int,(((x % (m:Int)).toNat:Nat):Int)=x % (m:Int):=λ x=>Int.toNat_of_nonneg (Int.emod_nonneg _ (Int.ne_of_gt (Int.ofNat_lt.mpr hm)))
 by_cases h:i<ns.length
 ·have h1:decide (((i:Nat):Int)<((ns.length:Nat):Int))=true:=ylt h
  have h2:zC [] (.clst (ns.map .int)) (.int (i:Int))=some (.int (ns[i]?.getD 0)):=by
   show(if decide ((ns.map V.int).length<2 ^ 20)=true then(ns.map V.int)[i]? else none)=_
   rw[List.length_map,if_pos (decide_eq_true (Nat.lt_of_le_of_lt hl (by decide))),List.getElem?_map,List.getElem?_eq_getElem h]
   rfl
  rw[if_pos h,hnn]
  simp! only[hlen,h1,h2,Q0,hd]
  rfl
 ·have h1:decide (((i:Nat):Int)<((ns.length:Nat):Int))=false:=nlt (Nat.le_of_not_lt h)
  have hs:(zE 3||zE (i:Int))=true:=rfl
  rw[if_neg h,hnn]
  simp! only[hlen,h1,Q0,hs,hd]
  rfl
noncomputable def HEADS:List (List Nat):=[@"PROGRAM ",@"SUBROUTINE ",@"FUNCTION ",@"BLOCK DATA ",@"INTEGER FUNCTION ",@"REAL FUNCTION ",@"DOUBLE PRECISION FUNCTION ",@"COMPLEX FUNCTION ",@"LOGICAL FUNCTION ",@"CHARACTER FUNCTION ",@"CHARACTER*8 FUNCTION ",@"CHARACTER*(*) FUNCTION ",@"CHARACTER*(K) FUNCTION ",@"CHARACTER * (2) FUNCTION "]
noncomputable def NAMES:List (List Nat):=[[83],@"SUB1",@"FUNCT",@"A12345",@"P9"]
noncomputable def DUMS:List (List Nat):=[[],@"()",@"(A)",@"(A, B1)",@"(X, Y, Z)",@"(*)",@"(A, *, B)",@"(*, *)",@"(A, A)",@"( K,L23456 )"]
noncomputable def SIGNS:List Nat:=@"(),*1AN8 "
noncomputable def KI:List Nat:=@"BLOCK DATA"
theorem Kr{n:Nat}:Ev (n+1) 54 [] H=.ok (.ref H.length) (H++[.lst (HEADS.map .str)]):=by
 rw[za (k:=54) (b:=ww) (L:=[]) rfl rfl rfl rfl rfl rfl]
 unfold ww
 simp! only[]
 rfl
theorem Q5{n:Nat}:Ev (n+1) 55 [] H=.ok (.ref H.length) (H++[.lst (NAMES.map .str)]):=by
 rw[za (k:=55) (b:=wl) (L:=[]) rfl rfl rfl rfl rfl rfl]
 unfold wl
 simp! only[]
 rfl
theorem Wy{n:Nat}:Ev (n+1) 56 [] H=.ok (.ref H.length) (H++[.lst (DUMS.map .str)]):=by
 rw[za (k:=56) (b:=xD) (L:=[]) rfl rfl rfl rfl rfl rfl]
 unfold xD
 simp! only[]
 rfl
noncomputable def zF(l:List (List Nat))(k:Nat):List Nat:=l[k]?.getD []
theorem kN{l:List (List Nat)}(hk:k<l.length):zC (H++[.lst (l.map .str)]) (.ref H.length) (.int (k:Int))=some (.str (zF l k)):=by
 rw[ZN (by rw[zg];rfl),List.getElem?_map]
 unfold zF
 rw[List.getElem?_eq_getElem hk]
 rfl
theorem kF{l:List (List Nat)}{m:Nat}(h:∀ x∈l,x.length<=m)(k:Nat):(zF l k).length<=m:=by
 unfold zF
 cases hk:l[k]? with
 | none=>exact Nat.zero_le _
 | some x=>exact h x (List.mem_of_getElem? hk)
noncomputable def zI(ns:List Int):List Nat:=
 (if (((z9 ns 0 14:Nat):Int)==3)&&(((z9 ns 2 2:Nat):Int)==1) then KI else zF HEADS (z9 ns 0 14)++zF NAMES (z9 ns 1 5)) ++
 (if (!((((z9 ns 0 14:Nat):Int)==0)||(((z9 ns 0 14:Nat):Int)==3)))||(((z9 ns 2 6:Nat):Int)==5) then zF DUMS (z9 ns 3 10) else[])
noncomputable def LA(ns:List Int)(w:Option V)(t:Option V):Lc:=[some (.clst (ns.map .int)),w,t,none,none,none,none,none,none,none,none]
section
variable {n:Nat}{H:Hp}{ns:List Int}
theorem QF(k:Nat):(zF HEADS k).length<=30:=kF (by decide) k
theorem QR(k:Nat):(zF NAMES k).length<=30:=kF (by decide) k
theorem z1n(k:Nat):(zF DUMS k).length<=30:=kF (by decide) k
theorem z3j(hl:ns.length<=63):∃ J,evS G_ (Ev (n+2)) 2000 wU (LA ns none none) H=evS G_ (Ev (n+2)) 2000 Y7 (LA ns (some (.int (z9 ns 0 14:Nat))) (some (.str (zF HEADS (z9 ns 0 14)++zF NAMES (z9 ns 1 5))))) (H++J):=by
 have e0:∀ G,Ev (n+2) 57 [.clst (ns.map .int),.int 0,.int 14] G=.ok (.int (z9 ns 0 14:Nat)) G:=λ G=>xo (i:=0) (m:=14) hl (by decide) (by decide)
 have e1:∀ G,Ev (n+2) 57 [.clst (ns.map .int),.int 1,.int 5] G=.ok (.int (z9 ns 1 5:Nat)) G:=λ G=>xo (i:=1) (m:=5) hl (by decide) (by decide)
 have i0:=λ G:Hp=>kN (H:=G) (l:=HEADS) (k:=z9 ns 0 14) (y4 (by decide))
 have i1:=λ G:Hp=>kN (H:=G) (l:=NAMES) (k:=z9 ns 1 5) (y4 (by decide))
 have hd:decide ((zF HEADS (z9 ns 0 14)).length+(zF NAMES (z9 ns 1 5)).length<2 ^ 20)=true:=by
  have:=QF (z9 ns 0 14);have:=QR (z9 ns 1 5)
  exact decide_eq_true (Nat.lt_of_le_of_lt (Nat.add_le_add ‹_› ‹_›) (by decide))
 refine⟨[.lst (HEADS.map .str),.lst (NAMES.map .str)],?_⟩
 unfold LA wU
 simp! only[g89,e0,e1,g91,g92,Kr,Q5,i0,i1,hd]
 rw[List.append_assoc]
 rfl
noncomputable def YE(ns:List Int):List Nat:=if (((z9 ns 0 14:Nat):Int)==3)&&(((z9 ns 2 2:Nat):Int)==1) then KI else zF HEADS (z9 ns 0 14)++zF NAMES (z9 ns 1 5)
theorem z1E(hl:ns.length<=63):evS G_ (Ev (n+2)) 2000 Y7 (LA ns (some (.int (z9 ns 0 14:Nat))) (some (.str (zF HEADS (z9 ns 0 14)++zF NAMES (z9 ns 1 5))))) H=evS G_ (Ev (n+2)) 2000 Zr (LA ns (some (.int (z9 ns 0 14:Nat))) (some (.str (YE ns)))) H:=by
 have e2:∀ G,Ev (n+2) 57 [.clst (ns.map .int),.int 2,.int 2] G=.ok (.int (z9 ns 2 2:Nat)) G:=λ G=>xo (i:=2) (m:=2) hl (by decide) (by decide)
 unfold LA Y7 YE
 cases c1:((z9 ns 0 14:Nat):Int)==3 with
 | false=>simp! only[c1];rfl
 | true=>
  cases c2:((z9 ns 2 2:Nat):Int)==1 with
  | false=>simp! only[c1,g89,e2,c2];rfl
  | true=>simp! only[c1,g89,e2,c2];rfl
theorem z2C{G:Hp}{w:Int}(h:G[i]?=some (.lst [.int 0,.int 3])):zd .notin (.int w) (.ref i) G=some (!((w==0)||(w==3))):=by
 show(inO G (.int w) G[i]?).map (!·)=_
 rw[h]
 show some _=_
 congr 2
 show(PyData.eqv (.int 0) (.int w)||(PyData.eqv (.int 3) (.int w)||false))=_
 have e:∀ a:Int,PyData.eqv (.int a) (.int w)=(w==a):=λ a=>by
  show(a==w)=_
  rw[Bool.eq_iff_iff,beq_iff_eq,beq_iff_eq];exact⟨Eq.symm,Eq.symm⟩
 rw[e,e,Bool.or_false]
theorem z2r(hl:ns.length<=63):∃ J,evS G_ (Ev (n+2)) 2000 Zr (LA ns (some (.int (z9 ns 0 14:Nat))) (some (.str (YE ns)))) H=evS G_ (Ev (n+2)) 2000 kC (LA ns (some (.int (z9 ns 0 14:Nat))) (some (.str (zI ns)))) (H++J):=by
 have e2:∀ G,Ev (n+2) 57 [.clst (ns.map .int),.int 2,.int 6] G=.ok (.int (z9 ns 2 6:Nat)) G:=λ G=>xo (i:=2) (m:=6) hl (by decide) (by decide)
 have e3:∀ G,Ev (n+2) 57 [.clst (ns.map .int),.int 3,.int 10] G=.ok (.int (z9 ns 3 10:Nat)) G:=λ G=>xo (i:=3) (m:=10) hl (by decide) (by decide)
 have i0:=λ G:Hp=>kN (H:=G) (l:=DUMS) (k:=z9 ns 3 10) (y4 (by decide))
 have hd:decide ((YE ns).length+(zF DUMS (z9 ns 3 10)).length<2 ^ 20)=true:=by
  have h1:=QF (z9 ns 0 14);have h2:=QR (z9 ns 1 5);have h3:=z1n (z9 ns 3 10)
  have h4:(YE ns).length<=60:=by
   unfold YE
   exact i_ (P:=λ l:List Nat=>l.length<=60) (by decide) (List.length_append ▸ Nat.add_le_add h1 h2)
  exact decide_eq_true (Nat.lt_of_le_of_lt (Nat.add_le_add h4 h3) (by decide))
 have hn:=z2C (G:=H++[.lst [.int 0,.int 3]]) (w:=((z9 ns 0 14:Nat):Int)) (i:=H.length) (by rw[zg];rfl)
 show ∃ J,_=evS _ _ _ kC (LA ns _ (some (.str (YE ns++_)))) _
 unfold LA Zr
 cases c1:(!((((z9 ns 0 14:Nat):Int)==0)||(((z9 ns 0 14:Nat):Int)==3))) with
 | true=>
  rw[c1] at hn
  refine⟨[.lst [.int 0,.int 3],.lst (DUMS.map .str)],?_⟩
  simp! only[hn,g89,e3,g90,Wy,i0,hd]
  rw[List.append_assoc]
  rfl
 | false=>
  rw[c1] at hn
  cases c2:(((z9 ns 2 6:Nat):Int)==5) with
  | true=>
   refine⟨[.lst [.int 0,.int 3],.lst (DUMS.map .str)],?_⟩
   simp! only[hn,g89,e2,e3,c2,g90,Wy,i0,hd]
   rw[List.append_assoc]
   rfl
  | false=>
   refine⟨[.lst [.int 0,.int 3]],?_⟩
   simp! only[hn,g89,e2,c2]
   show _=evS _ _ _ _ [_,_,some (.str (YE ns++[])),none,none,none,none,none,none,none,none] _
   rw[List.append_nil]
end
noncomputable def YK(how at_ sg:Nat)(t:List Nat):List Nat:=if how=1 then t.take at_++[sg]++t.drop at_ else if 1<how then t.take at_++(if how=2 then[sg] else[])++t.drop (at_+1) else t
noncomputable def YT(ns:List Int):Nat:=z9 ns 4 4
noncomputable def atF(ns:List Int):Nat:=z9 ns 5 ((zI ns).length+1)
noncomputable def sgF(ns:List Int):Nat:=SIGNS[z9 ns 6 9]?.getD 0
noncomputable def zn(ns:List Int):List Nat:=YK (YT ns) (atF ns) (sgF ns) (zI ns)
theorem Zd(ns:List Int):(zI ns).length<=90:=by
 have h1:=QF (z9 ns 0 14);have h2:=QR (z9 ns 1 5);have h3:=z1n (z9 ns 3 10)
 unfold zI
 rw[List.length_append]
 have h4:(if (((z9 ns 0 14:Nat):Int)==3)&&(((z9 ns 2 2:Nat):Int)==1) then KI else zF HEADS (z9 ns 0 14)++zF NAMES (z9 ns 1 5)).length<=60:=by
  exact i_ (P:=λ l:List Nat=>l.length<=60) (by decide) (List.length_append ▸ Nat.add_le_add h1 h2)
 have h5:(if (!((((z9 ns 0 14:Nat):Int)==0)||(((z9 ns 0 14:Nat):Int)==3)))||(((z9 ns 2 6:Nat):Int)==5) then zF DUMS (z9 ns 3 10) else[]).length<=30:=by
  exact i_ (P:=λ l:List Nat=>l.length<=30) h3 (Nat.zero_le _)
 exact Nat.add_le_add h4 h5
theorem VE{t x:List Nat}{a b:Nat}(h:t.length<=90)(hx:x.length<=1)(hb:a<=b):(t.take a++x++t.drop b).length<=91:=by
 rw[List.length_append,List.length_append,Nat.add_right_comm]
 refine Nat.add_le_add (Nat.le_trans (Nat.add_le_add_left ?_ _) (Nat.le_trans (Nat.le_of_eq (List.length_append.symm.trans (congrArg List.length (List.take_append_drop a t)))) h)) hx
 rw[List.length_drop,List.length_drop];exact Nat.sub_le_sub_left hb _
theorem vg(ns:List Int):(zn ns).length<=91:=by
 have h:=Zd ns
 unfold zn YK
 exact i_ (P:=λ l:List Nat=>l.length<=91) (VE h (Nat.le_refl 1) (Nat.le_refl _)) (i_ (P:=λ l:List Nat=>l.length<=91) (VE h (i_ (P:=λ l:List Nat=>l.length<=1) (Nat.le_refl 1) (Nat.zero_le 1)) (Nat.le_succ _)) (Nat.le_succ_of_le h))
theorem lt4{h:Nat}(hh:h<4):h=0\/h=1\/h=2\/h=3:=by
 rcases Nat.lt_succ_iff_lt_or_eq.mp hh with hh | hh
 ·rcases Nat.lt_succ_iff_lt_or_eq.mp hh with hh | hh
  ·rcases Nat.lt_succ_iff_lt_or_eq.mp hh with hh | hh
   ·exact .inl (Nat.lt_one_iff.mp hh)
   ·exact .inr (.inl hh)
  ·exact .inr (.inr (.inl hh))
 ·exact .inr (.inr (.inr hh))
noncomputable def LB(ns:List Int)(t:List Nat)(want:Option V):Lc:=[some (.clst (ns.map .int)),some (.int (z9 ns 0 14:Nat)),some (.str t),some (.int (YT ns:Nat)),some (.int (atF ns:Nat)),some (.str [sgF ns]),want,none,none,none,none]
section
variable {n:Nat}{H:Hp}{ns:List Int}
theorem z1Y(hl:ns.length<=63):evS G_ (Ev (n+2)) 2000 kC (LA ns (some (.int (z9 ns 0 14:Nat))) (some (.str (zI ns)))) H=evS G_ (Ev (n+2)) 2000 Zx (LB ns (zI ns) none) H:=by
 have e4:∀ G,Ev (n+2) 57 [.clst (ns.map .int),.int 4,.int 4] G=.ok (.int (YT ns:Nat)) G:=λ G=>xo (i:=4) (m:=4) hl (by decide) (by decide)
 have e5:∀ G,Ev (n+2) 57 [.clst (ns.map .int),.int 5,.int (((zI ns).length:Int)+1)] G=.ok (.int (atF ns:Nat)) G:=λ G=>xo (i:=5) (m:=(zI ns).length+1) hl (Nat.succ_pos _) (by decide)
 have e6:∀ G,Ev (n+2) 57 [.clst (ns.map .int),.int 6,.int 9] G=.ok (.int (z9 ns 6 9:Nat)) G:=λ G=>xo (i:=6) (m:=9) hl (by decide) (by decide)
 have i6:∀ G,zC G (.str @"(),*1AN8 ") (.int (z9 ns 6 9:Nat))=some (.str [sgF ns]):=λ G=>by
  rw[v_idxs]
  have:z9 ns 6 9<SIGNS.length:=y4 (by decide)
  unfold sgF
  rw[List.getElem?_eq_getElem this]
  rfl
 unfold LA LB kC
 simp! only[g89,e4,e5,e6,i6]
theorem z2R:evS G_ (Ev (n+2)) 2000 Zx (LB ns (zI ns) none) H=evS G_ (Ev (n+2)) 2000 Zv (LB ns (zn ns) none) H:=by
 have hlen:=Zd ns
 have ht:wY (.str (zI ns)) .none (.int (atF ns:Nat))=some (.str ((zI ns).take (atF ns))):=(v_slc0 _ _).trans (by rw[zp])
 have hd:wY (.str (zI ns)) (.int (atF ns:Nat)) .none=some (.str ((zI ns).drop (atF ns))):=(v_slcE _ _).trans (by rw[zL])
 have hd1:wY (.str (zI ns)) (.int ((atF ns:Nat)+1)) .none=some (.str ((zI ns).drop (atF ns+1))):=(v_slcE _ _).trans (congrArg some (congrArg V.str (zL _ (atF ns+1))))
 have tl:∀ {x:List Nat},x.length<=1->((zI ns).take (atF ns)++x).length<=91:=λ h=>List.length_append ▸ Nat.add_le_add (tle hlen) h
 have b1:decide (((zI ns).take (atF ns)).length+1<2 ^ 20)=true:=decide_eq_true (Nat.lt_of_le_of_lt (Nat.add_le_add_right (tle hlen) 1) (by decide))
 have b1':decide (((zI ns).take (atF ns)).length+0<2 ^ 20)=true:=decide_eq_true (Nat.lt_of_le_of_lt (Nat.add_le_add_right (tle hlen) 0) (by decide))
 have b2:∀ k,decide (((zI ns).take (atF ns)++[sgF ns]).length+((zI ns).drop k).length<2 ^ 20)=true:=λ k=>decide_eq_true (Nat.lt_of_le_of_lt (Nat.add_le_add (tl (Nat.le_refl 1)) (dle hlen)) (by decide))
 have b2':∀ k,decide (((zI ns).take (atF ns)++[]).length+((zI ns).drop k).length<2 ^ 20)=true:=λ k=>decide_eq_true (Nat.lt_of_le_of_lt (Nat.add_le_add (tl (Nat.zero_le 1)) (dle hlen)) (by decide))
 have hh:YT ns<4:=y4 (by decide)
 unfold zn YK
 unfold LB Zx
 generalize hho:YT ns=h at hh ⊢
 rcases lt4 hh with rfl | rfl | rfl | rfl
 ·simp! only[]
  try rfl
 ·have c1:(((1:Nat):Int)==1)=true:=rfl
  simp! only[c1,ht,hd,v_adds,b1,b2]
 ·have c1:(((2:Nat):Int)==1)=false:=rfl
  have c2:decide ((1:Int)<((2:Nat):Int))=true:=rfl
  have c3:(((2:Nat):Int)==2)=true:=rfl
  simp! only[c1,c2,c3,ht,hd1,v_adds,b1,b2]
  rfl
 ·have c1:(((3:Nat):Int)==1)=false:=rfl
  have c2:decide ((1:Int)<((3:Nat):Int))=true:=rfl
  have c3:(((3:Nat):Int)==2)=false:=rfl
  simp! only[c1,c2,c3,ht,hd1,v_adds,b1',b2']
  rfl
theorem run_C:∃ J v,evS G_ (Ev (n+4)) 2000 Zv (LB ns (zn ns) none) H=evS G_ (Ev (n+4)) 2000 kW (LB ns (zn ns) (some v)) (H++J)/\Headed H (.ok v (H++J)) (lhF (noB (zn ns))):=by
 have hlen:=vg ns
 have hle:(noB (zn ns)).length<=(zn ns).length:=List.length_filter_le _ _
 have hh:=Jn (n:=n) (s:=noB (zn ns)) (H:=H) (Nat.lt_of_le_of_lt (Nat.le_trans hle hlen) (by decide))
 obtain⟨J,v,hv⟩:∃ J v,Ev (n+4) 62 [.str (noB (zn ns))] H=.ok v (H++J):=by
  cases hq:lhF (noB (zn ns)) with
  | none=>rw[hq] at hh;obtain⟨J,h⟩:=hh;exact⟨J,_,h⟩
  | some q=>
   obtain⟨k,w,ds,res⟩:=q
   rw[hq] at hh;obtain⟨J,d,h,_⟩:=hh;exact⟨J,_,h⟩
 rw[hv] at hh
 refine⟨J,v,?_,hh⟩
 have hr:∀ G,meV .replace (.str (zn ns)) [.str [32],.str []] G=.ok (.str (noB (zn ns))) G:=λ G=>rfl
 unfold LB Zv
 simp! only[hr,g88,hv]
end
theorem nd0:(decide (([]:List (List Nat)).Nodup)&&decide ((0:Nat)<=15))=true:=rfl
mutual
noncomputable def noD:PyData->Bool
 | .dict _=>false
 | .list xs=>XB xs
 | .tuple xs=>XB xs
 | .none=>true
 | .bool _=>true
 | .int _=>true
 | .str _=>true
noncomputable def XB:List PyData->Bool
 | []=>true
 | x::xs=>noD x&&XB xs
end
mutual
theorem vH:∀ d:PyData,noD d=true->PyData.eqv d d=true
 | .none,_=>rfl
 | .bool b,_=>by simp [PyData.eqv]
 | .int i,_=>by simp [PyData.eqv]
 | .str x,_=>by simp [PyData.eqv]
 | .list xs,h=>by rw[PyData.eqv];exact vY xs h
 | .tuple xs,h=>by rw[PyData.eqv];exact vY xs h
 | .dict _,h=>ft h
theorem vY:∀ xs:List PyData,XB xs=true->PyData.eqvAll xs xs=true
 | [],_=>rfl
 | x::xs,h=>by rw[PyData.eqvAll,vH x (V.beqB h).1,vY xs (V.beqB h).2];rfl
end
theorem W1{a b:V}{x y:PyData}(h:toD 4 H a=some x)(g:toD 4 H b=some y):eqD H a b=some (PyData.eqv x y):=by
 show(match toD 4 H a with | some x=>(match toD 4 H b with | some y=>some (PyData.eqv x y) | none=>none) | none=>none)=_
 rw[h]
 dsimp only
 rw[g]
noncomputable def vd(r:V):Prop:=∃ x:PyData,noD x=true/\∀ n H,toD (n+3) H r=some x
noncomputable def AgAt(n:Nat)(s:List Nat)(H:Hp)(r1 r2:Nat):Prop:=
 (lhF s=none/\RaisesR (Ev (n+10) 51 [.none,.int 1,.int 0,.str s,.ref r1,.ref r2] H) H) \/
 ((Ex4 λ k w ds res=>A3 (lhF s=some (k,w,ds,res)) (vd res) (KO H (Ev (n+10) 51 [.none,.int 1,.int 0,.str s,.ref r1,.ref r2] H) k w ds res r1 r2)))
noncomputable def KA(n:Nat)(s:List Nat):Prop:=∀ (H:Hp) (r1 r2:Nat),H[r1]?=some (.dct [(ze,.fn 63)])->H[r2]?=some (.dct [])->AgAt n s H r1 r2
theorem Vl{G:Nat->Option V}{F:Fn}{W x:Nat}{e:E}{h:S}{a:V}(he:evE G F e L H=.ok a H'):evS G F W (.try_ [i] e k x h) L H=.next (L.set i (some a)) H':=by
 rw[jM,he];rfl
theorem W0{G:Nat->Option V}{F:Fn}{W x:Nat}{e:E}{h:S}(he:evE G F e L H=.exc 1 d H'):evS G F W (.try_ is e 1 x h) L H=YG (evS G F W h (L.set x (some (.exc 1 d))) H'):=by
 rw[jM,he];rfl
theorem KV(n:Nat)(H:Hp)(d:Nat)(ds:List (List Nat))(h:H[d]?=some (.lst (ds.map .str))):toD (n+1) H (.ref d)=some (.list (ds.map λ s=>PyData.str (z0 s))):=by
 show YJ (toD n H) H[d]?=_
 rw[h]
 show(jp n H (ds.map .str)).map PyData.list=_
 rw[wO];rfl
theorem Qw(ds:List (List Nat)):XB (ds.map λ s=>PyData.str (z0 s))=true:=by
 induction ds with
 | nil=>rfl
 | cons a r ih=>exact ih
theorem z2i{k w:List Nat}{d':Nat}{res:V}(h:H[d]?=some (.lst (ds.map .str)))(h':H[d']?=some (.lst (ds.map .str)))(hr:vd res):zd .eq (.tup [.str k,.str w,.ref d,res]) (.tup [.str k,.str w,.ref d',res]) H=some true:=by
 obtain⟨x,hx,hr⟩:=hr
 have h1:∀ d,H[d]?=some (.lst (ds.map .str))->toD 4 H (.tup [.str k,.str w,.ref d,res])=some (.tuple [.str (z0 k),.str (z0 w),.list (ds.map λ s=>PyData.str (z0 s)),x]):=λ d hd=>by
  have a1:=KV 2 H d ds hd
  have a2:=hr 0 H
  show(vq (toD 3 H (.str k)) (vq (toD 3 H (.str w)) (vq (toD 3 H (.ref d)) (vq (toD 3 H res) (some []))))).map PyData.tuple=_
  rw[ye,ye,a1,a2];rfl
 refine(W1 (h1 d h) (h1 d' h')).trans (congrArg some (vH _ ?_))
 show(XB (ds.map λ s=>PyData.str (z0 s))&&(noD x&&true))=true
 rw[Qw,hx];rfl
section
variable {n:Nat}{B:Hp}{k nm:List Nat}{dl res:V}{body:List V}{pv sv:V}{st:Int}{J:Hp}
theorem z3y:zN (ZZ B k nm dl res body pv sv st J) @"name" (.ref (B.length+1))=some (.str nm):=yy ((yh 1).trans rfl) ((yh 0).trans rfl)
theorem z1P:zN (ZZ B k nm dl res body pv sv st J) @"dummies" (.ref (B.length+1))=some dl:=yy ((yh 1).trans rfl) ((yh 0).trans rfl)
theorem a_res:zN (ZZ B k nm dl res body pv sv st J) @"result" (.ref (B.length+1))=some res:=yy ((yh 1).trans rfl) ((yh 0).trans rfl)
theorem JF:zN (ZZ B k nm dl res body pv sv st J) @"specs" (.ref (B.length+1))=some (.ref (B.length+2)):=yy ((yh 1).trans rfl) ((yh 0).trans rfl)
theorem a_stf:zN (ZZ B k nm dl res body pv sv st J) @"stfuncs" (.ref (B.length+1))=some (.ref (B.length+3)):=yy ((yh 1).trans rfl) ((yh 0).trans rfl)
theorem Jg{G:Hp}(h:G[i]?=some (.lst [zw]))(h':G[j]?=some (.lst [zw])):zd .eq (.ref i) (.ref j) G=some true:=by
 have h1:∀ i,G[i]?=some (.lst [zw])->toD 4 G (.ref i)=some (.list [.tuple [.int 0,.tuple [.str (z0 ze)],.int 4]]):=λ i hi=>by
  show YJ (toD 3 G) G[i]?=_
  rw[hi];rfl
 exact(W1 (h1 i h) (h1 j h')).trans (congrArg some (vH _ rfl))
theorem z3o{G:Hp}(h:G[i]?=some (.lst []))(h':G[j]?=some (.lst [])):zd .eq (.ref i) (.ref j) G=some true:=by
 have h1:∀ i,G[i]?=some (.lst [])->toD 4 G (.ref i)=some (.list []):=λ i hi=>by
  show YJ (toD 3 G) G[i]?=_
  rw[hi];rfl
 exact(W1 (h1 i h) (h1 j h')).trans (congrArg some (vH _ rfl))
theorem att_l{o:Option O}{v:V}(h:(match o with | some (.att l)=>l.lookup nm | _=>none)=some v):∃ l,o=some (.att l)/\l.lookup nm=some v:=by
 cases o with
 | none=>exact n1 h
 | some o=>cases o<;>first | exact n1 h | exact⟨_,rfl,h⟩
theorem att_i{o:Option O}{f:Nat->Option V}{v:V}(h:(match o with | some (.inst _ d)=>f d | _=>none)=some v):∃ k d,o=some (.inst k d)/\f d=some v:=by
 cases o with
 | none=>exact n1 h
 | some o=>cases o<;>first | exact n1 h | exact⟨_,_,rfl,h⟩
theorem Wx{G K:Hp}{v:V}(h:zN G nm (.ref i)=some v):zN (G++K) nm (.ref i)=some v:=by
 obtain⟨k,d,h1,h2⟩:=att_i (f:=λ d=>match G[d]? with | some (.att l)=>l.lookup nm | _=>none) h
 obtain⟨l,h3,h4⟩:=att_l h2
 exact(yy ((List.getElem?_append_left (gs_ h1).1).trans h1) ((List.getElem?_append_left (gs_ h3).1).trans h3)).trans h4
end
section
variable {n:Nat}{H:Hp}{ns:List Int}{t s:List Nat}
theorem run_D{G:Hp}{v:V}(hH:Headed [] (.ok v G) (lhF s))(hs:∀ K,Ev (n+10) 4 [.str t] K=.ok (.str s) K)(hA:KA n s):∃ H',evS G_ (Ev (n+11)) 2000 kW (LB ns t (some v)) G=.ret (.bool true) H':=by
 have hG3:∀ i o,([.lst [qR t,qP],.dct [(ze,.fn 63)],.dct []]:Hp)[i]?=some o->(G++[.lst [qR t,qP],.dct [(ze,.fn 63)],.dct []])[G.length+i]?=some o:=λ i o h=>by rw[zX];exact h
 have g0:(G++[.lst [qR t,qP],.dct [(ze,.fn 63)],.dct []])[G.length]?=some (.lst [qR t,qP]):=hG3 0 _ rfl
 have g1:=hG3 1 (.dct [(ze,.fn 63)]) rfl
 have g2:=hG3 2 (.dct []) rfl
 have hargs:∀ L':Lc,L'[2]?=some (some (.str t))->evL G_ (Ev (n+11)) (.cons (.lst (.cons (.tup (.cons (.cst (.int 1)) (.cons (.cst (.int 0)) (.cons (.loc 2) .nil)))) (.cons (.tup (.cons (.cst (.int 4)) (.cons (.cst (.int 0)) (.cons (.cst (.str @"E N D")) .nil)))) .nil))) (.cons (.dct (.cons (.cst (.str @"end")) .nil) (.cons (.glb 87) .nil)) (.cons (.dct .nil .nil) .nil))) L' G=.ok [.ref G.length,.ref (G.length+1),.ref (G.length+2)] (G++[.lst [qR t,qP],.dct [(ze,.fn 63)],.dct []]):=λ L' hL=>by
  have hnd:(decide (([@"end"]:List (List Nat)).Nodup)&&decide (1<=15))=true:=by decide
  simp! only[hL,Ql,WN,Kc,QT,Qg,g87,List.map_cons,List.map_nil,hnd,nd0,List.length_append,List.append_assoc,List.cons_append,List.nil_append]
  rfl
 generalize hK:(G++[.lst [qR t,qP],.dct [(ze,.fn 63)],.dct []]:Hp)=G3 at g0 g1 g2 hargs
 have up:∀ {r o},G3[r]?=some o->(G3++[.lst []])[r]?=some o:=λ h=>by
  rw[List.getElem?_append_left (gs_ h).1];exact h
 rcases hA (G3++[.lst []]) _ _ (up g1) (up g2) with ⟨ha,hb⟩ | ⟨k,w,ds,res,ha,hsh,hb⟩
 ·rw[ha] at hH
  obtain⟨J,hJ⟩:=hH
  have hv:v=.none:=by cases hJ;rfl
  subst hv
  obtain⟨J,d,l,q1,q2,q3⟩:=Qo (n:=n) (r0:=G.length) (H:=G3) g0 (hs _) hb
  refine⟨G3++J,?_⟩
  have hl:zN (G3++J) @"line" (.exc 1 d)=some (.int 1):=by
   show(match (_:Hp)[d]? with | some (.att l)=>l.lookup _ | _=>none)=_
   rw[q2];exact q3
  have hi:∀ K,zd .is_ .none .none K=some true:=λ K=>rfl
  have hq:((1:Int)==1)=true:=rfl
  unfold LB kW
  rw[x_cons,W0 (H':=G3++J) (d:=d) (by
   have:=hargs [some (.clst (ns.map .int)),some (.int (z9 ns 0 14:Nat)),some (.str t),some (.int (YT ns:Nat)),some (.int (atF ns:Nat)),some (.str [sgF ns]),some .none,none,none,none,none] rfl
   simp only[e_call,e_glb,g86,lift_some,R.bind_ok,r_cf,this,v_call,q1])]
  simp! only[hi,hl,hq,z31]
 ·rw[ha] at hH
  obtain⟨J,d',hJ,hd',hle⟩:=hH
  have hv:v=.tup [.str k,.str w,.ref d',res]:=by cases hJ;rfl
  have hGJ:G=[]++J:=by cases hJ;rfl
  rw[←hGJ] at hd'
  subst hv
  obtain⟨B,J2,d,q1,q2,q3,K',q4⟩:=KR (n:=n) (r0:=G.length) (r2:=G.length+2) (H:=G3) g0 g1 (hs _) hb
  have hz:B++(UM B.length k w (.ref d) res [zw] (.ref (G.length+1)) (.ref (G.length+2)) 0++J2)=ZZ B k w (.ref d) res [zw] (.ref (G.length+1)) (.ref (G.length+2)) 0 J2:=rfl
  rw[hz] at q1
  have hBz:∀ {r o},B[r]?=some o->(ZZ B k w (.ref d) res [zw] (.ref (G.length+1)) (.ref (G.length+2)) 0 J2)[r]?=some o:=λ h=>z_lt h
  have hGz:∀ {r o},G[r]?=some o->(ZZ B k w (.ref d) res [zw] (.ref (G.length+1)) (.ref (G.length+2)) 0 J2)[r]?=some o:=λ h=>hBz (by
   rw[q4,←hK,List.append_assoc,List.getElem?_append_left (gs_ h).1];exact h)
  have hu:zC (ZZ B k w (.ref d) res [zw] (.ref (G.length+1)) (.ref (G.length+2)) 0 J2) (.ref G3.length) (.int 0)=some (.ref (B.length+1)):=ZN (k:=0) (hBz q2)
  have hlen:∀ K,biV .len [.ref G3.length] (ZZ B k w (.ref d) res [zw] (.ref (G.length+1)) (.ref (G.length+2)) 0 J2++K)=some (.int 1):=λ K=>by
   rw[v_lenr,List.getElem?_append_left (gs_ (hBz q2)).1,hBz q2]
   rfl
  have hlen0:=hlen []
  rw[List.append_nil] at hlen0
  have hgot:=z2i (H:=ZZ B k w (.ref d) res [zw] (.ref (G.length+1)) (.ref (G.length+2)) 0 J2) (k:=k) (w:=w) (d:=d) (d':=d') (ds:=ds) (res:=res) (hBz q3) (hGz hd') hsh
  have z2:(ZZ B k w (.ref d) res [zw] (.ref (G.length+1)) (.ref (G.length+2)) 0 J2)[B.length+2]?=some (.lst []):=(yh 2).trans rfl
  have z3:(ZZ B k w (.ref d) res [zw] (.ref (G.length+1)) (.ref (G.length+2)) 0 J2)[B.length+3]?=some (.lst []):=(yh 3).trans rfl
  have z4:(ZZ B k w (.ref d) res [zw] (.ref (G.length+1)) (.ref (G.length+2)) 0 J2)[B.length+4]?=some (.lst [zw]):=(yh 4).trans rfl
  have ak:=x8 (B:=B) (k:=k) (nm:=w) (dl:=.ref d) (res:=res) (body:=[zw]) (pv:=.ref (G.length+1)) (sv:=.ref (G.length+2)) (st:=0) (J:=J2)
  have an:=z3y (B:=B) (k:=k) (nm:=w) (dl:=.ref d) (res:=res) (body:=[zw]) (pv:=.ref (G.length+1)) (sv:=.ref (G.length+2)) (st:=0) (J:=J2)
  have ad:=z1P (B:=B) (k:=k) (nm:=w) (dl:=.ref d) (res:=res) (body:=[zw]) (pv:=.ref (G.length+1)) (sv:=.ref (G.length+2)) (st:=0) (J:=J2)
  have ar:=a_res (B:=B) (k:=k) (nm:=w) (dl:=.ref d) (res:=res) (body:=[zw]) (pv:=.ref (G.length+1)) (sv:=.ref (G.length+2)) (st:=0) (J:=J2)
  have ab:=KB (B:=B) (k:=k) (nm:=w) (dl:=.ref d) (res:=res) (body:=[zw]) (pv:=.ref (G.length+1)) (sv:=.ref (G.length+2)) (st:=0) (J:=J2)
  have as:=JF (B:=B) (k:=k) (nm:=w) (dl:=.ref d) (res:=res) (body:=[zw]) (pv:=.ref (G.length+1)) (sv:=.ref (G.length+2)) (st:=0) (J:=J2)
  have af:=a_stf (B:=B) (k:=k) (nm:=w) (dl:=.ref d) (res:=res) (body:=[zw]) (pv:=.ref (G.length+1)) (sv:=.ref (G.length+2)) (st:=0) (J:=J2)
  generalize ZZ B k w (.ref d) res [zw] (.ref (G.length+1)) (.ref (G.length+2)) 0 J2=Z at q1 hu hlen hlen0 hgot z2 z3 z4 ak an ad ar ab as af
  have gl:∀ {K:Hp} {r o},Z[r]?=some o->(Z++K)[r]?=some o:=λ h=>by
   rw[List.getElem?_append_left (gs_ h).1];exact h
  have hb1:=Jg (G:=Z++[.lst [zw]]) (i:=B.length+4) (j:=Z.length) (gl z4) (by rw[zg];rfl)
  have hsp:xT .add (.ref (B.length+2)) (.ref (B.length+3)) (Z++[O.lst [zw]])=.ok (.ref (Z++[O.lst [zw]]).length) ((Z++[O.lst [zw]])++[O.lst []]):=by
   show(match (_:Hp)[B.length+2]? with | some (.lst x)=>(match (_:Hp)[B.length+3]? with | some (.lst y)=>if decide (x.length+y.length<2 ^ 20) then R.ok (V.ref _) (_++[O.lst (x++y)]) else .bad | _=>.bad) | _=>.bad)=_
   rw[gl z2]
   dsimp only
   rw[gl z3];rfl
  have hne:=z3o (G:=(Z++[O.lst [zw]])++[O.lst []]++[O.lst []]) (i:=(Z++[O.lst [zw]]).length) (j:=((Z++[O.lst [zw]])++[O.lst []]).length) (by rw[List.append_assoc (Z++[O.lst [zw]]),zg];rfl) (by rw[zg];rfl)
  have hq:((1:Int)==1)=true:=rfl
  refine⟨(Z++[O.lst [zw]])++[O.lst []]++[O.lst []],?_⟩
  unfold LB kW
  rw[x_cons,Vl (a:=.ref G3.length) (H':=Z) (by
   have:=hargs [some (.clst (ns.map .int)),some (.int (z9 ns 0 14:Nat)),some (.str t),some (.int (YT ns:Nat)),some (.int (atF ns:Nat)),some (.str [sgF ns]),some (.tup [.str k,.str w,.ref d',res]),none,none,none,none] rfl
   simp only[e_call,e_glb,g86,lift_some,R.bind_ok,r_cf,this,v_call,q1])]
  have he:∀ x,zw=x->x=zw:=λ x h=>h.symm
  have e1:(V.tup [.int 0,.tup [.str @"end"],.int 4])=zw:=rfl
  simp! only[hu,ak,an,ad,ar,ab,hlen0,hq,hgot,e1,hb1,Wx as,Wx af,hsp,hne]
theorem JQ{n:Nat}(hl:ns.length<=63)(hs:∀ K,Ev (n+10) 4 [.str (zn ns)] K=.ok (.str (noB (zn ns))) K)(hA:KA n (noB (zn ns))):∃ H',evS G_ (Ev (n+11)) 2000 wU (LA ns none none) []=.ret (.bool true) H':=by
 obtain⟨J1,h1⟩:=z3j (n:=n+9) (H:=[]) hl
 have h2:=z1E (n:=n+9) (H:=[]++J1) hl
 obtain⟨J3,h3⟩:=z2r (n:=n+9) (H:=[]++J1) hl
 have h4:=z1Y (n:=n+9) (H:=[]++J1++J3) hl
 have h5:=z2R (n:=n+9) (H:=[]++J1++J3) (ns:=ns)
 obtain⟨J6,v,h6,h7⟩:=run_C (n:=n+7) (H:=[]++J1++J3) (ns:=ns)
 have h7':Headed [] (.ok v ([]++J1++J3++J6)) (lhF (noB (zn ns))):=by
  have e:([]++J1++J3:Hp)=[]++(J1++J3):=List.append_assoc _ _ _
  rw[e] at h7 ⊢
  exact h7.up
 obtain⟨H',h8⟩:=run_D (n:=n) (ns:=ns) (t:=zn ns) h7' hs hA
 exact⟨H',h1.trans (h2.trans (h3.trans (h4.trans (h5.trans (h6.trans h8)))))⟩
end
theorem isN_iff{w:List Nat}:isN w=true↔(∃ c r,w=c::r/\upC c=true)/\(∀ x∈w,nmC x=true)/\w.length<7:=by
 cases w with
 | nil=>exact⟨λ h=>ft h,λ h=>nomatch h.1⟩
 | cons c r=>
  refine⟨λ h=>⟨⟨c,r,rfl,(V.beqB (V.beqB h).1).1⟩,λ x hx=>la_ (V.beqB (V.beqB h).1).2 x hx,of_decide_eq_true (V.beqB h).2⟩,?_⟩
  rintro⟨⟨_,_,⟨⟩,h1⟩,h2,h3⟩
  exact bm_ ⟨bm_ ⟨h1,List.all_eq_true.mpr h2⟩,decide_eq_true h3⟩
theorem z23{c:Nat}(h:nmC c=true):c≠40/\c≠41/\c≠42/\c≠44:=by
 refine⟨?_,?_,?_,?_⟩<;>rintro rfl<;>cases h
noncomputable def yq(d:List Nat):Tk:=if d==[42] then(2,[42]) else(0,d)
noncomputable def yr(r:List (List Nat)):List Nat:=(r.map (44::·)).flatten
noncomputable def yk:List (List Nat)->List Nat
 | []=>[]
 | d::r=>d++yr r
noncomputable def jI(r:List (List Nat)):List Tk:=(r.map λ x=>[(2,[44]),yq x]).flatten
noncomputable def qK:List (List Nat)->List Tk
 | []=>[]
 | d::r=>yq d::jI r
noncomputable def jo(s w:List Nat):Option (List (List Nat))->Prop
 | none=>s=w/\isN w=true
 | some ds=>s=w++40::(yk ds++[41])/\isN w=true/\wy [] ds=true
noncomputable def yQ(s:List Nat)(toks:List Tk):Prop:=∀ n,s.length<=n->wa n s=some toks
theorem Wq:yQ [] []:=λ n _=>by cases n<;>rfl
theorem tkl{x:List Nat}(h:s.take k=x)(hx:x.length=k):k<=s.length:=by
 rw[←hx,←h];exact List.length_take_le' _ _
theorem jd{t:Tk}{toks:List Tk}(h:yM s=some (t,k))(hr:yQ (s.drop k) toks):yQ s (t::toks):=by
 intro n hn
 obtain⟨h1,h2,h3⟩:=vU h
 cases s with
 | nil=>exact n1 h
 | cons c r=>
  cases n with
  | zero=>exact absurd hn (Nat.not_succ_le_zero _)
  | succ n=>
   show(match yM (c::r) with | none=>none | some (t,k)=>(wa n ((c::r).drop k)).map (t::·))=_
   rw[h]
   dsimp only
   rw[hr n (Nat.le_trans (List.length_drop ▸ Nat.sub_le_sub_left h2 _) (Nat.le_of_succ_le_succ hn))]
   rfl
noncomputable def Ke:List Nat->Bool
 | []=>true
 | c::_=>!nmC c
theorem jf{p:Nat->Bool}{w t:List Nat}:(∀ x∈w,p x=true)->(∀ c r,t=c::r->p c=false)->(w++t).takeWhile p=w:=by
 induction w with
 | nil=>
  intro _ h
  cases t with
  | nil=>rfl
  | cons c r=>rw[List.nil_append,List.takeWhile_cons,h c r rfl];rfl
 | cons a w ih=>
  intro h h'
  rw[List.cons_append,List.takeWhile_cons,h a (.head _),if_pos rfl,ih (λ x hx=>h x (.tail _ hx)) h']
theorem Ko{w t:List Nat}(hw:isN w=true)(ht:Ke t=true):yM (w++t)=some ((0,w),w.length):=by
 obtain⟨⟨c,r,rfl,hc⟩,h2,h3⟩:=isN_iff.mp hw
 have htw:((c::r)++t).takeWhile nmC=c::r:=jf h2 (λ c' r' e=>by
  subst e;simpa [Ke] using ht)
 rw[List.cons_append] at htw ⊢
 show(if upC c=true then(if 6<((c::(r++t)).takeWhile nmC).length then none else some ((0,(c::(r++t)).takeWhile nmC),((c::(r++t)).takeWhile nmC).length)) else _)=_
 rw[if_pos hc,htw,if_neg (Nat.not_lt.mpr (Nat.le_of_lt_succ h3))]
theorem je{w t:List Nat}{toks:List Tk}(hw:isN w=true)(ht:Ke t=true)(h:yQ t toks):yQ (w++t) ((0,w)::toks):=by
 refine jd (Ko hw ht) ?_
 rw[List.drop_left];exact h
theorem Xw{c:Nat}{t:List Nat}{toks:List Tk}(hc:c=40\/c=41\/c=44)(h:yQ t toks):yQ (c::t) ((2,[c])::toks):=by
 refine jd (k:=1) ?_ h
 rcases hc with rfl | rfl | rfl<;>rfl
theorem Kt{t:List Nat}{toks:List Tk}(hc:t.head?≠some 42)(h:yQ t toks):yQ (42::t) ((2,[42])::toks):=by
 refine jd (k:=1) ?_ h
 have:(t.head?==some 42)=false:=by simpa using hc
 simp only[yM]
 rw[if_neg (by decide),if_neg (by decide),this]
 rfl
theorem YF{d u:List Nat}{toks:List Tk}{c:Nat}{v:List Nat}(hd:(d==[42]||isN d)=true)(hu:u=c::v)(hc:c=41\/c=44)(h:yQ u toks):yQ (d++u) (yq d::toks):=by
 unfold yq
 cases e:d==[42] with
 | true=>
  rw[be_ e]
  exact Kt (by subst hu;rcases hc with rfl | rfl<;>simp) h
 | false=>
  rw[e,Bool.false_or] at hd
  exact je hd (by subst hu;rcases hc with rfl | rfl<;>rfl) h
theorem Zy:∀ {acc:List (List Nat)},wy acc ds=true->∀ d∈ds,(d==[42]||isN d)=true:=by
 induction ds with
 | nil=>exact λ _ d hd=>nomatch hd
 | cons p r ih=>
  intro acc h d hd
  have h:=V.beqB h
  refine(mc_ hd).elim (λ e=>?_) (ih h.2 d)
  rw[e]
  have h:=h.1
  cases hp:p==[42] with
  | true=>rfl
  | false=>
   rw[hp] at h
   exact(V.beqB h).1
theorem tT(x:List Nat)(r:List (List Nat)):yr (x::r)=44::(x++yr r):=rfl
theorem tK(x:List Nat)(r:List (List Nat)):jI (x::r)=(2,[44])::yq x::jI r:=rfl
theorem tT_c(r:List (List Nat))(t:List Nat):∃ c v,yr r++41::t=c::v/\(c=41\/c=44):=by
 cases r with
 | nil=>exact⟨41,t,rfl,.inl rfl⟩
 | cons y r=>exact⟨44,_,rfl,.inr rfl⟩
theorem Qx{t:List Nat}{toks:List Tk}(h:yQ (41::t) toks)(r:List (List Nat)):(∀ d∈r,(d==[42]||isN d)=true)->yQ (yr r++41::t) (jI r++toks):=by
 induction r with
 | nil=>exact λ _=>h
 | cons x r ih=>
  intro hr
  obtain⟨c,v,hu,hc⟩:=tT_c r t
  have:=Xw (.inr (.inr rfl)) (YF (hr x (.head _)) hu hc (ih λ d hd=>hr d (.tail _ hd)))
  rw[tT,List.cons_append,List.append_assoc]
  exact this
theorem KU{t:List Nat}{toks:List Tk}(h:yQ (41::t) toks)(ds:List (List Nat))(hr:∀ d∈ds,(d==[42]||isN d)=true):yQ (yk ds++41::t) (qK ds++toks):=by
 cases ds with
 | nil=>exact h
 | cons d r=>
  obtain⟨c,v,hu,hc⟩:=tT_c r t
  show yQ ((d++yr r)++41::t) _
  rw[List.append_assoc]
  exact YF (hr d (.head _)) hu hc (Qx h r λ d hd=>hr d (.tail _ hd))
theorem WX{d:List Nat}(h:(d==[42]||isN d&&!acc.contains d)=true):yf (yq d) acc=some d:=by
 unfold yq
 cases e:d==[42] with
 | true=>rw[be_ e];rfl
 | false=>
  rw[e,Bool.false_or,Bool.and_eq_true] at h
  have h2:acc.contains d=false:=by simpa using h.2
  show yf (0,d) acc=some d
  have:zr (0,d) [42]=false:=rfl
  unfold yf
  rw[this,if_neg (by decide)]
  show(if acc.contains d=true then none else some d)=some d
  rw[h2]
  rfl
theorem pd_of{rest:List Tk}(r:List (List Nat)):∀ (d:List Nat) (acc:List (List Nat)) (n:Nat),wy acc (d::r)=true->r.length<n->pdF n (qK (d::r)++(2,[41])::rest) acc=some (acc++d::r,rest):=by
 induction r with
 | nil=>
  intro d acc n h hn
  cases n with
  | zero=>exact absurd hn (Nat.not_lt_zero _)
  | succ n=>exact vM (WX (V.beqB h).1)
 | cons x r ih=>
  intro d acc n h hn
  cases n with
  | zero=>exact absurd hn (Nat.not_lt_zero _)
  | succ n=>
   have:=ih x (acc++[d]) n (V.beqB h).2 (Nat.lt_of_succ_lt_succ hn)
   rw[List.append_assoc] at this
   exact(vM (WX (V.beqB h).1)).trans this
theorem z2E(r:List (List Nat)):r.length<=(yr r).length:=by
 induction r with
 | nil=>exact Nat.le_refl _
 | cons x r ih=>
  rw[tT,List.length_cons,List.length_cons,List.length_append]
  exact Nat.succ_le_succ (Nat.le_trans ih (Nat.le_add_left _ _))
theorem z01{w:List Nat}(hn:s.length<1000)(h:jo s w od):nlF s=some (w,od.getD []):=by
 cases od with
 | none=>
  obtain⟨rfl,hw⟩:=h
  have:=je hw (t:=[]) rfl Wq
  rw[List.append_nil] at this
  unfold nlF
  rw[this _ (Nat.le_refl _)]
  rfl
 | some ds=>
  obtain⟨rfl,hw,ho⟩:=h
  have hb:=KU (Xw (c:=41) (t:=[]) (.inr (.inl rfl)) Wq) ds (Zy ho)
  have hl:=je hw (t:=40::(yk ds++[41])) rfl (Xw (.inl rfl) hb)
  unfold nlF
  rw[hl _ (Nat.le_refl _)]
  rw[Option.bind_some,j8]
  have b40:zB ((0,w)::(2,[40])::(qK ds++[(2,[41])])) 1 [40]=true:=rfl
  cases ds with
  | nil=>rfl
  | cons d r=>
   have b41:zB ((0,w)::(2,[40])::(qK (d::r)++[(2,[41])])) 2 [41]=false:=by
    show zr (yq d) [41]=false
    unfold yq
    cases e:d==[42] with
    | true=>rfl
    | false=>rfl
   have hlen:r.length<1500:=by
    refine Nat.lt_of_le_of_lt (z2E r) (Nat.lt_trans (Nat.lt_of_le_of_lt ?_ hn) (by decide))
    rw[List.length_append]
    refine Nat.le_trans ?_ (Nat.le_add_left _ _)
    show _<=((d++yr r)++[41]).length+1
    rw[List.length_append,List.length_append]
    exact Nat.le_trans (Nat.le_add_left _ _) (Nat.le_trans (Nat.le_add_right _ _) (Nat.le_succ _))
   unfold dlF
   rw[if_pos b40,if_neg (by rw[b41];decide)]
   have hpd:=pd_of (rest:=[]) r d [] 1500 ho hlen
   have hdrop:List.drop (1+1) (((0,w):Tk)::(2,[40])::(qK (d::r)++[(2,[41])]))=qK (d::r)++[(2,[41])]:=rfl
   rw[hdrop,hpd]
   simp only[Option.map_some]
   rw[if_neg (by simp)]
   rfl
noncomputable def WfT(t:Tk):Prop:=(t.1=0->isN t.2=true)/\t.1<=2
theorem z27{t:Tk}(h:yM s=some (t,k)):WfT t:=by
 cases s with
 | nil=>exact n1 h
 | cons c r=>
  revert h
  show(if upC c=true then(if 6<((c::r).takeWhile nmC).length then none else some ((0,(c::r).takeWhile nmC),((c::r).takeWhile nmC).length)) else if dgC c=true then some ((1,(c::r).takeWhile dgC),((c::r).takeWhile dgC).length) else if (c==42&&r.head?==some 42)=true then some ((2,@"**"),2) else some ((2,[c]),1))=some (t,k)->_
  by_cases hu:upC c=true
  ·rw[if_pos hu]
   by_cases h6:6<((c::r).takeWhile nmC).length
   ·rw[if_pos h6];exact λ h=>n1 h
   ·rw[if_neg h6]
    intro h
    cases h
    exact⟨λ _=>isN_iff.mpr ⟨⟨c,r.takeWhile nmC,by rw[List.takeWhile_cons,nmC,hu];rfl,hu⟩,λ _=>Qk,Nat.lt_succ_of_le (Nat.le_of_not_lt h6)⟩,Nat.zero_le 2⟩
  ·rw[if_neg hu]
   by_cases hd:dgC c=true
   ·rw[if_pos hd]
    intro h
    cases h
    exact⟨λ e=>(nomatch e),Nat.le_succ 1⟩
   ·rw[if_neg hd]
    by_cases h42:(c==42&&r.head?==some 42)=true
    ·rw[if_pos h42]
     intro h
     cases h
     exact⟨λ e=>(nomatch e),Nat.le_refl 2⟩
    ·rw[if_neg h42]
     intro h
     cases h
     exact⟨λ e=>(nomatch e),Nat.le_refl 2⟩
theorem z3d{n:Nat}:∀ {s:List Nat} {toks:List Tk},wa n s=some toks->(∀ t∈toks,WfT t)/\(toks.map (·.2)).flatten=s:=by
 induction n with
 | zero=>
  intro s toks h
  cases s with
  | nil=>rw[Za _ h];exact⟨λ _ h=>(nomatch h),rfl⟩
  | cons c r=>exact n1 h
 | succ n ih=>
  intro s toks h
  cases s with
  | nil=>rw[Za _ h];exact⟨λ _ h=>(nomatch h),rfl⟩
  | cons c r=>
   obtain⟨t,k,q,h1,h2,rfl⟩:=QG n c r toks h
   refine⟨λ x hx=>(mc_ hx).elim (λ e=>e ▸ z27 h1) ((ih h2).1 x),?_⟩
   rw[List.map_cons,List.flatten_cons,(ih h2).2,←(vU h1).2.2,List.take_append_drop]
theorem Z7{t:Tk}{w:List Nat}(hw:WfT t)(h:zr t w=true):t=(2,w):=by
 obtain⟨k,x⟩:=t
 have h:=V.beqB h
 rw[←eq_of_beq h.2]
 have h1:=h.1
 have h2:k<=2:=hw.2
 cases k with
 | zero=>cases h1
 | succ k=>cases k with
  | zero=>cases h1
  | succ k=>cases k with
   | zero=>rfl
   | succ k=>exact absurd h2 (Nat.not_le.mpr (Nat.le_add_left 3 k))
theorem VT{t:Tk}{w:List Nat}(hw:WfT t)(h:yf t acc=some w):t=yq w/\(w==[42]||isN w&&!acc.contains w)=true:=by
 rcases Xn t acc with ⟨h4,h5⟩ | ⟨h4,h5,h6,h7⟩ | ⟨h4,h5,h6,h7⟩ | ⟨h4,h5,h7⟩
 ·rw[←Option.some.inj (h5.symm.trans h)]
  exact⟨Z7 hw h4,rfl⟩
 ·rw[←Option.some.inj (h7.symm.trans h)]
  obtain⟨k,x⟩:=t
  dsimp only at h5 h6 ⊢
  subst h5
  have hn:=hw.1 rfl
  have hx:(x==[42])=false:=bn_ λ e=>by rw[e] at hn;cases hn
  have hn:isN x=true:=hn
  exact⟨by unfold yq;rw[hx];rfl,by rw[hx,h6,hn];rfl⟩
 ·exact n1 (h7.symm.trans h)
 ·exact n1 (h7.symm.trans h)
theorem J5{n:Nat}{t:Tk}{r:List Tk}{p:List (List Nat)×List Tk}(h:pdF (n+1) (t::r) acc=some p):∃ w u r',yf t acc=some w/\r=u::r'/\((zr u [44]=true/\pdF n r' (acc++[w])=some p)\/(zr u [41]=true/\(acc++[w],r')=p)):=by
 cases hi:yf t acc with
 | none=>rw[QX hi] at h;exact n1 h
 | some w=>
  rw[vM hi] at h
  cases r with
  | nil=>exact n1 h
  | cons u r'=>
   refine⟨w,u,r',rfl,rfl,?_⟩
   revert h
   show(if zr u [44]=true then pdF n r' (acc++[w]) else if zr u [41]=true then some (acc++[w],r') else none)=some p->_
   by_cases h4:zr u [44]=true
   ·rw[if_pos h4];exact λ h=>.inl ⟨h4,h⟩
   ·rw[if_neg h4]
    by_cases h1:zr u [41]=true
    ·rw[if_pos h1];exact λ h=>.inr ⟨h1,Option.some.inj h⟩
    ·rw[if_neg h1];exact λ h=>n1 h
theorem z3l{n:Nat}:∀ {toks rest:List Tk} {acc out:List (List Nat)},(∀ t∈toks,WfT t)->pdF n toks acc=some (out,rest)->∃ d r,out=acc++d::r/\wy acc (d::r)=true/\toks=qK (d::r)++(2,[41])::rest:=by
 induction n with
 | zero=>exact λ _ h=>n1 h
 | succ n ih=>
  intro toks rest acc out hw h
  cases toks with
  | nil=>exact n1 h
  | cons t r=>
   obtain⟨w,u,r',hi,rfl,hh⟩:=J5 h
   obtain⟨rfl,hok⟩:=VT (hw t (.head _)) hi
   rcases hh with ⟨ho,hr⟩ | ⟨ho,hr⟩
   ·rw[Z7 (hw u (.tail _ (.head _))) ho]
    obtain⟨d,r,h1,h2,h3⟩:=ih (λ t ht=>hw t (.tail _ (.tail _ ht))) hr
    refine⟨w,d::r,by rw[h1,List.append_assoc];rfl,bm_ ⟨hok,h2⟩,?_⟩
    rw[h3];rfl
   ·rw[Z7 (hw u (.tail _ (.head _))) ho]
    cases hr
    exact⟨w,[],rfl,bm_ ⟨hok,rfl⟩,rfl⟩
set_option tactic.hygienic true in
theorem YV(d:List Nat):(yq d).2=d:=by
 unfold yq
 split
 ·rename_i h;rw[be_ h]
 ·rfl
theorem Km(r:List (List Nat)):((jI r).map (·.2)).flatten=yr r:=by
 induction r with
 | nil=>rfl
 | cons x r ih=>rw[tK,tT,List.map_cons,List.map_cons,List.flatten_cons,List.flatten_cons,ih,YV];rfl
theorem z3r{toks:List Tk}{e:Nat}(h:dlF toks i=some (ds,e)):(A3 (zB toks i [40]=false) (ds=[]) (e=i))\/(A4 (zB toks i [40]=true) (zB toks (i+1) [41]=true) (ds=[]) (e=i+2))\/(zB toks i [40]=true/\∃ q,pdF 1500 (toks.drop (i+1)) []=some q/\(q.1,toks.length-q.2.length)=(ds,e)):=by
 revert h
 unfold dlF
 cases zB toks i [40] with
 | false=>exact λ h=>.inl (by cases h;exact⟨rfl,rfl,rfl⟩)
 | true=>
  rw[if_pos rfl]
  cases zB toks (i+1) [41] with
  | true=>exact λ h=>.inr (.inl (by cases h;exact⟨rfl,rfl,rfl,rfl⟩))
  | false=>exact λ h=>.inr (.inr ⟨rfl,om_ h⟩)
theorem z30{x w:List Nat}{r:List Tk}(h:nlT ((0,x)::r)=some (w,ds)):∃ e,dlF ((0,x)::r) 1=some (ds,e)/\x=w/\r.length+1<=e:=by
 revert h
 rw[j8]
 cases hd:dlF ((0,x)::r) 1 with
 | none=>exact λ h=>n1 h
 | some p=>
  obtain⟨ds',e⟩:=p
  show(if e<r.length+1 then none else some (x,ds'))=_->_
  by_cases hl:e<r.length+1
  ·rw[if_pos hl];exact λ h=>n1 h
  ·rw[if_neg hl]
   intro h
   cases h
   exact⟨e,rfl,rfl,Nat.le_of_not_lt hl⟩
theorem z0w{w:List Nat}(h:nlF s=some (w,ds)):∃ od,jo s w od/\od.getD []=ds:=by
 obtain⟨toks,hl,h⟩:=Option.bind_eq_some_iff.mp h
 obtain⟨hwf,htx⟩:=z3d hl
 cases toks with
 | nil=>exact n1 h
 | cons t r=>
  obtain⟨k,x⟩:=t
  cases k with
  | succ k=>rw[Q4 (Nat.succ_ne_zero k)] at h;exact n1 h
  | zero=>
   have hx:isN x=true:=(hwf _ (.head _)).1 rfl
   obtain⟨e,hd,rfl,hlt⟩:=z30 h
   rcases z3r hd with ⟨_,rfl,rfl⟩ | ⟨h40,h41,rfl,rfl⟩ | ⟨h40,q,hp,hq⟩
   ·cases r with
    | cons y r=>exact absurd hlt (Nat.not_le.mpr (Nat.succ_lt_succ (Nat.succ_pos _)))
    | nil=>exact⟨none,⟨htx.symm.trans (List.append_nil x),hx⟩,rfl⟩
   ·cases r with
    | nil=>exact ft h40
    | cons u r=>
     cases r with
     | nil=>exact ft h41
     | cons v r=>
      cases r with
      | cons y r=>exact absurd hlt (Nat.not_le.mpr (Nat.succ_lt_succ (Nat.succ_lt_succ (Nat.succ_lt_succ (Nat.succ_pos _)))))
      | nil=>
       have hu:=Z7 (hwf u (.tail _ (.head _))) h40
       have hv:=Z7 (hwf v (.tail _ (.tail _ (.head _)))) h41
       subst hu hv
       exact⟨some [],⟨htx.symm,hx,rfl⟩,rfl⟩
   ·cases r with
    | nil=>exact ft h40
    | cons u r=>
     have hu:=Z7 (hwf u (.tail _ (.head _))) h40
     subst hu
     obtain⟨out,rest⟩:=q
     cases hq
     obtain⟨d,r',h1,h2,h3⟩:=z3l (λ t ht=>hwf t (.tail _ (.tail _ ht))) hp
     cases rest with
     | cons y rest=>exact absurd hlt (Nat.not_le.mpr (Nat.sub_lt (Nat.succ_pos _) (Nat.succ_pos _)))
     | nil=>
      refine⟨some (d::r'),⟨?_,hx,h2⟩,h1.symm⟩
      rw[←htx,show r=_ from h3]
      show x++([40]++((qK (d::r')++[(2,[41])]).map (λ p:Tk=>p.2)).flatten)=x++40::((d++yr r')++[41])
      rw[List.map_append,List.flatten_append]
      show x++([40]++(((yq d).2++((jI r').map (λ p:Tk=>p.2)).flatten)++[41]))=_
      rw[Km,YV];rfl
theorem Q6(c:Nat)(s:List Nat):∃ x q,z7 c s=x::q:=by
 have:=kX c s
 cases h:z7 c s with
 | nil=>rw[h] at this;cases this
 | cons x q=>exact⟨x,q,rfl⟩
theorem jg(x:List Nat)(q:List (List Nat)):yr (x::q)=44::yk (x::q):=by simp [yr,yk]
theorem join_split:∀ s:List Nat,yk (z7 44 s)=s
 | []=>rfl
 | a::r=>by
  have ih:=join_split r
  obtain⟨x,q,h⟩:=Q6 44 r
  simp only[z7]
  rw[h] at ih ⊢
  cases e:a==44 with
  | true=>
   rw[if_pos rfl,be_ e]
   show[]++yr (x::q)=_
   rw[jg,ih];rfl
  | false=>
   rw[if_neg (by decide)]
   show(a::x)++yr q=_
   rw[←ih];rfl
theorem v4:∀ (r:List (List Nat)) (d:List Nat),(∀ x∈d::r,∀ c∈x,c≠44)->z7 44 (yk (d::r))=d::r
 | r,a::d,h=>by
  have ih:=v4 r d (λ x hx c hc=>by
   rcases mc_ hx with rfl | hx
   ·exact h _ (.head _) c (.tail _ hc)
   ·exact h x (.tail _ hx) c hc)
  have ha:(a==44)=false:=bn_ (h _ (.head _) a (.head _))
  have e:yk ((a::d)::r)=a::yk (d::r):=rfl
  rw[e]
  simp only[z7,ha,ih]
  rfl
 | [],[],h=>rfl
 | x::q,[],h=>by
  have ih:=v4 q x (λ y hy c hc=>h y (.tail _ hy) c hc)
  have e:yk ([]::x::q)=44::yk (x::q):=jg x q
  rw[e]
  simp only[z7,ih]
  rfl
termination_by r d=>(r.length,d.length)
theorem YM(k:Nat):∀ s:List Nat,s.takeWhile (· !=k)=s\/∃ rest,s=s.takeWhile (· !=k)++k::rest
 | []=>.inl rfl
 | a::r=>by
  cases e:a==k with
  | true=>
   have:(a !=k)=false:=by simp [bne,e]
   rw[List.takeWhile_cons,this]
   exact .inr ⟨r,by rw[be_ e];rfl⟩
  | false=>
   have:(a !=k)=true:=by simp [bne,e]
   rw[List.takeWhile_cons,if_pos this]
   rcases YM k r with h | ⟨rest,h⟩
   ·exact .inl (by rw[h])
   ·exact .inr ⟨rest,by rw[List.cons_append,←h]⟩
theorem yx{w:List Nat}(h:isN w=true):∀ x∈w,x≠40/\x≠41/\x≠42/\x≠44:=λ x hx=>z23 ((isN_iff.mp h).2.1 x hx)
theorem Zg{d:List Nat}(h:(d==[42]||isN d)=true):∀ x∈d,x≠40/\x≠41/\x≠44:=by
 intro x hx
 rw[Bool.or_eq_true] at h
 rcases h with h | h
 ·rw[be_ h] at hx
  have:x=42:=by simpa using hx
  subst this
  decide
 ·have:=yx h x hx
  exact⟨this.1,this.2.1,this.2.2.2⟩
theorem Wz:∀ {r:List (List Nat)},(∀ d∈r,(d==[42]||isN d)=true)->∀ x∈yr r,x≠40/\x≠41
 | [],_,x,hx=>by cases hx
 | d::r,h,x,hx=>by
  have e:yr (d::r)=44::(d++yr r):=by simp [yr]
  rw[e] at hx
  rcases mc_ hx with rfl | hx
  ·decide
  ·rcases ma_ hx with hx | hx
   ·have:=Zg (h d (.head _)) x hx
    exact⟨this.1,this.2.1⟩
   ·exact Wz (λ d hd=>h d (.tail _ hd)) x hx
theorem WG{r:List (List Nat)}(h:∀ d∈r,(d==[42]||isN d)=true):∀ x∈yk r,x≠40/\x≠41:=by
 intro x hx
 cases r with
 | nil=>cases hx
 | cons d r=>
  rcases ma_ hx with hx | hx
  ·have:=Zg (h d (.head _)) x hx
   exact⟨this.1,this.2.1⟩
  ·exact Wz (λ d hd=>h d (.tail _ hd)) x hx
theorem KY{l:List Nat}(h:∀ x∈l,x≠k):l.count k=0:=List.count_eq_zero.mpr λ hm=>h k hm rfl
theorem mid(w inner:List Nat)(k z:Nat):((w++k::(inner++[z])).take ((w++k::(inner++[z])).length-1)).drop (w.length+1)=inner:=by
 have e1:w++k::(inner++[z])=(w++k::inner)++[z]:=by simp
 have e2:(w++k::(inner++[z])).length-1=(w++k::inner).length:=by simp
 rw[e2,e1,List.take_left]
 have e3:w++k::inner=(w++[k])++inner:=by simp
 rw[e3,show w.length+1=(w++[k]).length by simp,List.drop_left]
theorem Zn(x:List Nat)(z:Nat):(x++[z])[(x++[z]).length-1]?=some z:=by simp
noncomputable def lnP(i:List Nat):List (List Nat):=if i==[] then[] else z7 44 i
theorem W6(s:List Nat):lnF s=if isN (s.takeWhile (· !=40)) then(if s.takeWhile (· !=40)==s then some (s.takeWhile (· !=40),none) else
  if s[s.length-1]?==some 41&&(s.count 40==1&&s.count 41==1) then
   (if wy [] (lnP ((s.take (s.length-1)).drop ((s.takeWhile (· !=40)).length+1)))
    then some (s.takeWhile (· !=40),some (lnP ((s.take (s.length-1)).drop ((s.takeWhile (· !=40)).length+1)))) else none)
  else none) else none:=rfl
theorem z12:lnP []=[]:=rfl
theorem KE{i:List Nat}(h:(i==[])=false):lnP i=z7 44 i:=by unfold lnP;rw[h];rfl
theorem WO{w:List Nat}(h:jo s w od):lnF s=some (w,od):=by
 cases od with
 | none=>
  obtain⟨rfl,hw⟩:=h
  have ht:s.takeWhile (· !=40)=s:=by
   have:=jf (p:=λ x=>x !=40) (w:=s) (t:=[]) (λ x hx=>by simpa [bne] using (yx hw x hx).1) (λ c r e=>by cases e)
   rwa [List.append_nil] at this
  rw[W6,ht,hw,if_pos rfl,beq_self_eq_true,if_pos rfl]
 | some ds=>
  obtain⟨hs,hw,ho⟩:=h
  have hm:=Zy ho
  have hno:=WG hm
  have ht:s.takeWhile (· !=40)=w:=by
   rw[hs]
   exact jf (p:=λ x=>x !=40) (λ x hx=>by simpa [bne] using (yx hw x hx).1) (λ c r e=>by cases e;rfl)
  have hne:(w==s)=false:=by
   rw[beq_eq_false_iff_ne]
   intro e
   have:=congrArg List.length e
   rw[hs] at this
   simp at this
  have hl:s[s.length-1]?=some 41:=by
   have e:s=(w++40::yk ds)++[41]:=by rw[hs];simp
   rw[e];exact Zn _ _
  have c1:s.count 40=1:=by
   rw[hs,List.count_append,List.count_cons,List.count_append,KY (λ x hx=>(yx hw x hx).1),KY (λ x hx=>(hno x hx).1)]
   rfl
  have c2:s.count 41=1:=by
   rw[hs,List.count_append,List.count_cons,List.count_append,KY (λ x hx=>(yx hw x hx).2.1),KY (λ x hx=>(hno x hx).2)]
   rfl
  have hin:(s.take (s.length-1)).drop (w.length+1)=yk ds:=by rw[hs];exact mid _ _ _ _
  rw[W6,ht,hw,if_pos rfl,hne,if_neg (by decide),hl,c1,c2,hin,if_pos (by rfl)]
  cases ds with
  | nil=>rfl
  | cons d r=>
   have hd:d≠[]:=by
    have:=hm d (.head _)
    rw[Bool.or_eq_true] at this
    rintro rfl
    rcases this with h | h<;>cases h
   have hb:(yk (d::r)==[])=false:=by
    rw[beq_eq_false_iff_ne]
    intro e
    exact hd (List.append_eq_nil_iff.mp e).1
   rw[KE hb,v4 r d (λ x hx c hc=>(Zg (hm x hx) c hc).2.2),ho]
   rfl
set_option tactic.hygienic true in
theorem wN{w:List Nat}(h:lnF s=some (w,od)):jo s w od:=by
 rw[W6] at h
 split at h
 ·rename_i hw
  split at h
  ·rename_i he
   cases h
   exact⟨(be_ he).symm,hw⟩
  ·rename_i he
   split at h
   ·rename_i hc
    simp only[Bool.and_eq_true,beq_iff_eq] at hc
    obtain⟨hl,h40,h41⟩:=hc
    split at h
    ·rename_i ho
     cases h
     have he':s.takeWhile (· !=40)≠s:=by simpa using he
     rcases YM 40 s with hq | ⟨rest,hq⟩
     ·exact absurd hq he'
     ·generalize hww:s.takeWhile (· !=40)=w at *
      rcases List.eq_nil_or_concat rest with rfl | ⟨inner,z,rfl⟩
      ·rw[hq,Zn] at hl;cases hl
      ·rw[List.concat_eq_append] at hq
       have hz:z=41:=by
        have e:s=(w++40::inner)++[z]:=by rw[hq];simp
        rw[e,Zn] at hl
        exact Option.some.inj hl
       subst hz
       have hin:(s.take (s.length-1)).drop (w.length+1)=inner:=by rw[hq];exact mid _ _ _ _
       rw[hin] at ho ⊢
       refine⟨?_,hw,ho⟩
       cases hi:inner==[] with
       | true=>rw[be_ hi,z12,hq,be_ hi];rfl
       | false=>rw[KE hi,join_split,hq]
    ·cases h
   ·cases h
 ·cases h
theorem YN(hn:s.length<1000):nlF s=(lnF s).map λ q=>(q.1,q.2.getD []):=by
 cases h:lnF s with
 | some q=>
  obtain⟨w,od⟩:=q
  exact z01 hn (wN h)
 | none=>
  cases h2:nlF s with
  | none=>rfl
  | some q=>
   obtain⟨w,ds⟩:=q
   obtain⟨od,hg,_⟩:=z0w h2
   rw[WO hg] at h
   cases h
theorem kz{w:List Nat}(h:jo s w od):(s.length=w.length↔od=none):=by
 cases od with
 | none=>exact⟨λ _=>rfl,λ _=>by rw[h.1]⟩
 | some ds=>exact⟨λ e=>by rw[h.1] at e;simp at e,λ e=>by cases e⟩
theorem yN:∀ (p x:List Nat) (d:Nat),blE d (p++x)=(blE d p).bind λ d'=>blE d' x
 | [],x,d=>by simp [blE]
 | c::r,x,d=>by
  simp only[List.cons_append,blE]
  split
  ·exact yN r x _
  ·split
   ·cases d with
    | zero=>rfl
    | succ d=>exact yN r x _
   ·exact yN r x _
theorem wB:∀ {p:List Nat} {d:Nat},(∀ c∈p,c≠40/\c≠41)->blE d p=some d
 | [],d,_=>by simp [blE]
 | c::r,d,h=>by
  have hc:=h c (.head _)
  have ih:=wB (d:=d) (λ c hc=>h c (.tail _ hc))
  simp [blE,hc.1,hc.2,ih]
theorem Wt{w:List Nat}(h:jo s w od)(d:Nat):blE d s=some d:=by
 cases od with
 | none=>rw[h.1];exact wB λ c hc=>⟨(yx h.2 c hc).1,(yx h.2 c hc).2.1⟩
 | some ds=>
  rw[h.1,yN,wB λ c hc=>⟨(yx h.2.1 c hc).1,(yx h.2.1 c hc).2.1⟩]
  have hb:=wB (d:=d+1) (WG (Zy h.2.2))
  have e:blE d (40::(yk ds++[41]))=blE (d+1) (yk ds++[41]):=by simp [blE]
  show blE d (40::(yk ds++[41]))=_
  rw[e,yN,hb]
  simp [blE]
noncomputable def PRG:List Nat:=@"PROGRAM"
noncomputable def ZS:List Nat:=@"SUBROUTINE"
noncomputable def BLD:List Nat:=@"BLOCKDATA"
theorem zP(h:s.take k=p):s=p++s.drop k:=by rw[←h,List.take_append_drop]
theorem z0o(x:List Nat):xj (PRG++x)=KPR:=rfl
theorem z0v(x:List Nat):xj (ZS++x)=KSU:=rfl
theorem z0k(x:List Nat):xj (BLD++x)=KBD:=rfl
theorem WT(x:List Nat):xj (FUN++x)=yg:=rfl
theorem QK:∀ p∈BEG,HWS.contains p.2=true->(p.1=PRG\/p.1=ZS\/p.1=BLD\/p.1=FUN):=by decide
theorem VR:∀ p∈WHO,HWS.contains p.2=false:=by decide
theorem XZ:∀ p∈TYP,HWS.contains p.2=false:=by decide
set_option tactic.hygienic true in
theorem z1H(h:HWS.contains (xj s)=true):s.take 7=PRG\/s.take 10=ZS\/s.take 9=BLD\/s.take 8=FUN\/xj s=yg:=by
 unfold xj at h ⊢
 cases hn1:WHO.find? (λ p=>s==p.1) with
 | some p=>simp only[hn1] at h;rw[VR p (List.mem_of_find?_eq_some hn1)] at h;cases h
 | none=>
  cases hn2:BEG.find? (λ p=>s.take p.1.length==p.1) with
  | some p=>
   simp only[hn1,hn2] at h
   have h1:=List.find?_some hn2
   have h2:=QK p (List.mem_of_find?_eq_some hn2) h
   rw[beq_iff_eq] at h1
   rcases h2 with e | e | e | e
   ·rw[e] at h1;exact .inl h1
   ·rw[e] at h1;exact .inr (.inl h1)
   ·rw[e] at h1;exact .inr (.inr (.inl h1))
   ·rw[e] at h1;exact .inr (.inr (.inr (.inl h1)))
  | none=>
   refine .inr (.inr (.inr (.inr ?_)))
   simp only[hn1,hn2] at h ⊢
   unfold Zu at h ⊢
   cases hp:TYP.find? (λ p=>s.take p.1.length==p.1) with
   | none=>simp only[hp] at h;cases h
   | some p=>
    simp only[hp] at h ⊢
    unfold qY at h ⊢
    split at h
    ·rename_i h8
     split at h
     ·rename_i h9
      rw[if_pos h8,if_pos h9]
     ·rw[XZ p (List.mem_of_find?_eq_some hp)] at h;cases h
    ·rw[XZ p (List.mem_of_find?_eq_some hp)] at h;cases h
set_option tactic.hygienic true in
theorem z1X(h:xj s=yg):s.take 8=FUN\/∃ k,(s.drop k).take 8=FUN:=by
 unfold xj at h
 split at h
 ·rename_i p hp
  have:=VR p (List.mem_of_find?_eq_some hp)
  rw[h] at this;cases this
 ·split at h
  ·rename_i p hp
   have h1:=List.find?_some hp
   have h2:=QK p (List.mem_of_find?_eq_some hp) (by rw[h];rfl)
   have h3:∀ p∈BEG,p.2=yg->p.1=FUN:=by decide
   have h4:=h3 p (List.mem_of_find?_eq_some hp) h
   rw[beq_iff_eq,h4] at h1
   exact .inl h1
  ·unfold Zu at h
   split at h
   ·rename_i p hp
    unfold qY at h
    split at h
    ·rename_i h8
     exact .inr ⟨_,be_ h8⟩
    ·have:=XZ p (List.mem_of_find?_eq_some hp)
     rw[h] at this;cases this
   ·cases h
theorem pre_take:∀ {p s:List Nat},p.isPrefixOf s=true↔s.take p.length=p
 | [],s=>by simp
 | a::p,[]=>by simp
 | a::p,b::s=>by
  simp only[List.isPrefixOf,List.length_cons,List.take_succ_cons,Bool.and_eq_true,beq_iff_eq,List.cons.injEq]
  rw[pre_take]
  constructor
  ·rintro⟨rfl,h⟩;exact⟨rfl,h⟩
  ·rintro⟨rfl,h⟩;exact⟨rfl,h⟩
set_option tactic.hygienic true in
theorem kh(hp:p≠[]):∀ {s:List Nat} {k j:Nat},(s.drop j).take p.length=p->∃ a,z8 p s k=((k+a:Nat):Int)/\a<=j
 | [],k,j,h=>by simp at h;exact absurd h hp
 | c::r,k,j,h=>by
  simp only[z8]
  split
  ·exact⟨0,rfl,Nat.zero_le _⟩
  ·rename_i hn
   cases j with
   | zero=>exact absurd (pre_take.mpr h) hn
   | succ j=>
    obtain⟨a,h1,h2⟩:=kh hp (s:=r) (k:=k+1) (j:=j) h
    exact⟨a+1,h1.trans (congrArg (λ n:Nat=>(n:Int)) (Nat.add_right_comm k 1 a)),Nat.succ_le_succ h2⟩
theorem z0l(hp:p≠[]):∀ {k b:Nat},z8 p s k=((b:Nat):Int)->∃ a,b=k+a/\(s.drop a).take p.length=p/\a+p.length<=s.length:=by
 induction s with
 | nil=>
  intro k b h
  have h:(if p=[] then(k:Int) else -1)=((b:Nat):Int):=h
  rw[if_neg hp] at h
  cases h
 | cons c r ih=>
  intro k b h
  have h:(if p.isPrefixOf (c::r)=true then(k:Int) else z8 p r (k+1))=((b:Nat):Int):=h
  by_cases q:p.isPrefixOf (c::r)=true
  ·rw[if_pos q] at h
   exact⟨0,(Int.ofNat_inj.mp h).symm,pre_take.mp q,by rw[Nat.zero_add];exact tkl (pre_take.mp q) rfl⟩
  ·rw[if_neg q] at h
   obtain⟨a,h1,h2,h3⟩:=ih h
   exact⟨a+1,h1.trans (Nat.add_right_comm k 1 a),h2,by rw[Nat.add_right_comm];exact Nat.succ_le_succ h3⟩
theorem jh{a:Nat}(h:z8 FUN s 0=((a:Nat):Int)):(s.drop a).take 8=FUN/\a+8<=s.length:=by
 obtain⟨a',h1,h2,h3⟩:=z0l (by decide) h
 have:a=a':=h1.trans (Nat.zero_add a')
 subst this
 exact⟨h2,h3⟩
noncomputable def z1u(p:List Nat):Prop:=∀ G,match xU p with
  | some r=>Ev 32 40 [.str p] G=.ok r G
  | none=>∃ t,Ev 32 40 [.str p] G=.exc 3 G.length (G++[.att [(txt,.str t)]])\/Ev 32 40 [.str p] G=.exc 2 G.length (G++[.att [(txt,.str t),(@"at",.int 0)]])
noncomputable def z1t(p:List Nat):Prop:=∀ r,xU p=some r->vd r/\∀ x w ds,jo x w (some ds)->xM (p++(FUN++x))=yg
structure CD(s:List Nat):Prop where
 len:s.length<500
 ch:∀ c∈s,c≠39/\c≠61
 pl:ZU s
 st:yd s=true->Yj s
 en:xM s≠ze
 t7:s.take 7=PRG->∀ c∈s.drop 7,tkC c=true
 t9:s.take 9=BLD->∀ c∈s.drop 9,tkC c=true
 t10:s.take 10=ZS->∀ c∈s.drop 10,tkC c=true
 tf:∀ a:Nat,z8 FUN s 0=(a:Int)->∀ c∈s.drop (a+8),tkC c=true
 pf:∀ a:Nat,z8 FUN s 0=(a:Int)->a≠0->(xM s=yg->z1u (s.take a))/\z1t (s.take a)
theorem yY:vd .none:=⟨.none,rfl,λ n H=>by simp only[yL,yJ,w8,ye,w0,xL,xZ,yP,y6,y7]⟩
theorem Vi(h:s.take 8=FUN):z8 FUN s 0=((0:Nat):Int):=by
 cases s with
 | nil=>cases h
 | cons c r=>
  simp only[z8]
  rw[if_pos (pre_take (p:=FUN) |>.mpr h)]
theorem z2B{a:Nat}(h:z8 FUN s 0=((a:Nat):Int)):s=s.take a++(FUN++s.drop (a+8)):=by
 have h1:=(jh h).1
 have h2:=zP h1
 rw[List.drop_drop] at h2
 rw[←h2,List.take_append_drop]
theorem vB{w:List Nat}(hn:s.length<1000)(h:nlF s=some (w,ds)):∃ od,lnF s=some (w,od)/\od.getD []=ds:=by
 rw[YN hn] at h
 cases hq:lnF s with
 | none=>rw[hq] at h;cases h
 | some q=>
  obtain⟨w',od⟩:=q
  rw[hq] at h
  cases h
  exact⟨od,rfl,rfl⟩
theorem z0Z(hn:s.length<1000)(h:nlF s=none):lnF s=none:=by
 rw[YN hn] at h
 cases hq:lnF s with
 | none=>rfl
 | some q=>rw[hq] at h;cases h
theorem QB(h:isN s=true):lnF s=some (s,none):=WO ⟨rfl,h⟩
theorem Kg{w:List Nat}(h:lnF s=some (w,od))(hl:s.length=w.length):isN s=true/\w=s:=by
 have hg:=wN h
 have:=(kz hg).mp hl
 subst this
 exact⟨by rw[hg.1];exact hg.2,hg.1.symm⟩
theorem W9{x:List Nat}(hp:∀ c∈p,c≠40/\c≠41)(h:isN x=true):yd (p++x)=true:=by
 unfold yd
 rw[yN,wB hp,Option.bind_some,wB λ c hc=>⟨(yx h c hc).1,(yx h c hc).2.1⟩]
 rfl
theorem Yo{x w:List Nat}(hp:∀ c∈p,c≠40/\c≠41)(h:jo x w od):yd (p++x)=true:=by
 unfold yd
 rw[yN,wB hp,Option.bind_some,Wt h]
 rfl
theorem yD(h:yd s=true):xM s=xj s:=by unfold xM;rw[h];rfl
theorem wG(h:yd s=false):xM s=[]:=by unfold xM;rw[h];rfl
theorem agree(c:CD s):KA 25 s:=by
 intro H r1 r2 h1 h2
 have hlen:=c.len
 have hc:Ev (26+8) 13 [.str s] H=.ok (.str (xM s)) H:=qI (n:=29) (Nat.lt_trans hlen (by decide)) c.ch c.pl c.st
 have hmain:HWS.contains (xM s)=false->RaisesR (Ev (25+10) 51 [.none,.int 1,.int 0,.str s,.ref r1,.ref r2] H) H:=λ h=>V0 hc h1 h2 c.en h
 by_cases t7:s.take 7=PRG
 ·have hs:=zP t7
  have hl7:7<=s.length:=tkl t7 rfl
  have hlh:lhF s=if isN (s.drop 7) then some (KPR,s.drop 7,[],.none) else none:=by
   unfold lhF;rw[t7,if_pos (by rfl)]
  cases hb:yd s with
  | false=>
   refine .inl ⟨?_,hmain (by rw[wG hb];rfl)⟩
   rw[hlh]
   cases hi:isN (s.drop 7) with
   | false=>rfl
   | true=>rw[hs,W9 (by decide) hi] at hb;cases hb
  | true=>
   have hw:xM s=KPR:=by rw[yD hb,hs];exact z0o _
   rw[hw] at hc
   rcases ZT (n:=27) (H:=H) (Nat.lt_trans hlen (by decide)) (c.t7 t7) hl7 with ⟨w,ds,q1,q2,q3⟩ | ⟨q1,q2⟩
   ·obtain⟨od,q4,q5⟩:=vB (dlt (Nat.lt_trans hlen (by decide))) q1
    obtain⟨q6,q7⟩:=Kg q4 (by rw[List.length_drop,q2,Nat.add_sub_cancel_left])
    subst q7
    refine .inr ⟨KPR,s.drop 7,[],.none,by rw[hlh,q6];rfl,yY,vC hc rfl q3⟩
   ·refine .inl ⟨?_,kl hc rfl q2⟩
    rw[hlh]
    cases hi:isN (s.drop 7) with
    | false=>rfl
    | true=>
     have:=YN (s:=s.drop 7) (dlt (Nat.lt_trans hlen (by decide)))
     rw[QB hi] at this
     exact absurd (by rw[List.length_drop];exact(Nat.add_sub_cancel' hl7).symm) (q1 _ _ this)
 by_cases t9:s.take 9=BLD
 ·have hs:=zP t9
  have hl9:9<=s.length:=tkl t9 rfl
  have hlh:lhF s=if s==BLD then some (KBL,BLK,[],.none) else if isN (s.drop 9) then some (KBL,s.drop 9,[],.none) else none:=by
   unfold lhF
   have e7:(s.take 7==PRG)=false:=bn_ t7
   unfold PRG at e7
   rw[e7,if_neg (by decide),t9,if_pos (by rfl)]<;>rfl
  cases hb:yd s with
  | false=>
   refine .inl ⟨?_,hmain (by rw[wG hb];rfl)⟩
   rw[hlh]
   cases he:s==BLD with
   | true=>rw[be_ he] at hb;cases hb
   | false=>
    rw[if_neg (by decide)]
    cases hi:isN (s.drop 9) with
    | false=>rfl
    | true=>rw[hs,W9 (by decide) hi] at hb;cases hb
  | true=>
   have hw:xM s=KBD:=by rw[yD hb,hs];exact z0k _
   rw[hw] at hc
   by_cases hl:s.length=9
   ·have he:s=BLD:=by rw[←t9,List.take_of_length_le (Nat.le_of_eq hl)]
    refine .inr ⟨KBL,BLK,[],.none,by rw[hlh,beq_iff_eq.mpr he];rfl,yY,vC hc rfl (X4 (n:=27) hl)⟩
   ·have he:(s==BLD)=false:=bn_ λ e=>hl (by rw[e];rfl)
    rw[he,if_neg (by decide)] at hlh
    rcases W2 (n:=27) (H:=H) (Nat.lt_trans hlen (by decide)) (c.t9 t9) (Nat.lt_of_le_of_ne hl9 (Ne.symm hl)) with ⟨w,ds,q1,q2,q3⟩ | ⟨q1,q2⟩
    ·obtain⟨od,q4,q5⟩:=vB (dlt (Nat.lt_trans hlen (by decide))) q1
     obtain⟨q6,q7⟩:=Kg q4 (by rw[List.length_drop,q2,Nat.add_sub_cancel_left])
     subst q7
     refine .inr ⟨KBL,s.drop 9,[],.none,by rw[hlh,q6];rfl,yY,vC hc rfl q3⟩
    ·refine .inl ⟨?_,kl hc rfl q2⟩
     rw[hlh]
     cases hi:isN (s.drop 9) with
     | false=>rfl
     | true=>
      have:=YN (s:=s.drop 9) (dlt (Nat.lt_trans hlen (by decide)))
      rw[QB hi] at this
      exact absurd (by rw[List.length_drop];exact(Nat.add_sub_cancel' hl9).symm) (q1 _ _ this)
 by_cases t10:s.take 10=ZS
 ·have hs:=zP t10
  have hlh:lhF s=(lnF (s.drop 10)).map (λ q=>(KSU,q.1,q.2.getD [],.none)):=by
   unfold lhF
   have e7:(s.take 7==PRG)=false:=bn_ t7
   have e9:(s.take 9==BLD)=false:=bn_ t9
   unfold PRG at e7
   unfold BLD at e9
   rw[e7,if_neg (by decide),e9,if_neg (by decide),t10,if_pos (by rfl)]
  cases hb:yd s with
  | false=>
   refine .inl ⟨?_,hmain (by rw[wG hb];rfl)⟩
   rw[hlh]
   cases hq:lnF (s.drop 10) with
   | none=>rfl
   | some q=>
    obtain⟨w,od⟩:=q
    rw[hs,Yo (by decide) (wN hq)] at hb;cases hb
  | true=>
   have hw:xM s=KSU:=by rw[yD hb,hs];exact z0v _
   rw[hw] at hc
   rcases Kl (n:=27) (H:=H) (Nat.lt_trans hlen (by decide)) (c.t10 t10) with ⟨w,ds,q1,q3⟩ | ⟨q1,q2⟩
   ·obtain⟨od,q4,q5⟩:=vB (dlt (Nat.lt_trans hlen (by decide))) q1
    refine .inr ⟨KSU,w,ds,.none,by rw[hlh,q4,←q5];rfl,yY,vC hc rfl q3⟩
   ·refine .inl ⟨?_,kl hc rfl q2⟩
    rw[hlh,z0Z (dlt (Nat.lt_trans hlen (by decide))) q1];rfl
 have hlh:lhF s=lfF s:=by
  unfold lhF
  have e7:(s.take 7==PRG)=false:=bn_ t7
  have e9:(s.take 9==BLD)=false:=bn_ t9
  have e10:(s.take 10==ZS)=false:=bn_ t10
  unfold PRG at e7
  unfold BLD at e9
  unfold ZS at e10
  rw[e7,if_neg (by decide),e9,if_neg (by decide),e10,if_neg (by decide)]
 cases hcw:xM s==yg with
 | true=>
  rw[beq_iff_eq] at hcw
  have hbal:yd s=true:=by
   cases hb:yd s with
   | true=>rfl
   | false=>rw[wG hb] at hcw;cases hcw
  have hwbb:xj s=yg:=by rw[←yD hbal];exact hcw
  obtain⟨a,ha⟩:∃ a:Nat,z8 FUN s 0=(a:Int):=by
   rcases z1X hwbb with h | ⟨k,h⟩
   ·exact⟨0,Vi h⟩
   ·obtain⟨a,h3,_⟩:=kh (p:=FUN) (by decide) (k:=0) h
    exact⟨0+a,h3⟩
  rw[hcw] at hc
  have hal:=(jh ha).2
  have hlf:lfF s=match lnF (s.drop (a+8)) with
   | some (w,some ds)=>if ds.contains [42] then none else if s.take a==[] then some (yg,w,ds,.none) else(xU (s.take a)).map λ r=>(yg,w,ds,r)
   | _=>none:=by
   unfold lfF
   rw[ha,if_neg (Int.not_lt.mpr (Int.natCast_nonneg a)),Int.toNat_natCast]<;>rfl
  have hres:∃ res:Option V,(if s.take a==[] then some V.none else xU (s.take a))=res/\(∀ r,res=some r->vd r)/\∀ G,match res with | some r=>Ev (27+5) 40 [.str (s.take a)] G=.ok r G | none=>∃ t,Ev (27+5) 40 [.str (s.take a)] G=.exc 3 G.length (G++[.att [(txt,.str t)]])\/Ev (27+5) 40 [.str (s.take a)] G=.exc 2 G.length (G++[.att [(txt,.str t),(@"at",.int 0)]]):=by
   by_cases h0:a=0
   ·subst h0
    refine⟨some .none,rfl,λ r h=>by cases h;exact yY,λ G=>?_⟩
    show Ev 32 40 [.str []] G=.ok .none G
    rw[zv (k:=40) (b:=yG) (L:=[some (.str []),none,none]) rfl rfl rfl rfl rfl rfl rfl]
    rfl
   ·obtain⟨p1,p2⟩:=c.pf a ha h0
    have hne:(s.take a==[])=false:=by
     rw[beq_eq_false_iff_ne]
     exact λ e=>(List.take_eq_nil_iff.mp e).elim h0 λ e=>absurd (e ▸ hal) (Nat.not_succ_le_zero _)
    refine⟨xU (s.take a),by rw[hne];rfl,λ r h=>(p2 r h).1,λ G=>by
     have:=p1 hcw G
     revert this
     cases xU (s.take a)<;>exact id⟩
  obtain⟨res,hr0,hr1,hr2⟩:=hres
  have hlf2:lfF s=match lnF (s.drop (a+8)) with
   | some (w,some ds)=>if ds.contains [42] then none else res.map λ r=>(yg,w,ds,r)
   | _=>none:=by
   rw[hlf,←hr0]
   cases lnF (s.drop (a+8)) with
   | none=>rfl
   | some q=>
    obtain⟨w,od⟩:=q
    cases od with
    | none=>rfl
    | some ds=>cases ds.contains [42]<;>cases (s.take a==[])<;>rfl
  rcases QU (n:=27) (H:=H) (a:=a) (Nat.lt_trans hlen (by decide)) ha (c.tf a ha) (res:=res) hr2 with ⟨w,ds,r,q1,q2,q3,q4,q5⟩ | ⟨q1,q2⟩
  ·obtain⟨od,q6,q7⟩:=vB (dlt (Nat.lt_trans hlen (by decide))) q1
   cases od with
   | none=>
    have:=(kz (wN q6)).mpr rfl
    rw[List.length_drop] at this
    exact absurd (by rw[←this];exact(Nat.add_sub_cancel' hal).symm) q2
   | some ds'=>
    have:ds'=ds:=q7
    subst this
    refine .inr ⟨yg,w,ds',r,?_,hr1 r q4,vC hc rfl q5⟩
    rw[hlh,hlf2,q6,q4]
    simp only[q3]
    rfl
  ·refine .inl ⟨?_,kl hc rfl q2⟩
   rw[hlh,hlf2]
   cases hq:lnF (s.drop (a+8)) with
   | none=>rfl
   | some q=>
    obtain⟨w,od⟩:=q
    cases od with
    | none=>rfl
    | some ds=>
     have hnl:=YN (s:=s.drop (a+8)) (dlt (Nat.lt_trans hlen (by decide)))
     rw[hq] at hnl
     rcases q1 _ _ hnl with h | h | h
     ·have h':s.length=a+8+w.length:=h
      have hl2:=(kz (wN hq)).mp (by rw[List.length_drop,h',Nat.add_sub_cancel_left])
      cases hl2
     ·have h':ds.contains [42]=true:=h
      simp only[h']
      rfl
     ·rw[h]
      show(if ds.contains [42]=true then none else none)=none
      cases ds.contains [42]<;>rfl
 | false=>
  have hnw:xM s≠yg:=ne_ hcw
  have t8:s.take 8=FUN->yd s=false:=λ h=>by
   cases hb:yd s with
   | false=>rfl
   | true=>
    refine absurd ?_ hnw
    rw[yD hb,zP h]
    exact WT _
  refine .inl ⟨?_,hmain ?_⟩
  ·rw[hlh]
   unfold lfF
   rcases kB FUN s 0 with hf | ⟨a,ha⟩
   ·rw[hf];rfl
   ·rw[ha,if_neg (Int.not_lt.mpr (Int.natCast_nonneg a)),Int.toNat_natCast]
    cases hq:lnF (s.drop (a+8)) with
    | none=>rfl
    | some q=>
     obtain⟨w,od⟩:=q
     cases od with
     | none=>rfl
     | some ds=>
      have hs:=z2B ha
      have hg:=wN hq
      dsimp only
      by_cases h0:a=0
      ·subst h0
       refine absurd ?_ hnw
       have hs':s=FUN++s.drop (0+8):=hs
       have hb:yd s=true:=by rw[hs'];exact Yo (by decide) hg
       rw[yD hb,hs']
       exact WT _
      ·obtain⟨p1,p2⟩:=c.pf a ha h0
       cases hr:xU (s.take a) with
       | some r=>
        refine absurd ?_ hnw
        have:=(p2 r hr).2 _ _ _ hg
        rwa [←hs] at this
       | none=>
        have hal:=(jh ha).2
        have hne:(s.take a==[])=false:=by
         rw[beq_eq_false_iff_ne]
         exact λ e=>(List.take_eq_nil_iff.mp e).elim h0 λ e=>absurd (e ▸ hal) (Nat.not_succ_le_zero _)
        rw[hne]
        cases ds.contains [42]<;>rfl
  ·cases hb:yd s with
   | false=>rw[wG hb];rfl
   | true=>
    rw[yD hb]
    cases hh:HWS.contains (xj s) with
    | false=>rfl
    | true=>
     rcases z1H hh with h | h | h | h | h
     ·exact absurd h t7
     ·exact absurd h t10
     ·exact absurd h t9
     ·rw[t8 h] at hb;cases hb
     ·rw[yD hb] at hnw;exact absurd h hnw
noncomputable def CHS:List Nat:=@"CHARACTER*"
noncomputable def brk(q:List Nat):Bool:=q.take 1==[40]&&q.drop (q.length-1)==[41]&&decide (2<q.length)
noncomputable def vZ(q:List Nat):List Nat:=(q.drop 1).take (q.length-2)
noncomputable def inL(q:List Nat):List Nat:=if brk q then vZ q else q
noncomputable def ndL(i:List Nat):Bool:=i==[]||i.any (λ c=>!(decide (48<=c)&&decide (c<=57)))
theorem Wu(q:List Nat):wZ (42::q)=if brk q&&vZ q==[42] then some (.str [42]) else if brk q&&isN (vZ q) then some (.tup [.str @"name",.str (vZ q)]) else
  if ndL (inL q) then none else some (.tup [.str @"int",.int ((inL q).foldl (λ n c=>n*10+(c-48)) 0:Nat)]):=by
 have h0:lenV [.str (42::q)]=if brk q&&vZ q==[42] then some (.str [42]) else if brk q&&isN (vZ q) then some (.tup [.str @"name",.str (vZ q)]) else
  if ndL (inL q) then some (.bool false) else some (.tup [.str @"int",.int ((inL q).foldl (λ n c=>n*10+(c-48)) 0:Nat)]):=rfl
 unfold wZ
 rw[h0]
 cases brk q&&vZ q==[42] with
 | true=>rfl
 | false=>
  cases brk q&&isN (vZ q) with
  | true=>rfl
  | false=>
   cases ndL (inL q)<;>rfl
theorem Yb{c:Nat}(h:c≠42):wZ (c::q)=none:=by
 have e:lenV [.str (c::q)]=some (.bool false):=if_pos (by rw[bne,bn_ h];rfl)
 show JJ (lenV [.str (c::q)])=none
 rw[e];rfl
theorem Vt{v:V}(h:wZ p=some v):∃ x:PyData,noD x=true/\∀ n H,toD (n+2) H v=some x:=by
 cases p with
 | nil=>cases h;exact⟨.none,rfl,λ n H=>by simp only[yL,yJ,w8,ye,w0,xL,xZ,yP,y6,y7]⟩
 | cons c q=>
  by_cases hc:c=42
  ·subst hc
   rw[Wu] at h
   split at h
   ·cases h;exact⟨.str (z0 [42]),rfl,λ n H=>by simp only[yL,yJ,w8,ye,w0,xL,xZ,yP,y6,y7]⟩
   ·split at h
    ·cases h
     exact⟨.tuple [.str (z0 @"name"),.str (z0 (vZ q))],rfl,λ n H=>by simp only[yL,yJ,w8,ye,w0,xL,xZ,yP,y6,y7,Option.map_some]⟩
    ·split at h
     ·cases h
     ·cases h
      exact⟨.tuple [.str (z0 @"int"),.int ((inL q).foldl (λ n c=>n*10+(c-48)) 0:Nat)],rfl,λ n H=>by simp only[yL,yJ,w8,ye,w0,xL,xZ,yP,y6,y7,Option.map_some]⟩
  ·rw[Yb hc] at h;cases h
theorem V7{r:V}(h:xU p=some r):vd r:=by
 unfold xU at h
 split at h
 ·cases hl:wZ (p.drop 9) with
  | none=>rw[hl] at h;cases h
  | some v=>
   rw[hl] at h
   cases h
   obtain⟨x,h1,h2⟩:=Vt hl
   refine⟨.tuple [.int 5,x],by simp [noD,XB,h1],λ n H=>?_⟩
   simp only[yL,yJ,w8,ye,w0,xL,xZ,yP,y6,y7]
   rw[h2 n H]
   rfl
 ·cases hf:KND.find? (λ q=>p==q.1) with
  | none=>rw[hf] at h;cases h
  | some q=>
   rw[hf] at h
   cases h
   have h3:∀ q∈KND,∃ i:Int,q.2=.int i:=by
    intro q hq
    simp only[KND,List.mem_cons,List.not_mem_nil,or_false] at hq
    rcases hq with rfl | rfl | rfl | rfl | rfl | rfl<;>exact⟨_,rfl⟩
   obtain⟨i,hi⟩:=h3 q (List.mem_of_find?_eq_some hf)
   show vd (.tup [q.2,.none])
   rw[hi]
   exact⟨.tuple [.int i,.none],rfl,λ n H=>by simp only[yL,yJ,w8,ye,w0,xL,xZ,yP,y6,y7,Option.map_some]⟩
set_option tactic.hygienic true in
theorem VW{v:V}(h:wZ (42::q)=some v):(q≠[]/\∀ c∈q,dgC c=true)\/∃ m,q=40::(m++[41])/\∀ c∈m,c≠40/\c≠41:=by
 have hdg:∀ i:List Nat,ndL i=false->i≠[]/\∀ c∈i,dgC c=true:=by
  intro i hi
  unfold ndL at hi
  rw[Bool.or_eq_false_iff] at hi
  refine⟨by simpa using hi.1,λ c hc=>?_⟩
  have:=List.any_eq_false.mp hi.2 c hc
  unfold dgC
  cases hx:decide (48<=c)&&decide (c<=57) with
  | true=>rfl
  | false=>rw[hx] at this;exact absurd rfl this
 rw[Wu] at h
 cases hb:brk q with
 | true=>
  have hq:q=40::(vZ q++[41]):=by
   unfold brk at hb
   simp only[Bool.and_eq_true,beq_iff_eq,decide_eq_true_eq] at hb
   obtain⟨⟨h1,h2⟩,h3⟩:=hb
   unfold vZ
   have e1:=List.take_append_drop 1 q
   rw[h1] at e1
   have e2:=List.take_append_drop (q.length-2) (q.drop 1)
   rw[List.drop_drop] at e2
   have e3:1+(q.length-2)=q.length-1:=(Nat.add_sub_assoc (Nat.le_of_lt h3) 1).symm.trans (by rw[Nat.add_comm];rfl)
   rw[e3,h2] at e2
   rw[e2]
   exact e1.symm
  refine .inr ⟨vZ q,hq,?_⟩
  have hno:∀ i:List Nat,(∀ c∈i,dgC c=true)->∀ c∈i,c≠40/\c≠41:=λ i hi c hc=>by
   have:=hi c hc
   constructor<;>rintro rfl<;>cases this
  split at h
  ·rename_i h1
   rw[Bool.and_eq_true,beq_iff_eq] at h1
   rw[h1.2]
   decide
  ·split at h
   ·rename_i h1
    rw[Bool.and_eq_true] at h1
    exact λ c hc=>⟨(yx h1.2 c hc).1,(yx h1.2 c hc).2.1⟩
   ·split at h
    ·cases h
    ·rename_i h1
     have h1':ndL (inL q)=false:=by simpa using h1
     unfold inL at h1'
     rw[hb,if_pos rfl] at h1'
     exact hno _ (hdg _ h1').2
 | false=>
  rw[hb] at h
  simp only[Bool.false_and,Bool.false_eq_true,if_false] at h
  split at h
  ·cases h
  ·rename_i h1
   have h1':ndL (inL q)=false:=by simpa using h1
   unfold inL at h1'
   rw[hb,if_neg (by decide)] at h1'
   exact .inl (hdg _ h1')
theorem ZW(p x:List Nat)(i:Nat):(p++x)[p.length+i]?=x[i]?:=by
 rw[List.getElem?_append_right (Nat.le_add_right _ _),Nat.add_sub_cancel_left]
theorem yH{x w word:List Nat}(hg:jo x w (some ds))(hk:atT (p++(FUN++x)) k word=p.length):qY (p++(FUN++x)) k word=yg:=by
 obtain⟨hx,hw,ho⟩:=hg
 obtain⟨⟨c,r,hcr,hc⟩,h2,h3⟩:=isN_iff.mp hw
 have hd:(p++(FUN++x)).drop p.length=FUN++x:=List.drop_left
 have hlen8:p.length+8=(p++FUN).length:=by rw[List.length_append];rfl
 have hd8:(p++(FUN++x)).drop (p.length+8)=x:=by rw[hlen8,←List.append_assoc,List.drop_left]
 have hat:∀ i,(p++(FUN++x))[p.length+8+i]?=x[i]?:=λ i=>by rw[hlen8,←List.append_assoc,ZW]
 have hx0:x[0]?=some c:=by rw[hx,hcr];rfl
 have hrun:zo nmC x=w.length:=by
  unfold zo
  rw[hx,jf h2 (λ c' r' e=>by cases e;rfl)]
 have hne:yv (p++(FUN++x)) (p.length+8)=p.length+8+w.length:=by
  unfold yv
  have:=hat 0
  rw[Nat.add_zero] at this
  rw[this,hx0]
  simp only[hc,if_true]
  rw[hd8,hrun]
 have hpos:0<w.length:=by rw[hcr];simp
 have h40:x[w.length]?=some 40:=by
  rw[hx]
  have:=ZW w (40::(yk ds++[41])) 0
  rw[Nat.add_zero] at this
  rw[this];rfl
 unfold qY
 rw[hk,hd,hne,hat,h40,if_pos (by rfl),if_pos]
 rw[decide_eq_true (by omega)]
 rfl
theorem xb{x:List Nat}(q:List Nat×List Nat)(hq:q∈TYP)(hp:p.take q.1.length=q.1)(hl:q.1.length<=p.length):xj (p++x)=qY (p++x) q.1.length q.2:=by
 have hs:p++x=q.1++((p.drop q.1.length)++x):=by
  rw[←List.append_assoc]
  congr 1
  have:=List.take_append_drop q.1.length p
  rw[hp] at this
  exact this.symm
 rw[hs]
 generalize p.drop q.1.length++x=y
 simp only[TYP,List.mem_cons,List.not_mem_nil,or_false] at hq
 rcases hq with rfl | rfl | rfl | rfl | rfl | rfl<;>rfl
noncomputable def Q9(p:List Nat):Out:=evS G_ (Ev 31) 2000 yG [some (.str p),none,none] []
theorem z0p(p:List Nat)(G:Hp):Ev 32 40 [.str p] G=yB G (Q9 p):=zv (k:=40) (b:=yG) (L:=[some (.str p),none,none]) rfl rfl rfl rfl rfl rfl rfl
noncomputable def mS(v:V)(b:Bool):Bool:=match v with | .str _=>b | _=>false
noncomputable def mL(l:List (List Nat×V)):Bool:=match l with
 | []=>false
 | p::r=>match r with
  | []=>mS p.2 (p.1==txt)
  | _::_=>false
noncomputable def mO(o:Option O):Bool:=match o with
 | none=>false
 | some o=>match o with
  | .att l=>mL l
  | _=>false
noncomputable def kU(m:List Nat):Bool:=match Q9 (CHS++m) with
 | .ret v _=>(match xU (CHS++m) with
  | some r=>V.beq v r&&v.flatIn
  | none=>false)
 | .exc k d H'=>(match xU (CHS++m) with
  | none=>k.beq 3&&mO H'[d]?
  | some _=>false)
 | _=>false
theorem z26(h:mL l=true):∃ t,l=[(txt,.str t)]:=by
 cases l with
 | nil=>exact ft h
 | cons p r=>cases r with
  | cons _ _=>exact ft h
  | nil=>
   obtain⟨a,v⟩:=p
   cases v with
   | str t=>exact⟨t,congrArg (λ a=>[(a,V.str t)]) (eq_of_beq (a:=a) (b:=txt) h)⟩
   | _=>exact ft h
theorem z3g{o:Option O}(h:mO o=true):∃ t,o=some (.att [(txt,.str t)]):=by
 cases o with
 | none=>exact ft h
 | some o=>cases o<;>first | exact ft h | exact(z26 h).elim λ t e=>⟨t,congrArg (λ l=>some (O.att l)) e⟩
noncomputable def zR(b:List Nat):List (List Nat):=b::((List.range (b.length+1)).flatMap (λ i=>SIGNS.map λ c=>b.take i++[c]++b.drop i)++(List.range b.length).flatMap (λ i=>(b.take i++b.drop (i+1))::SIGNS.map λ c=>b.take i++[c]++b.drop (i+1)))
noncomputable def MSET:List (List Nat):=[[],[40],[41],[44],[42],[49],[65],[78],[56],@"(8",@")8",@",8",@"*8",@"18",@"A8",@"N8",@"88",@"8(",@"8)",@"8,",@"8*",@"81",@"8A",@"8N",@"(*)",@"((*)",@")(*)",@",(*)",@"*(*)",@"1(*)",@"A(*)",@"N(*)",@"8(*)",@"()*)",@"(,*)",@"(**)",@"(1*)",@"(A*)",@"(N*)",@"(8*)",@"(*()",@"(*))",@"(*,)",@"(*1)",@"(*A)",@"(*N)",@"(*8)",@"(*)(",@"(*),",@"(*)*",@"(*)1",@"(*)A",@"(*)N",@"(*)8",@"*)",@")*)",@",*)",@"**)",@"1*)",@"A*)",@"N*)",@"8*)",@"()",@"(()",@"())",@"(,)",@"(1)",@"(A)",@"(N)",@"(8)",@"(*",@"(*(",@"(*,",@"(**",@"(*1",@"(*A",@"(*N",@"(*8",@"(K)",@"((K)",@")(K)",@",(K)",@"*(K)",@"1(K)",@"A(K)",@"N(K)",@"8(K)",@"()K)",@"(,K)",@"(*K)",@"(1K)",@"(AK)",@"(NK)",@"(8K)",@"(K()",@"(K))",@"(K,)",@"(K*)",@"(K1)",@"(KA)",@"(KN)",@"(K8)",@"(K)(",@"(K),",@"(K)*",@"(K)1",@"(K)A",@"(K)N",@"(K)8",@"K)",@")K)",@",K)",@"*K)",@"1K)",@"AK)",@"NK)",@"8K)",@"(K",@"(K(",@"(K,",@"(K*",@"(K1",@"(KA",@"(KN",@"(K8",@"(2)",@"((2)",@")(2)",@",(2)",@"*(2)",@"1(2)",@"A(2)",@"N(2)",@"8(2)",@"()2)",@"(,2)",@"(*2)",@"(12)",@"(A2)",@"(N2)",@"(82)",@"(2()",@"(2))",@"(2,)",@"(2*)",@"(21)",@"(2A)",@"(2N)",@"(28)",@"(2)(",@"(2),",@"(2)*",@"(2)1",@"(2)A",@"(2)N",@"(2)8",@"2)",@")2)",@",2)",@"*2)",@"12)",@"A2)",@"N2)",@"82)",@"(2",@"(2(",@"(2,",@"(2*",@"(21",@"(2A",@"(2N",@"(28"]
noncomputable def jn(m:List Nat):Bool:=(match m with | c::_=>upC c&&c !=70 | []=>false)||!(blE 0 m==some 0)
theorem Vv{f:α->Bool}(n:Nat){l:List α}(h:(l.take n).all f=true)(t:(l.drop n).all f=true):l.all f=true:=by rw[←List.take_append_drop n l,List.all_append,h,t];rfl
theorem M_0:(MSET.take 30).all (λ m=>jn m||kU m)=true:=by decide +kernel
theorem M_1:((MSET.drop 30).take 30).all (λ m=>jn m||kU m)=true:=by decide +kernel
theorem M_2:((MSET.drop 60).take 30).all (λ m=>jn m||kU m)=true:=by decide +kernel
theorem M_3:((MSET.drop 90).take 30).all (λ m=>jn m||kU m)=true:=by decide +kernel
theorem M_4:((MSET.drop 120).take 30).all (λ m=>jn m||kU m)=true:=by decide +kernel
theorem M_5:((MSET.drop 150).take 30).all (λ m=>jn m||kU m)=true:=by decide +kernel
theorem qx{f:α->Bool}(i n:Nat){l:List α}(h:((l.drop i).take n).all f=true)(t:(l.drop (i+n)).all f=true):(l.drop i).all f=true:=Vv n h (by rw[List.drop_drop];exact t)
theorem M_ok:MSET.all (λ m=>jn m||kU m)=true:=qx 0 30 M_0 (qx 30 30 M_1 (qx 60 30 M_2 (qx 90 30 M_3 (qx 120 30 M_4 (qx 150 30 M_5 (by rfl:(MSET.drop 180).all (λ m=>jn m||kU m)=true))))))
theorem jB(h:(p.take 9==CHN)=true):p=CHN++p.drop 9:=zP (be_ h)
theorem xw{x w:List Nat}(hb:blE 0 p=some 0)(hg:jo x w od)(h:xj (p++(FUN++x))=yg):xM (p++(FUN++x))=yg:=by
 have:yd (p++(FUN++x))=true:=by
  unfold yd
  rw[yN,hb,Option.bind_some,yN,wB (p:=FUN) (by decide),Option.bind_some,Wt hg]
  rfl
 rw[yD this,h]
theorem Wi{f:Nat->Bool}{w t:List Nat}(h:∀ x∈w,f x=true)(h':∀ c r,t=c::r->f c=false):zo f (w++t)=w.length:=by
 unfold zo;rw[jf h h']
theorem pref2(p:List Nat):z1t p:=by
 intro r hr
 refine⟨V7 hr,λ x w ds hg=>?_⟩
 unfold xU at hr
 cases hc:p.take 9==CHN with
 | true=>
  rw[hc,if_pos rfl] at hr
  have hp:=jB hc
  generalize hm:p.drop 9=m at hr hp
  have hT:(CHN,CHW)∈TYP:=by decide
  have hty:xj (p++(FUN++x))=qY (p++(FUN++x)) 9 CHW:=xb (CHN,CHW) hT (by show p.take 9=CHN;exact be_ hc) (by rw[hp,List.length_append];show 9<=9+_;omega)
  cases hl:wZ m with
  | none=>rw[hl] at hr;cases hr
  | some v=>
   cases m with
   | nil=>
    have hp':p=CHN:=by rw[hp,List.append_nil]
    refine xw (by rw[hp'];rfl) hg ?_
    rw[hty]
    exact yH hg (by rw[hp'];rfl)
   | cons c q=>
    by_cases hc42:c=42
    ·subst hc42
     have hlen:p.length=10+q.length:=by rw[hp];show(CHN++42::q).length=_;rw[List.length_append];show 9+(q.length+1)=_;omega
     have hp10:p=CHS++q:=by rw[hp];rfl
     have hs:p++(FUN++x)=CHS++(q++(FUN++x)):=by rw[hp10,List.append_assoc]
     have h9:(p++(FUN++x))[9]?.toList=[42]:=by rw[hs];rfl
     have hd10:(p++(FUN++x)).drop 10=q++(FUN++x):=by rw[hs];rfl
     have hst:zA (p++(FUN++x)) 9=10+zo dgC (q++(FUN++x)):=by unfold zA;rw[show 9+1=10 from rfl,hd10]
     have hat:atT (p++(FUN++x)) 9 CHW=if (p++(FUN++x))[zA (p++(FUN++x)) 9]?.toList==[40] then zs (p++(FUN++x)) (zA (p++(FUN++x)) 9)+1 else zA (p++(FUN++x)) 9:=by
      unfold atT;rw[h9,if_pos (by rfl)]
     have hidx:∀ i,(p++(FUN++x))[10+i]?=(q++(FUN++x))[i]?:=λ i=>by
      rw[hs];exact ZW CHS _ i
     rcases VW hl with ⟨hq,hd⟩ | ⟨m,hq,hno⟩
     ·have hrun:zo dgC (q++(FUN++x))=q.length:=Wi hd (λ c r e=>by cases e;rfl)
      refine xw (by rw[hp10];rw[wB];rintro c hc';rcases ma_ hc' with h | h;exact(by decide:∀ c∈CHS,c≠40/\c≠41) c h;have:=hd c h;constructor<;>rintro rfl<;>cases this) hg ?_
      rw[hty]
      refine yH hg ?_
      rw[hat,hst,hrun,hidx]
      have:(q++(FUN++x))[q.length]?=some 70:=by have:=ZW q (FUN++x) 0;rw[Nat.add_zero] at this;rw[this];rfl
      rw[this,if_neg (by decide),hlen]
     ·have hrun:zo dgC (q++(FUN++x))=0:=by rw[hq];rfl
      refine xw ?_ hg ?_
      ·rw[hp10,yN,wB (p:=CHS) (by decide),Option.bind_some,hq]
       have e:blE 0 (40::(m++[41]))=blE 1 (m++[41]):=by simp [blE]
       rw[e,yN,wB hno,Option.bind_some]
       rfl
      ·rw[hty]
       refine yH hg ?_
       rw[hat,hst,hrun,Nat.add_zero]
       have h0:=hidx 0
       rw[Nat.add_zero] at h0
       rw[h0]
       have:(q++(FUN++x))[0]?=some 40:=by rw[hq];rfl
       rw[this,if_pos (by rfl)]
       unfold zs
       have hd11:(p++(FUN++x)).drop (10+1)=m++(41::(FUN++x)):=by
        rw[←List.drop_drop,hd10,hq];simp
       rw[hd11,Wi (λ y hy=>by simpa [bne] using (hno y hy).2) (λ c r e=>by cases e;rfl),hlen,hq]
       simp only[List.length_cons,List.length_append,List.length_nil]
       omega
    ·rw[Yb hc42] at hl;cases hl
 | false=>
  rw[hc,if_neg (by decide)] at hr
  cases hf:KND.find? (λ q=>p==q.1) with
  | none=>rw[hf] at hr;cases hr
  | some q=>
   have hq:=List.mem_of_find?_eq_some hf
   have hp:p=q.1:=by have:=List.find?_some hf;exact be_ this
   simp only[KND,List.mem_cons,List.not_mem_nil,or_false] at hq
   rcases hq with rfl | rfl | rfl | rfl | rfl | rfl
   ·exact xw (by rw[hp];rfl) hg ((xb _ (by decide:(@"INTEGER",@"integer")∈TYP) (by rw[hp];rfl) (by rw[hp];decide)).trans (yH hg (by rw[hp];rfl)))
   ·exact xw (by rw[hp];rfl) hg ((xb _ (by decide:(@"REAL",@"real")∈TYP) (by rw[hp];rfl) (by rw[hp];decide)).trans (yH hg (by rw[hp];rfl)))
   ·exact xw (by rw[hp];rfl) hg ((xb _ (by decide:(@"DOUBLEPRECISION",@"doubleprecision")∈TYP) (by rw[hp];rfl) (by rw[hp];decide)).trans (yH hg (by rw[hp];rfl)))
   ·exact xw (by rw[hp];rfl) hg ((xb _ (by decide:(@"COMPLEX",@"complex")∈TYP) (by rw[hp];rfl) (by rw[hp];decide)).trans (yH hg (by rw[hp];rfl)))
   ·exact xw (by rw[hp];rfl) hg ((xb _ (by decide:(@"LOGICAL",@"logical")∈TYP) (by rw[hp];rfl) (by rw[hp];decide)).trans (yH hg (by rw[hp];rfl)))
   ·rw[hp] at hc;cases hc
noncomputable def KT:List (List Nat×V):=[(@"INTEGER",.int 0),(@"REAL",.int 1),(@"DOUBLEPRECISION",.int 2),(@"COMPLEX",.int 3),(@"LOGICAL",.int 4)]
theorem g54:G_ 54=some (.tup (KT.map λ q=>.tup [.str q.1,q.2])):=rfl
theorem z3t(h0:(p==[])=false)(h1:(p==CHN)=false)(h2:∀ q∈KT,(p==q.1)=false)(h10:p.take 10≠CHS):∃ t,Q9 p=.exc 3 0 [.att [(txt,.str t)]]:=by
 have h:=k9 (toV:=λ q:List Nat×V=>.tup [.str q.1,q.2]) (is:=[1,2]) (b:=evS G_ (Ev 31) 2000 kY) (H:=[]) (inv:=λ L=>∃ x y,L=[some (.str p),x,y]) (cond:=λ q:List Nat×V=>p==q.1) (o:=λ q=>.ret (.tup [q.2,.none]) []) (λ v f=>rfl) KT (L:=[some (.str p),none,none]) ⟨none,none,rfl⟩ (by
  intro q hq L ⟨x,y,hL⟩
  subst hL
  refine⟨[some (.str p),some (.str q.1),some q.2],rfl,λ hc=>?_,λ hc=>⟨[some (.str p),some (.str q.1),some q.2],⟨some (.str q.1),some q.2,rfl⟩,?_⟩⟩
  ·rw[h2 q hq] at hc;cases hc
  ·unfold kY
   simp! only[hc])
 rcases h with ⟨v,h3,_⟩ | ⟨_,L',⟨x,y,hL'⟩,h3⟩
 ·have:=List.find?_some h3
  rw[h2 v (List.mem_of_find?_eq_some h3)] at this;cases this
 ·subst hL'
  have t10:wY (.str p) .none (.int 10)=some (.str (p.take 10)):=(v_slc0 p 10).trans (by rw[show(10:Int)=((10:Nat):Int) from rfl,zp])
  have c10:(p.take 10==CHS)=false:=bn_ h10
  have cst:(p==@"CHARACTER*(*)")=false:=by
   rw[beq_eq_false_iff_ne]
   rintro rfl
   exact h10 rfl
  unfold CHN at h1
  unfold CHS at c10
  refine⟨?t,?h⟩
  case h=>
   unfold Q9 yG
   simp! only[h0]
   rw[z1W (l:=KT.map λ q=>.tup [.str q.1,q.2]) (H':=[]) (by simp! only[g54]),h3]
   simp! only[h1,cst,t10,c10,Bool.not_false,xN,xW,xV]
   rfl
theorem QC(hp:p≠[])(hM:p.take 10=CHS->kU (p.drop 10)=true):z1u p:=by
 intro G
 rw[z0p]
 by_cases h10:p.take 10=CHS
 ·have hm:=hM h10
  have hs:CHS++p.drop 10=p:=(zP h10).symm
  unfold kU at hm
  rw[hs] at hm
  revert hm
  cases e1:Q9 p with
  | next L H'=>exact λ h=>ft h
  | cont L H'=>exact λ h=>ft h
  | bad=>exact λ h=>ft h
  | ret v H'=>
   cases e2:xU p with
   | none=>exact λ h=>ft h
   | some r=>
    intro hm
    have hm:=V.beqB hm
    have hv:=V.beq_eq _ _ hm.1
    subst hv
    exact(if_pos hm.2:(if v.flatIn then R.ok v G else .bad)=_)
  | exc k d H'=>
   cases e2:xU p with
   | some r=>exact λ h=>ft h
   | none=>
    intro hm
    have hm:=V.beqB hm
    obtain⟨t,hd⟩:=z3g hm.2
    have hk:=Nat.eq_of_beq_eq_true hm.1
    subst hk
    refine⟨t,.inl ?_⟩
    show(match (H'[d]?:Option O) with | some (O.att l)=>(if V.flatIn.flatL (l.map Prod.snd) then R.exc 3 G.length (G++[O.att l]) else .bad) | _=>.bad)=_
    rw[hd];rfl
 ·by_cases hc:p=CHN
  ·subst hc;rfl
  ·by_cases hk:∃ q∈KT,p=q.1
   ·obtain⟨q,hq,rfl⟩:=hk
    simp only[KT,KND,List.mem_cons,List.not_mem_nil,or_false] at hq
    rcases hq with rfl | rfl | rfl | rfl | rfl<;>rfl
   ·have hk':∀ q∈KT,(p==q.1)=false:=λ q hq=>bn_ λ e=>hk ⟨q,hq,e⟩
    have hc':(p==CHN)=false:=bn_ hc
    obtain⟨t,ht⟩:=z3t (bn_ hp) hc' hk' h10
    have hr:xU p=none:=by
     unfold xU
     cases h9:p.take 9==CHN with
     | true=>
      rw[if_pos rfl]
      have hs:=jB h9
      cases hd:p.drop 9 with
      | nil=>rw[hd,List.append_nil] at hs;exact absurd hs hc
      | cons c q=>
       rw[Yb];rfl
       rintro rfl
       rw[hd] at hs
       exact h10 (by rw[hs];rfl)
     | false=>
      rw[if_neg (by decide)]
      have:KND.find? (λ q=>p==q.1)=none:=by
       rw[List.find?_eq_none]
       intro q hq
       have:q∈KT\/q=(CHN,.int 5):=by
        simp only[KT,KND,List.mem_cons,List.not_mem_nil,or_false] at hq ⊢
        rcases hq with h | h | h | h | h | h
        ·exact .inl (.inl h)
        ·exact .inl (.inr (.inl h))
        ·exact .inl (.inr (.inr (.inl h)))
        ·exact .inl (.inr (.inr (.inr (.inl h))))
        ·exact .inl (.inr (.inr (.inr (.inr h))))
        ·exact .inr h
       rcases this with h | rfl
       ·rw[hk' q h];decide
       ·rw[hc'];decide
      rw[this];rfl
    rw[hr,ht]
    exact⟨t,.inl rfl⟩
noncomputable def HDS:List (List Nat):=HEADS++[KI]
noncomputable def jS(l:List Nat):Bool:=l.all tkC
noncomputable def WW(k:List Nat):Option Nat:=match z8 FUN k 0 with
 | .ofNat a=>some a
 | _=>none
noncomputable def Z9(h:List Nat):Bool:=decide (2<=h.length)&&!((h.drop 3).contains 72)&&!((match h[0]? with | some c=>(@"(,/:":List Nat).contains c | none=>false)&&(match h[1]? with | some c=>dgC c | none=>false))&&h.all (λ c=>Nat.blt c 97&&c !=39&&c !=61)
noncomputable def JB(k:List Nat):Bool:=decide (6<=k.length)&&!(k.take 3==@"IF(")&&!(k.take 4==@"GOTO")&&!(k.take 6==@"ASSIGN")&&!(k.take 2==@"EL") &&
 (!(k.take 6==@"CHARAC")||decide (12<=k.length))&&(!(k.take 7==PRG)||jS (k.drop 7))&&(!(k.take 9==BLD)||jS (k.drop 9))&&(!(k.take 10==ZS)||jS (k.drop 10)) &&
 (match WW k with | some a=>jS (k.drop (a+8)) | none=>true)
noncomputable def okCB(k:List Nat)(a:Nat):Bool:=(zM k a==0)&&(k[zs k a]?==some 41)&&!(((k.take (zs k a)).drop (a+1)).contains 40)
noncomputable def Zf(k:List Nat):Bool:=!(k.take 9==CHN&&k[9]?==some 42)||(decide (zA k 9<k.length)&&(!(k[zA k 9]?==some 40)||okCB k (zA k 9)))
noncomputable def Z0(k:List Nat):Bool:=match WW k with
 | some a=>a==0||!((k.take a).take 10==CHS)||(MSET.contains ((k.take a).drop 10)&&!jn ((k.take a).drop 10))
 | none=>true
noncomputable def lbad(k:List Nat):Bool:=match k.drop 10 with | c::_=>upC c&&c !=70 | []=>false
noncomputable def ubK(k:List Nat):Bool:=!(blE 0 k==some 0)
noncomputable def JP(k:List Nat):Bool:=k.drop (k.length-7)==FUN.take 7
noncomputable def wu(h:List Nat):Bool:=Z9 h&&JB (noB h)&&((Zf (noB h)&&(Z0 (noB h)||lbad (noB h)))||ubK (noB h))
theorem H_ok:HDS.all (λ h=>Z9 h&&JB (noB h)&&Zf (noB h)&&Z0 (noB h)&&!JP (noB h))=true:=by decide +kernel
theorem zf{f:α->Bool}{a:α}{l:List α}(h:f a=true)(t:l.all f=true):(a::l).all f=true:=by rw[List.all_cons,h,t];rfl
theorem E_0:(zR (HDS.getD 0 [])).all wu=true:=by decide +kernel
theorem E_1:(zR (HDS.getD 1 [])).all wu=true:=by decide +kernel
theorem E_2:(zR (HDS.getD 2 [])).all wu=true:=by decide +kernel
theorem E_3:(zR (HDS.getD 3 [])).all wu=true:=by decide +kernel
theorem E_4:(zR (HDS.getD 4 [])).all wu=true:=by decide +kernel
theorem E_5:(zR (HDS.getD 5 [])).all wu=true:=by decide +kernel
theorem E_6:(zR (HDS.getD 6 [])).all wu=true:=by decide +kernel
theorem E_7:(zR (HDS.getD 7 [])).all wu=true:=by decide +kernel
theorem E_8:(zR (HDS.getD 8 [])).all wu=true:=by decide +kernel
theorem E_9:(zR (HDS.getD 9 [])).all wu=true:=by decide +kernel
theorem E_10:(zR (HDS.getD 10 [])).all wu=true:=by decide +kernel
theorem E_11:(zR (HDS.getD 11 [])).all wu=true:=by decide +kernel
theorem E_12:(zR (HDS.getD 12 [])).all wu=true:=by decide +kernel
theorem E_13:(zR (HDS.getD 13 [])).all wu=true:=by decide +kernel
theorem E_14:(zR (HDS.getD 14 [])).all wu=true:=by decide +kernel
theorem E_ok:HDS.all (λ hd=>(zR hd).all wu)=true:=zf E_0 (zf E_1 (zf E_2 (zf E_3 (zf E_4 (zf E_5 (zf E_6 (zf E_7 (zf E_8 (zf E_9 (zf E_10 (zf E_11 (zf E_12 (zf E_13 (zf E_14 rfl))))))))))))))
theorem QW(y:List Nat):∀ (d e j:Nat),blE d y=some e->blE (d+j) y=some (e+j):=by
 induction y with
 | nil=>exact λ d e j h=>congrArg (λ d=>some (d+j)) (Option.some.inj h)
 | cons c r ih=>
  intro d e j
  show(if c=40 then blE (d+1) r else if c=41 then(match d with | 0=>none | d+1=>blE d r) else blE d r)=some e->(if c=40 then blE (d+j+1) r else if c=41 then(match d+j with | 0=>none | d+1=>blE d r) else blE (d+j) r)=some (e+j)
  by_cases h1:c=40
  ·rw[if_pos h1,if_pos h1,Nat.add_right_comm];exact ih _ _ _
  ·rw[if_neg h1,if_neg h1]
   by_cases h2:c=41
   ·rw[if_pos h2,if_pos h2]
    cases d with
    | zero=>exact λ h=>n1 h
    | succ d=>rw[Nat.succ_add];exact ih _ _ _
   ·rw[if_neg h2,if_neg h2];exact ih _ _ _
theorem QV{k y:List Nat}(hy:blE 0 y=some 0)(h:yd (k++y)=true):blE 0 k=some 0:=by
 unfold yd at h
 rw[yN,beq_iff_eq] at h
 cases hk:blE 0 k with
 | none=>rw[hk] at h;cases h
 | some d=>
  rw[hk,Option.bind_some] at h
  have:=QW y 0 0 d hy
  rw[Nat.zero_add] at this
  rw[this] at h
  exact h
theorem Xl{p:Nat->Bool}{u v:List Nat}:zo p u<u.length->zo p (u++v)=zo p u:=by
 induction u with
 | nil=>exact λ h=>absurd h (Nat.not_lt_zero _)
 | cons c r ih=>
  rw[List.cons_append,Wv,Wv]
  cases p c with
  | false=>exact λ _=>rfl
  | true=>exact λ h=>congrArg Nat.succ (ih (Nat.lt_of_succ_lt_succ h))
theorem dl_{k:List Nat}{a:Nat}(h:a+j<=k.length):j<=(k.drop a).length:=by
 rw[List.length_drop];exact Nat.le_sub_of_add_le' h
theorem dr_{k:List Nat}{a:Nat}(h:a+j<k.length):j<(k.drop a).length:=by
 rw[List.length_drop];exact Nat.lt_sub_iff_add_lt'.mpr h
theorem zm{k y:List Nat}(h:i<=k.length):(k++y).take i=k.take i:=List.take_append_of_le_length h
theorem yc{k y:List Nat}(h:i<=k.length):(k++y).drop i=k.drop i++y:=List.drop_append_of_le_length h
theorem yV{k y:List Nat}(h:i<k.length):(k++y)[i]?=k[i]?:=List.getElem?_append_left h
theorem kK{k:List Nat}{a:Nat}(h:z8 FUN k 0=(a:Int)):WW k=some a:=by
 unfold WW;rw[h]
theorem Z1{k y:List Nat}{a:Nat}(hy:∀ c∈y,c≠79)(hN:y.head?≠some 78\/JP k=false)(h:z8 FUN (k++y) 0=(a:Int)):a+8<=k.length/\z8 FUN k 0=(a:Int):=by
 obtain⟨h1,h2⟩:=jh h
 have hat:∀ i c,FUN[i]?=some c->(k++y)[a+i]?=some c:=λ i c hc=>by
  have:((k++y).drop a).take 8=FUN:=h1
  rw[←this,List.getElem?_take] at hc
  split at hc
  ·rw[List.getElem?_drop] at hc;exact hc
  ·cases hc
 have h7:a+7<=k.length:=by
  rcases Nat.lt_or_ge (a+6) k.length with h | h
  ·exact h
  ·have:=hat 6 79 rfl
   rw[List.getElem?_append_right h] at this
   exact absurd rfl (hy 79 (List.mem_of_getElem? this))
 have h8:a+8<=k.length:=by
  rcases Nat.lt_or_ge (a+7) k.length with h | h
  ·exact h
  ·exfalso
   have hk:k.length=a+7:=Nat.le_antisymm h h7
   have h77:=hat 7 78 rfl
   rw[List.getElem?_append_right h,hk,Nat.sub_self] at h77
   rcases hN with hN | hN
   ·exact hN (by rw[List.head?_eq_getElem?];exact h77)
   ·have:k.drop (k.length-7)=FUN.take 7:=by
     have e:k.length-7=a:=by rw[hk,Nat.add_sub_cancel]
     rw[e,←h1,List.take_take,yc (Nat.le_of_add_right_le h7),show min 7 8=7 from rfl,zm (dl_ h7),List.take_of_length_le (by rw[List.length_drop,hk,Nat.add_sub_cancel_left];exact Nat.le_refl 7)]
    unfold JP at hN
    rw[beq_eq_false_iff_ne] at hN
    exact hN this
 refine⟨h8,?_⟩
 have hk8:(k.drop a).take 8=FUN:=by
  rw[←h1,yc (Nat.le_of_add_right_le h7),zm (dl_ h8)]
 obtain⟨a',e1,e2⟩:=kh (p:=FUN) (by decide) (k:=0) hk8
 have e1':z8 FUN k 0=((a':Nat):Int):=by rw[e1,Nat.zero_add]
 obtain⟨g1,g2⟩:=jh e1'
 have hk':((k++y).drop a').take 8=FUN:=by
  rw[yc (Nat.le_of_add_right_le g2),zm (dl_ g2)];exact g1
 obtain⟨b,f1,f2⟩:=kh (p:=FUN) (by decide) (k:=0) hk'
 rw[h] at f1
 have ab:a=b:=(Int.ofNat_inj.mp f1).trans (Nat.zero_add b)
 have:a=a':=Nat.le_antisymm (ab ▸ f2) e2
 rw[this];exact e1'
theorem QA{k y:List Nat}{a:Nat}(hlt:a<k.length)(h40:k[a]?=some 40)(h:okCB k a=true):okC (k++y) a:=by
 unfold okCB at h
 simp only[Bool.and_eq_true,beq_iff_eq,Bool.not_eq_true'] at h
 obtain⟨⟨h1,h2⟩,h3⟩:=h
 have hcl:zs k a<k.length:=(gs_ h2).1
 have hcc:zs (k++y) a=zs k a:=by
  unfold zs at hcl ⊢
  rw[yc hlt,Xl (dr_ hcl)]
 refine⟨?_,by rw[yV hlt];exact h40,by rw[hcc,yV hcl];exact h2,λ p hp1 hp2=>?_⟩
 ·unfold zM at h1 ⊢
  rw[zm (Nat.le_of_lt hlt)];exact h1
 ·rw[hcc] at hp2
  rw[yV (Nat.lt_trans hp2 hcl)]
  intro hc
  have:40∈(k.take (zs k a)).drop (a+1):=by
   refine List.mem_of_getElem? (i:=p-(a+1)) ?_
   rw[List.getElem?_drop,List.getElem?_take,Nat.add_sub_cancel' hp1,if_pos hp2]
   exact hc
  have h4:((k.take (zs k a)).drop (a+1)).contains 40=true:=by simpa using this
  rw[h3] at h4;cases h4
theorem Wh{k y:List Nat}(hlen:(k.take 6==@"CHARAC")=true->12<=k.length)(h6:6<=k.length)(h:Zf k=true):Yj (k++y):=by
 intro t9 h9 h40
 have e6:k.take 6=@"CHARAC":=by
  have:=congrArg (List.take 6) t9
  rw[List.take_take,show min 6 9=6 from rfl,zm h6] at this
  exact this
 have h12:=hlen (beq_iff_eq.mpr e6)
 rw[zm (Nat.le_trans (by decide) h12)] at t9
 rw[yV (Nat.lt_of_lt_of_le (by decide) h12)] at h9
 unfold Zf at h
 have c9:k[9]?=some 42:=by
  cases hk:k[9]? with
  | none=>rw[hk] at h9;cases h9
  | some c=>rw[hk] at h9;cases h9;rfl
 rw[t9,c9] at h
 simp only[beq_self_eq_true,Bool.and_self,Bool.not_true,Bool.false_or,Bool.and_eq_true,decide_eq_true_eq] at h
 obtain⟨h1,h2⟩:=h
 have hst:zA (k++y) 9=zA k 9:=by
  unfold zA at h1 ⊢
  rw[yc (Nat.le_trans (by decide) h12),Xl (dr_ h1)]
 rw[hst] at h40 ⊢
 rw[yV h1] at h40
 have c40:k[zA k 9]?=some 40:=by
  cases hk:k[zA k 9]? with
  | none=>rw[hk] at h40;cases h40
  | some c=>rw[hk] at h40;cases h40;rfl
 rw[c40] at h2
 exact QA h1 c40 (by simpa using h2)
theorem z0e:∀ p∈BEG,p.2≠ze:=by decide
theorem WQ:∀ p∈TYP,p.2≠ze:=by decide
theorem Jl:∀ p∈WHO,p.2=ze->p.1.length=3:=by decide
theorem z09(h:6<=s.length):xM s≠ze:=by
 unfold xM
 split
 ·unfold xj
  cases h1:WHO.find? (λ p=>s==p.1) with
  | some p=>
   intro e
   have e2:=List.find?_some h1
   rw[be_ e2] at h
   rw[Jl p (List.mem_of_find?_eq_some h1) e] at h
   exact absurd h (by decide)
  | none=>
   cases h2:BEG.find? (λ p=>s.take p.1.length==p.1) with
   | some p=>exact z0e p (List.mem_of_find?_eq_some h2)
   | none=>
    show Zu s≠ze
    unfold Zu
    cases h3:TYP.find? (λ p=>s.take p.1.length==p.1) with
    | none=>intro e;cases e
    | some p=>
     show qY s _ _≠ze
     unfold qY
     split
     ·split
      ·intro e;cases e
      ·exact WQ p (List.mem_of_find?_eq_some h3)
     ·exact WQ p (List.mem_of_find?_eq_some h3)
 ·intro e;cases e
theorem VX{c:Nat}(h:tkC c=true):c≠39/\c≠61:=by constructor<;>rintro rfl<;>cases h
theorem Qh{l:List Nat}(h:jS l=true):∀ c∈l,tkC c=true:=λ c hc=>la_ h c hc
theorem z0Q{c:Nat}{r:List Nat}(h:s=CHS++c::r)(hc:upC c=true)(hf:c≠70):xj s≠yg:=by
 have hT:(CHN,CHW)∈TYP:=by decide
 have hty:xj s=qY s 9 CHW:=by rw[h];exact xb (p:=CHS) (CHN,CHW) hT rfl (by decide)
 have h9:s[9]?.toList=[42]:=by rw[h];rfl
 have hd:s.drop 10=c::r:=by rw[h];rfl
 have hdg:dgC c=false:=by
  unfold upC at hc
  unfold dgC
  rw[Bool.and_eq_true,decide_eq_true_eq,decide_eq_true_eq] at hc
  rw[Bool.and_eq_false_iff]
  exact .inr (decide_eq_false (Nat.not_le.mpr (Nat.lt_of_lt_of_le (by decide) hc.1)))
 have h40:c≠40:=by rintro rfl;cases hc
 have hst:zA s 9=10:=by
  unfold zA
  rw[show 9+1=10 from rfl,hd]
  unfold zo
  rw[List.takeWhile_cons,hdg]
  rfl
 have h10:s[10]?=some c:=by rw[h];rfl
 have hat:atT s 9 CHW=10:=by
  unfold atT
  rw[h9,if_pos (by rfl),hst,h10,if_neg (by simpa using h40)]
 rw[hty]
 unfold qY
 rw[hat,hd]
 have:(((c::r).take 8)==FUN)=false:=by
  rw[beq_eq_false_iff_ne]
  intro e
  rw[List.take_succ_cons] at e
  exact hf (List.cons.inj e).1
 rw[this,if_neg (by decide)]
 intro e;cases e
set_option tactic.hygienic true in
theorem z1A{k y:List Nat}(hk:JB k=true)(hlen:(k++y).length<500)(hch:∀ c∈k,c≠39/\c≠61)(hy:∀ c∈y,tkC c=true/\c≠79)(hN:y.head?≠some 78\/JP k=false)(hb:(Zf k=true/\Z0 k=true)\/(blE 0 y=some 0/\((Zf k&&(Z0 k||lbad k))||ubK k)=true)):CD (k++y):=by
 unfold JB at hk
 simp only[Bool.and_eq_true,decide_eq_true_eq] at hk
 obtain⟨⟨⟨⟨⟨⟨⟨⟨⟨h6,p3⟩,p4⟩,p6⟩,p2⟩,h12⟩,g7⟩,g9⟩,g10⟩,gf⟩:=hk
 have hub:ubK k=true->blE 0 y=some 0->yd (k++y)=false:=λ hu hy0=>by
  cases hb:yd (k++y) with
  | false=>rfl
  | true=>
   have:=QV hy0 hb
   unfold ubK at hu
   rw[this] at hu
   cases hu
 have hch':∀ c∈k++y,c≠39/\c≠61:=λ c hc=>by
  rcases ma_ hc with h | h
  ·exact hch c h
  ·exact VX (hy c h).1
 have hdrop:∀ i,(∀ c∈k.drop i,tkC c=true)->∀ c∈(k++y).drop i,tkC c=true:=λ i h c hc=>by
  rw[List.drop_append] at hc
  rcases ma_ hc with h1 | h1
  ·exact h c h1
  ·exact(hy c (List.mem_of_mem_drop h1)).1
 have hword:∀ (w:List Nat),(!(k.take w.length==w)||jS (k.drop w.length))=true->(k++y).take w.length=w->∀ c∈(k++y).drop w.length,tkC c=true:=λ w hg ht=>by
  refine hdrop _ ?_
  rcases Nat.lt_or_ge k.length w.length with h | h
  ·rw[List.drop_of_length_le (Nat.le_of_lt h)];intro c hc;cases hc
  ·rw[zm h] at ht
   rw[ht] at hg
   simp only[beq_self_eq_true,Bool.not_true,Bool.false_or] at hg
   exact Qh hg
 refine⟨hlen,hch',?_,?_,z09 (by rw[List.length_append];exact Nat.le_trans h6 (Nat.le_add_right _ _)),hword PRG g7,hword BLD g9,hword ZS g10,?_,?_⟩
 ·refine⟨?_,?_,?_,?_⟩
  ·rw[zm (Nat.le_trans (by decide) h6)];simpa using p3
  ·rw[beq_eq_false_iff_ne]
   intro e
   have:=congrArg (List.take 2) e
   rw[List.take_take,show min 2 7=2 from rfl,zm (Nat.le_trans (by decide) h6)] at this
   have p2':(k.take 2==@"EL")=false:=by simpa using p2
   rw[beq_eq_false_iff_ne] at p2'
   exact p2' this
  ·rw[zm (Nat.le_trans (by decide) h6)];simpa using p4
  ·rw[zm (Nat.le_trans (by decide) h6)];simpa using p6
 ·intro hbal
  have h12':(k.take 6==@"CHARAC")=true->12<=k.length:=λ e=>by
   rw[e] at h12;simpa using h12
  rcases hb with ⟨h1,_⟩ | ⟨h0,h1⟩
  ·exact Wh h12' h6 h1
  ·rw[Bool.or_eq_true,Bool.and_eq_true] at h1
   rcases h1 with h1 | h1
   ·exact Wh h12' h6 h1.1
   ·rw[hub h1 h0] at hbal;cases hbal
 ·intro a ha
  obtain⟨h8,hf⟩:=Z1 (λ c hc=>(hy c hc).2) hN ha
  rw[kK hf] at gf
  exact hdrop _ (Qh gf)
 ·intro a ha h0
  obtain⟨h8,hf⟩:=Z1 (λ c hc=>(hy c hc).2) hN ha
  rw[zm (Nat.le_of_add_right_le h8)]
  refine⟨λ hcls=>?_,pref2 _⟩
  refine QC (λ e=>?_) (λ hc=>?_)
  ·exact(List.take_eq_nil_iff.mp e).elim h0 λ e=>absurd (e ▸ h8) (Nat.not_succ_le_zero _)
  ·have hbal:yd (k++y)=true:=by
    cases hb:yd (k++y) with
    | true=>rfl
    | false=>rw[wG hb] at hcls;cases hcls
   have hS:Z0 k=true->kU ((k.take a).drop 10)=true:=λ hp=>by
    unfold Z0 at hp
    rw[kK hf] at hp
    have e0:(a==0)=false:=by simpa using h0
    simp only[e0,hc,beq_self_eq_true,Bool.not_true,Bool.false_or,Bool.and_eq_true] at hp
    have hm:=la_ M_ok _ (List.contains_iff_mem.mp hp.1)
    have hnb:jn ((k.take a).drop 10)=false:=by simpa using hp.2
    rw[hnb,Bool.false_or] at hm
    exact hm
   rcases hb with ⟨_,h1⟩ | ⟨hy0,h1⟩
   ·exact hS h1
   ·rw[Bool.or_eq_true,Bool.and_eq_true,Bool.or_eq_true] at h1
    rcases h1 with ⟨_,h1 | h1⟩ | h1
    ·exact hS h1
    ·exfalso
     rw[yD hbal] at hcls
     unfold lbad at h1
     split at h1
     ·rename_i c r hd
      rw[Bool.and_eq_true] at h1
      have h10:k.take 10=CHS:=by
       have h10a:10<=a:=Nat.le_trans (tkl hc rfl) (List.length_take_le _ _)
       rw[←hc,List.take_take,Nat.min_eq_left h10a]
      have hs:k++y=CHS++c::(r++y):=by
       have:=zP h10
       rw[hd] at this
       rw[this,List.append_assoc];rfl
      exact z0Q hs h1.1 (by simpa using h1.2) hcls
     ·cases h1
    ·rw[hub h1 hy0] at hbal;cases hbal
noncomputable def TLS:List (List Nat):=DUMS++NAMES.flatMap λ n=>DUMS.map (n++·)
noncomputable def qD(c:Nat):Bool:=(tkC c||c==32)&&c !=79&&c !=72
theorem z3k:TLS.all (λ t=>t.all qD&&(blE 0 (noB t)==some 0)&&!((noB t).head?==some 78))=true:=by decide +kernel
theorem z1L:SIGNS.all qD=true:=by decide
theorem kS{l:List (List Nat)}(h:k<l.length):zF l k∈l:=by
 unfold zF
 rw[List.getElem?_eq_getElem h]
 exact List.getElem_mem h
theorem QL:([]:List Nat)∈DUMS:=by decide
theorem Xv(ns:List Int):∃ hd∈HDS,∃ tl∈TLS,zI ns=hd++tl:=by
 have hw:z9 ns 0 14<HEADS.length:=y4 (by decide)
 have hi:z9 ns 1 5<NAMES.length:=y4 (by decide)
 have hj:z9 ns 3 10<DUMS.length:=y4 (by decide)
 have hD:(if (!((((z9 ns 0 14:Nat):Int)==0)||(((z9 ns 0 14:Nat):Int)==3)))||(((z9 ns 2 6:Nat):Int)==5) then zF DUMS (z9 ns 3 10) else[])∈DUMS:=by
  split
  ·exact kS hj
  ·exact QL
 unfold zI
 generalize (if (!((((z9 ns 0 14:Nat):Int)==0)||(((z9 ns 0 14:Nat):Int)==3)))||(((z9 ns 2 6:Nat):Int)==5) then zF DUMS (z9 ns 3 10) else[])=D at hD
 split
 ·exact⟨KI,List.mem_append_right _ (.head _),D,List.mem_append_left _ hD,rfl⟩
 ·exact⟨_,List.mem_append_left _ (kS hw),zF NAMES (z9 ns 1 5)++D,List.mem_append_right _ (List.mem_flatMap.mpr ⟨_,kS hi,List.mem_map.mpr ⟨D,hD,rfl⟩⟩),by rw[List.append_assoc]⟩
theorem z3w{b:List Nat}{c:Nat}(hi:i<=b.length)(hc:c∈SIGNS):b.take i++[c]++b.drop i∈zR b:=by
 unfold zR
 refine .tail _ (List.mem_append_left _ (List.mem_flatMap.mpr ⟨i,List.mem_range.mpr (Nat.lt_succ_of_le hi),List.mem_map.mpr ⟨c,hc,rfl⟩⟩))
theorem z2Z{b:List Nat}{c:Nat}(hi:i<b.length)(hc:c∈SIGNS):b.take i++[c]++b.drop (i+1)∈zR b:=by
 unfold zR
 refine .tail _ (List.mem_append_right _ (List.mem_flatMap.mpr ⟨i,List.mem_range.mpr hi,.tail _ (List.mem_map.mpr ⟨c,hc,rfl⟩)⟩))
theorem z22{b:List Nat}(hi:i<b.length):b.take i++b.drop (i+1)∈zR b:=by
 unfold zR
 exact .tail _ (List.mem_append_right _ (List.mem_flatMap.mpr ⟨i,List.mem_range.mpr hi,.head _⟩))
theorem WU{c:Nat}{tl y:List Nat}(h:c∈tl.take i++y++tl.drop j):c∈tl\/c∈y:=by
 rcases ma_ h with h | h
 ·rcases ma_ h with h | h
  ·exact .inl (List.mem_of_mem_take h)
  ·exact .inr h
 ·exact .inl (List.mem_of_mem_drop h)
theorem XY{hd tl:List Nat}{how a sg:Nat}(ha:a<=(hd++tl).length)(hs:sg∈SIGNS):∃ h x,YK how a sg (hd++tl)=h++x/\((h∈zR hd/\x=tl)\/(h=hd/\∀ c∈x,c∈tl\/c∈SIGNS)):=by
 unfold YK
 split
 ·rcases Nat.lt_or_ge hd.length a with h | h
  ·refine⟨hd,tl.take (a-hd.length)++[sg]++tl.drop (a-hd.length),?_,.inr ⟨rfl,λ c hc=>?_⟩⟩
   ·rw[List.take_append,List.drop_append,List.take_of_length_le (Nat.le_of_lt h),List.drop_of_length_le (Nat.le_of_lt h)]
    simp
   ·rcases WU hc with h | h
    ·exact .inl h
    ·rw[List.mem_singleton.mp h];exact .inr hs
  ·refine⟨hd.take a++[sg]++hd.drop a,tl,?_,.inl ⟨z3w h hs,rfl⟩⟩
   rw[zm h,yc h]
   simp
 ·split
  ·generalize hy:(if how=2 then[sg] else[])=y
   have hys:∀ c∈y,c∈SIGNS:=by
    rw[←hy]
    split
    ·intro c hc;rw[List.mem_singleton.mp hc];exact hs
    ·intro c hc;cases hc
   rcases Nat.lt_or_ge a hd.length with h | h
   ·refine⟨hd.take a++y++hd.drop (a+1),tl,?_,.inl ⟨?_,rfl⟩⟩
    ·rw[zm (Nat.le_of_lt h),yc h]
     simp
    ·rw[←hy]
     split
     ·exact z2Z h hs
     ·rw[List.append_nil];exact z22 h
   ·refine⟨hd,tl.take (a-hd.length)++y++tl.drop (a+1-hd.length),?_,.inr ⟨rfl,λ c hc=>?_⟩⟩
    ·rw[List.take_append,List.drop_append,List.take_of_length_le h,List.drop_of_length_le (Nat.le_succ_of_le h)]
     simp
    ·rcases WU hc with h | h
     ·exact .inl h
     ·exact .inr (hys c h)
  ·exact⟨hd,tl,rfl,.inl ⟨.head _,rfl⟩⟩
theorem orE{a b:Bool}{P:Prop}(h:(a||b)=true)(f:a=true->P)(g:b=true->P):P:=by
 cases a with
 | true=>exact f rfl
 | false=>exact g h
theorem WJ{c:Nat}(hk:k<97)(h:(c==k)=true):c<97:=eq_of_beq h ▸ hk
theorem tk_lt{c:Nat}(h:tkC c=true):c<97:=
 have le:∀ {a k:Nat},k<97->(decide (a<=c)&&decide (c<=k))=true->c<97:=λ hk h=>Nat.lt_of_le_of_lt (of_decide_eq_true (V.beqB h).2) hk
 orE (V.beqB (V.beqB h).1).1 (λ h=>orE h (λ h=>orE h (λ h=>orE h (λ h=>orE h (le (by decide)) (le (by decide))) (WJ (by decide))) (WJ (by decide))) (WJ (by decide))) (WJ (by decide))
theorem wX{c:Nat}(h:qD c=true):c<97/\c≠39/\c≠72/\(c≠32->tkC c=true/\c≠79):=by
 unfold qD at h
 simp only[Bool.and_eq_true,Bool.or_eq_true,bne_iff_ne,beq_iff_eq] at h
 obtain⟨⟨h1,h2⟩,h3⟩:=h
 refine⟨?_,?_,h3,λ hc=>⟨?_,h2⟩⟩
 ·rcases h1 with h1 | h1
  ·exact tk_lt h1
  ·subst h1;decide
 ·rcases h1 with h1 | h1
  ·exact(VX h1).1
  ·subst h1;decide
 ·rcases h1 with h1 | h1
  ·exact h1
  ·exact absurd h1 hc
theorem VF{h x:List Nat}(hr:Z9 h=true)(hx:∀ c∈x,qD c=true):WF (h++x):=by
 unfold Z9 at hr
 simp only[Bool.and_eq_true,decide_eq_true_eq,Bool.not_eq_true'] at hr
 obtain⟨⟨⟨h2,h72⟩,hdg⟩,hall⟩:=hr
 refine⟨λ c hc=>?_,λ i c hi hd hl c' hc'=>?_⟩
 ·rcases ma_ hc with hc | hc
  ·have:=la_ hall c hc
   simp only[Bool.and_eq_true,bne_iff_ne,Nat.blt_eq] at this
   exact⟨this.1.1,this.1.2⟩
  ·have:=wX (hx c hc)
   exact⟨this.1,this.2.1⟩
 ·rintro rfl
  obtain⟨l,hl1,hl2⟩:=hl
  have hbd:bdC c=true:=by unfold bdC;rw[hd];simp
  have hil:i<(h++x).length:=(gs_ hi).1
  have hrun:1<=zo bdC ((h++x).drop i):=by
   rw[List.drop_eq_getElem_cons hil]
   have:(h++x)[i]=c:=(gs_ hi).2
   unfold zo
   rw[this,List.takeWhile_cons,if_pos hbd]
   simp
  have hj:i+zo bdC ((h++x).drop i)<=2:=by
   generalize hjj:i+zo bdC ((h++x).drop i)=j at hc'
   rcases Nat.lt_or_ge j h.length with hlt | hge
   ·rw[yV hlt] at hc'
    rcases Nat.lt_or_ge j 3 with h3 | h3
    ·exact Nat.le_of_lt_succ h3
    ·have:72∈h.drop 3:=by
      refine List.mem_of_getElem? (i:=j-3) ?_
      rw[List.getElem?_drop,Nat.add_sub_cancel' h3];exact hc'
     have h4:(h.drop 3).contains 72=true:=by simpa using this
     rw[h72] at h4;cases h4
   ·rw[List.getElem?_append_right hge] at hc'
    exact absurd rfl (wX (hx 72 (List.mem_of_getElem? hc'))).2.2.1
  have hi1:i=1:=by
   have:i≠0:=by
    rintro rfl
    rw[List.take_zero] at hl1
    cases hl1
   exact Nat.le_antisymm (Nat.le_of_succ_le_succ (Nat.le_trans (Nat.add_le_add_left hrun i) hj)) (Nat.pos_of_ne_zero this)
  subst hi1
  cases h with
  | nil=>exact absurd h2 (Nat.not_succ_le_zero 1)
  | cons a h=>
   cases h with
   | nil=>exact absurd h2 (Nat.not_succ_le_self 1)
   | cons b r=>
    have hb:b=c:=by
     have:some b=some c:=hi
     exact Option.some.inj this
    subst hb
    have hla:l=a:=by
     have e:noB (((a::b::r)++x).take 1)=if a !=32 then[a] else[]:=by
      show noB [a]=_
      simp only[noB,List.filter_cons,List.filter_nil]
     rw[e] at hl1
     split at hl1
     ·exact(Option.some.inj hl1).symm
     ·cases hl1
    subst hla
    have hd2:((@"(,/:":List Nat).contains l&&dgC b)=false:=hdg
    rw[hl2,hd] at hd2
    cases hd2
theorem Qc{x:List Nat}(hx:∀ c∈x,qD c=true):∀ c∈noB x,tkC c=true/\c≠79:=λ c hc=>by
 have h1:=List.mem_filter.mp hc
 exact(wX (hx c h1.1)).2.2.2 (by simpa using h1.2)
theorem QI{h:List Nat}(hr:Z9 h=true):∀ c∈noB h,c≠39/\c≠61:=λ c hc=>by
 unfold Z9 at hr
 rw[Bool.and_eq_true] at hr
 have:=la_ hr.2 c (List.mem_filter.mp hc).1
 simp only[Bool.and_eq_true,bne_iff_ne] at this
 exact⟨this.1.2,this.2⟩
theorem reach(ns:List Int):WF (zn ns)/\CD (noB (zn ns)):=by
 obtain⟨hd,hhd,tl,htl,hA⟩:=Xv ns
 have hsg:sgF ns∈SIGNS:=by
  have:z9 ns 6 9<SIGNS.length:=y4 (by decide)
  unfold sgF
  rw[List.getElem?_eq_getElem this]
  exact List.getElem_mem this
 have hat:atF ns<=(hd++tl).length:=by
  have:atF ns<(zI ns).length+1:=y4 (Nat.succ_pos _)
  rw[←hA];exact Nat.le_of_lt_succ this
 obtain⟨h,x,he,hc⟩:=XY (how:=YT ns) hat hsg
 have ht:zn ns=h++x:=by unfold zn;rw[hA];exact he
 have hlen:=vg ns
 have hle:(noB (zn ns)).length<=(zn ns).length:=List.length_filter_le _ _
 have htl0:=la_ z3k tl htl
 simp only[Bool.and_eq_true,Bool.not_eq_true',beq_iff_eq,beq_eq_false_iff_ne] at htl0
 obtain⟨⟨t1,t2⟩,t3⟩:=htl0
 have t1':∀ c∈tl,qD c=true:=la_ t1
 have hnb:noB (zn ns)=noB h++noB x:=by rw[ht];exact List.filter_append h x
 rcases hc with ⟨hin,rfl⟩ | ⟨rfl,hx⟩
 ·have hE:=la_ (la_ E_ok hd hhd) h hin
  unfold wu at hE
  rw[Bool.and_eq_true,Bool.and_eq_true] at hE
  obtain⟨⟨e1,e2⟩,e3⟩:=hE
  refine⟨by rw[ht];exact VF e1 t1',?_⟩
  rw[hnb] at hle ⊢
  exact z1A e2 (Nat.lt_of_le_of_lt (Nat.le_trans hle hlen) (by decide)) (QI e1) (Qc t1') (.inl t3) (.inr ⟨t2,e3⟩)
 ·have hx':∀ c∈x,qD c=true:=λ c hc=>by
   rcases hx c hc with h | h
   ·exact t1' c h
   ·exact la_ z1L c h
  have hE:=la_ H_ok h hhd
  simp only[Bool.and_eq_true,Bool.not_eq_true'] at hE
  obtain⟨⟨⟨⟨e1,e2⟩,e3⟩,e4⟩,e5⟩:=hE
  refine⟨by rw[ht];exact VF e1 hx',?_⟩
  rw[hnb] at hle ⊢
  exact z1A e2 (Nat.lt_of_le_of_lt (Nat.le_trans hle hlen) (by decide)) (QI e1) (Qc hx') (.inr e5) (.inl ⟨e3,e4⟩)
theorem Kj(hl:ns.length<=63):∃ H',evS G_ (Ev 36) 2000 wU (LA ns none none) []=.ret (.bool true) H':=by
 obtain⟨h1,h2⟩:=reach ns
 have hlen:=vg ns
 exact JQ (n:=25) hl (λ K=>qN (n:=30) (Nat.lt_of_le_of_lt hlen (by decide)) h1) (agree h2)
section
open PyProof.Rows PySem.W
theorem JE(w:World)(x:Addr×Obj):ZO w x:=by
 intro n k p a xs vs c A s m M I H Q X hk ha C ht S hv q
 unfold xK at hk
 split at hk
 ·cases hk
  exact VQ (n:=n) ha ⟨C.B,C.hA,C.Tb,C.kb,C.fk,C.hh,by have:=C.dp;omega,by have:=C.un;omega⟩ ht S hv q
 ·cases hk
  exact z39 ha C ht S hv q
 ·cases hk
theorem holds_:rw_.Holds:=z2K (walk_ (λ w x=>JE w x) (λ ns hl=>Kj hl)) wit_
end
end Mine
end
theorem PySem.Challenge.cw_no0290_02_holds : PySem.Challenge.rw_no0290_02.Holds :=
  Mine.holds_
